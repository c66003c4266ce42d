import PyProof.Rows.All
import HandS.ForMost
import HandS.ForExc
import HandS.DeepEq
import HandS.Deep
import HandS.TupAny
import HandS.Wide
import HandS.WideBits
import HandS.TupLe
import HandS.TupMul
import HandS.Style
import HandS.Rev
import HandS.SetFor
import HandS.IsInst
import HandS.Flow
import KE.KSortTupG
import HandS.TupSets
import HandS.More
import HandS.Zip
import KE.GoesEnum
import KE.GoesMore
import HandS.Small
import HandS.Comp
import HandS.Words
import HandS.WordsExc
import HandS.Ends
import PySem.Challenge.RW_twogoods_k14_whole_rooms_of_lots
set_option Elab.async false
set_option linter.all false
set_option maxRecDepth 100000
section
namespace TG
open PySem PySem.Spec PyProof.Rows L2

/-- plain data -/
inductive D where
  | non | bl (b : Bool) | int (i : Int) | str (x : Str)
  | tup (ds : List D) | lst (ds : List D) | scr (ds : List D) | dct (kvs : List (Key × D)) | dtt (kvs : List (List Key × D))
  deriving Inhabited

abbrev KTup (K : PySem.W.Frag) (a : Addr) (xs : List V) : Prop :=
  ∃ (o : Obj) (its : Array Value) (n : Nat), K.lookup a = some o ∧ o.cls = .type "tuple" ∧ o.data = .seq its n ∧ its.size ≤ sizeLine ∧ Vals xs its.toList
abbrev KLst (K : PySem.W.Frag) (a : Addr) (xs : List V) : Prop :=
  ∃ (o : Obj) (its : Array Value) (n : Nat), K.lookup a = some o ∧ o.cls = .type "list" ∧ o.dict = none ∧ o.data = .seq its n ∧ its.size ≤ sizeLine ∧ Vals xs its.toList
def TAt (K : PySem.W.Frag) (Z : Addr → Prop) (H : Hp) (a : Addr) (vs : List V) : Prop := (Z a ∧ H a = some (.tup vs)) ∨ KTup K a vs
def LAt (Z : Addr → Prop) (H : Hp) (a : Addr) (vs : List V) : Prop := Z a ∧ H a = some (.lst vs)
def SAt (K : PySem.W.Frag) (Z : Addr → Prop) (H : Hp) (a : Addr) (vs : List V) : Prop := (Z a ∧ ∃ o, H a = some (.frz o (.lst vs))) ∨ KLst K a vs

mutual
inductive Rep (K : PySem.W.Frag) (Z : Addr → Prop) (H : Hp) : V → D → Prop
  | non : Rep K Z H .non .non
  | bl (b : Bool) : Rep K Z H (.bl b) (.bl b)
  | int (i : Int) : Rep K Z H (.int i) (.int i)
  | str (x : Str) : Rep K Z H (.str x) (.str x)
  | tup {a : Addr} {vs : List V} {ds : List D} (h : TAt K Z H a vs) (r : Reps K Z H vs ds) : Rep K Z H (.ref a) (.tup ds)
  | lst {a : Addr} {vs : List V} {ds : List D} (h : LAt Z H a vs) (r : Reps K Z H vs ds) : Rep K Z H (.ref a) (.lst ds)
  | scr {a : Addr} {vs : List V} {ds : List D} (h : SAt K Z H a vs) (r : Reps K Z H vs ds) : Rep K Z H (.ref a) (.scr ds)
  | dct {a : Addr} {kvs : List (Key × V)} {kds : List (Key × D)} (z : Z a) (h : H a = some (.dK kvs)) (r : RepKs K Z H kvs kds) : Rep K Z H (.ref a) (.dct kds)
  | dtt {a : Addr} {kvs : List (List Key × V)} {kds : List (List Key × D)} (z : Z a) (h : H a = some (.dT kvs)) (r : RepTs K Z H kvs kds) : Rep K Z H (.ref a) (.dtt kds)
inductive Reps (K : PySem.W.Frag) (Z : Addr → Prop) (H : Hp) : List V → List D → Prop
  | nil : Reps K Z H [] []
  | cons {v : V} {d : D} {vs : List V} {ds : List D} (h : Rep K Z H v d) (r : Reps K Z H vs ds) : Reps K Z H (v :: vs) (d :: ds)
inductive RepKs (K : PySem.W.Frag) (Z : Addr → Prop) (H : Hp) : List (Key × V) → List (Key × D) → Prop
  | nil : RepKs K Z H [] []
  | cons {k : Key} {v : V} {d : D} {vs : List (Key × V)} {ds : List (Key × D)} (h : Rep K Z H v d) (r : RepKs K Z H vs ds) : RepKs K Z H ((k, v) :: vs) ((k, d) :: ds)
inductive RepTs (K : PySem.W.Frag) (Z : Addr → Prop) (H : Hp) : List (List Key × V) → List (List Key × D) → Prop
  | nil : RepTs K Z H [] []
  | cons {k : List Key} {v : V} {d : D} {vs : List (List Key × V)} {ds : List (List Key × D)} (h : Rep K Z H v d) (r : RepTs K Z H vs ds) : RepTs K Z H ((k, v) :: vs) ((k, d) :: ds)
end

section
variable {K : PySem.W.Frag} {Z Z' : Addr → Prop} {H H' : Hp}
theorem TAt.mono {a : Addr} {vs : List V} (z : ∀ b, Z b → Z' b) (k : ∀ b o, Z b → H b = some o → H' b = some o) (h : TAt K Z H a vs) : TAt K Z' H' a vs := by
  rcases h with ⟨h1, h2⟩ | h
  · exact .inl ⟨z _ h1, k _ _ h1 h2⟩
  · exact .inr h
theorem LAt.mono {a : Addr} {vs : List V} (z : ∀ b, Z b → Z' b) (k : ∀ b o, Z b → H b = some o → H' b = some o) (h : LAt Z H a vs) : LAt Z' H' a vs := by
  exact ⟨z _ h.1, k _ _ h.1 h.2⟩
theorem SAt.mono {a : Addr} {vs : List V} (z : ∀ b, Z b → Z' b) (k : ∀ b o, Z b → H b = some o → H' b = some o) (h : SAt K Z H a vs) : SAt K Z' H' a vs := by
  rcases h with ⟨h1, o, h2⟩ | h
  · exact .inl ⟨z _ h1, o, k _ _ h1 h2⟩
  · exact .inr h
mutual
theorem Rep.mono (z : ∀ b, Z b → Z' b) (k : ∀ b o, Z b → H b = some o → H' b = some o) : ∀ {v : V} {d : D}, Rep K Z H v d → Rep K Z' H' v d
  | _, _, .non => .non
  | _, _, .bl b => .bl b
  | _, _, .int i => .int i
  | _, _, .str x => .str x
  | _, _, .tup h r => .tup (h.mono z k) (Reps.mono z k r)
  | _, _, .lst h r => .lst (h.mono z k) (Reps.mono z k r)
  | _, _, .scr h r => .scr (h.mono z k) (Reps.mono z k r)
  | _, _, .dct h e r => .dct (z _ h) (k _ _ h e) (RepKs.mono z k r)
  | _, _, .dtt h e r => .dtt (z _ h) (k _ _ h e) (RepTs.mono z k r)
theorem Reps.mono (z : ∀ b, Z b → Z' b) (k : ∀ b o, Z b → H b = some o → H' b = some o) : ∀ {v : List V} {d : List D}, Reps K Z H v d → Reps K Z' H' v d
  | _, _, .nil => .nil
  | _, _, .cons h r => .cons (Rep.mono z k h) (Reps.mono z k r)
theorem RepKs.mono (z : ∀ b, Z b → Z' b) (k : ∀ b o, Z b → H b = some o → H' b = some o) : ∀ {v : List (Key × V)} {d : List (Key × D)}, RepKs K Z H v d → RepKs K Z' H' v d
  | _, _, .nil => .nil
  | _, _, .cons h r => .cons (Rep.mono z k h) (RepKs.mono z k r)
theorem RepTs.mono (z : ∀ b, Z b → Z' b) (k : ∀ b o, Z b → H b = some o → H' b = some o) : ∀ {v : List (List Key × V)} {d : List (List Key × D)}, RepTs K Z H v d → RepTs K Z' H' v d
  | _, _, .nil => .nil
  | _, _, .cons h r => .cons (Rep.mono z k h) (RepTs.mono z k r)
end
theorem Reps.length : ∀ {vs : List V} {ds : List D}, Reps K Z H vs ds → vs.length = ds.length
  | _, _, .nil => rfl
  | _, _, .cons _ r => by rw [List.length_cons, List.length_cons, Reps.length r]
theorem RepKs.length : ∀ {vs : List (Key × V)} {ds : List (Key × D)}, RepKs K Z H vs ds → vs.length = ds.length
  | _, _, .nil => rfl
  | _, _, .cons _ r => by rw [List.length_cons, List.length_cons, RepKs.length r]
theorem RepTs.length : ∀ {vs : List (List Key × V)} {ds : List (List Key × D)}, RepTs K Z H vs ds → vs.length = ds.length
  | _, _, .nil => rfl
  | _, _, .cons _ r => by rw [List.length_cons, List.length_cons, RepTs.length r]
theorem Reps.get : ∀ {vs : List V} {ds : List D} {i : Nat} {d : D}, Reps K Z H vs ds → ds[i]? = some d → ∃ v, vs[i]? = some v ∧ Rep K Z H v d
  | _, _, _, _, .nil, e => by simp at e
  | _, _, 0, _, .cons h _, e => by simp at e; subst e; exact ⟨_, rfl, h⟩
  | _, _, i + 1, d, .cons _ r, e => by
    obtain ⟨v, h1, h2⟩ := Reps.get (i := i) (d := d) r (by simpa using e)
    exact ⟨v, by simpa using h1, h2⟩
theorem Reps.get' : ∀ {vs : List V} {ds : List D} {i : Nat} {v : V}, Reps K Z H vs ds → vs[i]? = some v → ∃ d, ds[i]? = some d ∧ Rep K Z H v d
  | _, _, _, _, .nil, e => by simp at e
  | _, _, 0, _, .cons h _, e => by simp at e; subst e; exact ⟨_, rfl, h⟩
  | _, _, i + 1, d, .cons _ r, e => by
    obtain ⟨v, h1, h2⟩ := Reps.get' (i := i) (v := d) r (by simpa using e)
    exact ⟨v, by simpa using h1, h2⟩
theorem Reps.append : ∀ {vs ws : List V} {ds es : List D}, Reps K Z H vs ds → Reps K Z H ws es → Reps K Z H (vs ++ ws) (ds ++ es)
  | _, _, _, _, .nil, s => s
  | _, _, _, _, .cons h r, s => .cons h (Reps.append r s)
theorem Reps.set {v : V} {d : D} (h : Rep K Z H v d) : ∀ {vs : List V} {ds : List D} (i : Nat), Reps K Z H vs ds → Reps K Z H (vs.set i v) (ds.set i d)
  | _, _, _, .nil => .nil
  | _, _, 0, .cons _ r => .cons h r
  | _, _, i + 1, .cons q r => .cons q (Reps.set h i r)
theorem Reps.take : ∀ {vs : List V} {ds : List D} (n : Nat), Reps K Z H vs ds → Reps K Z H (vs.take n) (ds.take n)
  | _, _, 0, _ => .nil
  | _, _, _ + 1, .nil => .nil
  | _, _, n + 1, .cons h r => .cons h (Reps.take n r)
theorem Reps.drop : ∀ {vs : List V} {ds : List D} (n : Nat), Reps K Z H vs ds → Reps K Z H (vs.drop n) (ds.drop n)
  | _, _, 0, r => r
  | _, _, _ + 1, .nil => .nil
  | _, _, n + 1, .cons _ r => Reps.drop n r
theorem Reps.eraseIdx : ∀ {vs : List V} {ds : List D} (n : Nat), Reps K Z H vs ds → Reps K Z H (vs.eraseIdx n) (ds.eraseIdx n)
  | _, _, _, .nil => .nil
  | _, _, 0, .cons _ r => r
  | _, _, n + 1, .cons h r => .cons h (Reps.eraseIdx n r)
theorem Reps.reverse {vs : List V} {ds : List D} (h : Reps K Z H vs ds) : Reps K Z H vs.reverse ds.reverse := by
  induction vs generalizing ds with
  | nil => cases h; exact .nil
  | cons v vs ih =>
    cases h with
    | cons h r => rw [List.reverse_cons, List.reverse_cons]; exact (ih r).append (.cons h .nil)
theorem Reps.dropLast : ∀ {vs : List V} {ds : List D}, Reps K Z H vs ds → Reps K Z H vs.dropLast ds.dropLast
  | _, _, .nil => .nil
  | _, _, .cons _ .nil => .nil
  | _, _, .cons h (.cons g r) => .cons h (Reps.dropLast (.cons g r))
theorem Reps.rep {vs : List V} {ds : List D} (h : Reps K Z H vs ds) : ∀ n : Nat, Reps K Z H (List.replicate n vs).flatten (List.replicate n ds).flatten
  | 0 => .nil
  | n + 1 => by rw [List.replicate_succ, List.replicate_succ, List.flatten_cons, List.flatten_cons]; exact h.append (Reps.rep h n)
theorem RepKs.val : ∀ {kvs : List (Key × V)} {kds : List (Key × D)} (k : Key), RepKs K Z H kvs kds →
    (valV kvs k = none ∧ kds.find? (fun kv => decide (kv.1 = k)) = none) ∨ ∃ v d, valV kvs k = some v ∧ kds.find? (fun kv => decide (kv.1 = k)) = some (k, d) ∧ Rep K Z H v d
  | _, _, _, .nil => .inl ⟨rfl, rfl⟩
  | _, _, k, .cons (k := j) (v := v) (d := d) h r => by
    by_cases e : j = k
    · subst e
      exact .inr ⟨v, d, valV_pos rfl, by simp [List.find?_cons], h⟩
    · rw [valV_neg e]
      have := RepKs.val k r
      simpa [List.find?_cons, e] using this
theorem RepTs.val : ∀ {kvs : List (List Key × V)} {kds : List (List Key × D)} (k : List Key), RepTs K Z H kvs kds →
    (valV kvs k = none ∧ kds.find? (fun kv => decide (kv.1 = k)) = none) ∨ ∃ v d, valV kvs k = some v ∧ kds.find? (fun kv => decide (kv.1 = k)) = some (k, d) ∧ Rep K Z H v d
  | _, _, _, .nil => .inl ⟨rfl, rfl⟩
  | _, _, k, .cons (k := j) (v := v) (d := d) h r => by
    by_cases e : j = k
    · subst e
      exact .inr ⟨v, d, valV_pos rfl, by simp [List.find?_cons], h⟩
    · rw [valV_neg e]
      have := RepTs.val k r
      simpa [List.find?_cons, e] using this
end

section
variable {κ α : Type} [DecidableEq κ]
def dval (kvs : List (κ × α)) (k : κ) : Option α := (kvs.find? fun kv => decide (kv.1 = k)).map (·.2)
def dput (kvs : List (κ × α)) (k : κ) (v : α) : List (κ × α) :=
  if kvs.any (fun kv => decide (kv.1 = k)) then kvs.map (fun kv => if kv.1 = k then (kv.1, v) else kv) else kvs ++ [(k, v)]
def ddrop (kvs : List (κ × α)) (k : κ) : List (κ × α) := kvs.filter fun kv => decide (kv.1 ≠ k)
def dmerge (kvs more : List (κ × α)) : List (κ × α) := more.foldl (fun acc kv => dput acc kv.1 kv.2) kvs
end

inductive Rv where
  | im (d : D) | fr (d : D) | bo (i : Nat)
inductive Sl where
  | un | im (d : D) | ow (d : D) | io (d : D) | lk (d : D)
  deriving Inhabited
abbrev Env := List Sl
abbrev XD := Str × Option D

/-- a mutable thing at a: its parts are data -/
inductive Top (K : PySem.W.Frag) (Z : Addr → Prop) (H : Hp) (a : Addr) : D → Prop
  | lst {vs : List V} {ds : List D} (h : H a = some (.lst vs)) (r : Reps K Z H vs ds) : Top K Z H a (.lst ds)
  | dct {kvs : List (Key × V)} {kds : List (Key × D)} (h : H a = some (.dK kvs)) (r : RepKs K Z H kvs kds) : Top K Z H a (.dct kds)
  | dtt {kvs : List (List Key × V)} {kds : List (List Key × D)} (h : H a = some (.dT kvs)) (r : RepTs K Z H kvs kds) : Top K Z H a (.dtt kds)

/-- .. locked -/
inductive Lkd (K : PySem.W.Frag) (Z : Addr → Prop) (H : Hp) (a : Addr) : D → Prop
  | dct {o : Obj} {kvs : List (Key × V)} {kds : List (Key × D)} (h : H a = some (.frz o (.dK kvs))) (r : RepKs K Z H kvs kds) : Lkd K Z H a (.dct kds)

/-- what stays through a def's run: K the written part, H0 the heap at its entry, S the things handed in to be changed, Z0 what stood in what was handed in, ad the addresses of the slots handed in to be changed -/
structure Gh where
  K : PySem.W.Frag
  H0 : Hp
  S : Addr → Prop
  Z0 : Addr → Prop
  ad : Nat → Addr

def Siz (H : Hp) : Prop := (∀ a xs, Rd H a (.lst xs) → xs.length ≤ sizeLine) ∧ (∀ a xs, H a = some (.tup xs) → xs.length ≤ sizeLine) ∧
  (∀ a (kvs : List (Key × V)), H a = some (.dK kvs) → kvs.length ≤ sizeLine) ∧ ∀ a (kvs : List (List Key × V)), H a = some (.dT kvs) → kvs.length ≤ sizeLine

def own (env : Env) (i : Nat) : Prop := ∃ d, env[i]? = some (Sl.ow d) ∨ env[i]? = some (Sl.io d)
def ownk (env : Env) (i : Nat) : Prop := own env i ∨ ∃ d, env[i]? = some (Sl.lk d)
def Ow (σ : L2.St) (env : Env) (a : Addr) : Prop := ∃ i : Nat, own env i ∧ σ[i]? = some (some (V.ref a))

structure Rel (G : Gh) (σ : L2.St) (Z : Addr → Prop) (H : Hp) (env : Env) : Prop where
  len : env.length = σ.length
  im : ∀ (i : Nat) (d : D), env[i]? = some (Sl.im d) → ∃ v : V, σ[i]? = some (some v) ∧ Rep G.K Z H v d
  ow : ∀ (i : Nat) (d : D), env[i]? = some (Sl.ow d) → ∃ a : Addr, σ[i]? = some (some (V.ref a)) ∧ ¬ Z a ∧ G.H0 a = none ∧ Top G.K Z H a d
  io : ∀ (i : Nat) (d : D), env[i]? = some (Sl.io d) → σ[i]? = some (some (V.ref (G.ad i))) ∧ ¬ Z (G.ad i) ∧ G.S (G.ad i) ∧ Top G.K Z H (G.ad i) d
  lk : ∀ (i : Nat) (d : D), env[i]? = some (Sl.lk d) → ∃ a : Addr, σ[i]? = some (some (V.ref a)) ∧ ¬ Z a ∧ Lkd G.K Z H a d
  inj : ∀ (i j : Nat) (a : Addr), ownk env i → ownk env j → σ[i]? = some (some (V.ref a)) → σ[j]? = some (some (V.ref a)) → i = j
  z0 : ∀ b, G.Z0 b → Z b
  z1 : ∀ b, Z b → G.Z0 b ∨ G.H0 b = none
  zt : ∀ b, Z b → ∃ o, H b = some o
  keep : ∀ b o, G.H0 b = some o → ¬ G.S b → H b = some o
  tr : ∀ b o, G.H0 b = some o → ∃ u, H b = some u

structure Grow (O : Addr → Prop) (Z : Addr → Prop) (H : Hp) (Z' : Addr → Prop) (H' : Hp) : Prop where
  zz : ∀ b, Z b → Z' b
  zn : ∀ b, Z' b → Z b ∨ O b ∨ H b = none
  hk : ∀ b o, H b = some o → ¬ O b → H' b = some o
  tr : ∀ b o, H b = some o → ∃ u, H' b = some u
structure Stp (σ : L2.St) (Z : Addr → Prop) (H : Hp) (env : Env) (Z' : Addr → Prop) (H' : Hp) (env' : Env) : Prop where
  grow : Grow (Ow σ env) Z H Z' H'
  sub : ∀ i, own env' i → own env i

/-- at the top a thing of any owner -/
def RepT (K : PySem.W.Frag) (Z : Addr → Prop) (H : Hp) (v : V) (d : D) : Prop := Rep K Z H v d ∨ ∃ a, v = V.ref a ∧ (Top K Z H a d ∨ Lkd K Z H a d)

def RepR (G : Gh) (σ : L2.St) (Z : Addr → Prop) (H : Hp) (env : Env) : Rv → V → Prop
  | .im d, v => Rep G.K Z H v d
  | .fr d, v => ∃ a, v = .ref a ∧ ¬ Z a ∧ ¬ Ow σ env a ∧ G.H0 a = none ∧ Top G.K Z H a d
  | .bo i, v => σ[i]? = some (some v)
/-- a new thing is new -/
def RepN (H : Hp) : Rv → V → Prop
  | .fr _, v => ∀ a, v = V.ref a → H a = none
  | _, _ => True
end TG
end
section
namespace TG
open PySem PySem.Spec PyProof.Rows L2

section
variable {G : Gh} {σ : L2.St} {Z Z' Z2 : Addr → Prop} {H H' H2 : Hp} {env env' env2 : Env} {v : V} {d : D} {a : Addr}
theorem Rel.nO (R : Rel G σ Z H env) {b : Addr} (z : Z b) : ¬ Ow σ env b := by
  rintro ⟨i, ⟨d, h | h⟩, e⟩
  · obtain ⟨a, e1, nz, _⟩ := R.ow i d h
    rw [e] at e1; cases e1; exact nz z
  · obtain ⟨e1, nz, _⟩ := R.io i d h
    rw [e] at e1; cases e1; exact nz z
theorem Rel.ownT (R : Rel G σ Z H env) {b : Addr} (o : Ow σ env b) : ∃ u, H b = some u ∧ Mut (some u) ∧ ∃ d, Top G.K Z H b d := by
  obtain ⟨i, ⟨d, h | h⟩, e⟩ := o
  · obtain ⟨a, e1, nz, _, t⟩ := R.ow i d h
    rw [e] at e1; cases e1
    cases t with
    | lst h1 r => exact ⟨_, h1, trivial, _, .lst h1 r⟩
    | dct h1 r => exact ⟨_, h1, trivial, _, .dct h1 r⟩
    | dtt h1 r => exact ⟨_, h1, trivial, _, .dtt h1 r⟩
  · obtain ⟨e1, nz, _, t⟩ := R.io i d h
    rw [e] at e1; cases e1
    cases t with
    | lst h1 r => exact ⟨_, h1, trivial, _, .lst h1 r⟩
    | dct h1 r => exact ⟨_, h1, trivial, _, .dct h1 r⟩
    | dtt h1 r => exact ⟨_, h1, trivial, _, .dtt h1 r⟩
theorem Rel.tupO (R : Rel G σ Z H env) {b : Addr} {xs : List V} (h : H b = some (.tup xs)) : ¬ Ow σ env b := fun o => by
  obtain ⟨u, e, m, _⟩ := R.ownT o
  rw [h] at e; cases e; exact m
theorem Stp.refl : Stp σ Z H env Z H env := ⟨⟨fun _ z => z, fun _ z => .inl z, fun _ _ h _ => h, fun _ o h => ⟨o, h⟩⟩, fun _ h => h⟩
theorem Stp.trans (s1 : Stp σ Z H env Z' H' env') (s2 : Stp σ Z' H' env' Z2 H2 env2) : Stp σ Z H env Z2 H2 env2 := by
  have so : ∀ b, Ow σ env' b → Ow σ env b := fun b ⟨i, h, e⟩ => ⟨i, s1.sub i h, e⟩
  refine ⟨⟨fun b z => s2.grow.zz b (s1.grow.zz b z), fun b z => ?_, fun b o h n => s2.grow.hk b o (s1.grow.hk b o h n) fun q => n (so b q), fun b o h => ?_⟩, fun i h => s1.sub i (s2.sub i h)⟩
  rcases s2.grow.zn b z with z | z | z
  · exact s1.grow.zn b z
  · exact .inr (.inl (so b z))
  · by_cases hb : Ow σ env b
    · exact .inr (.inl hb)
    · refine .inr (.inr ?_)
      cases q : H b with
      | none => rfl
      | some o => rw [s1.grow.hk b o q hb] at z; cases z
  · obtain ⟨u, h⟩ := s1.grow.tr b o h
    exact s2.grow.tr b u h
theorem Stp.rep (s : Stp σ Z H env Z' H' env') (R : Rel G σ Z H env) {K : PySem.W.Frag} (r : Rep K Z H v d) : Rep K Z' H' v d :=
  r.mono s.grow.zz fun b o z h => s.grow.hk b o h (R.nO z)
theorem Stp.reps (s : Stp σ Z H env Z' H' env') (R : Rel G σ Z H env) {K : PySem.W.Frag} {vs : List V} {ds : List D} (r : Reps K Z H vs ds) : Reps K Z' H' vs ds :=
  r.mono s.grow.zz fun b o z h => s.grow.hk b o h (R.nO z)
theorem Top.mono {K : PySem.W.Frag} (z : ∀ b, Z b → Z' b) (k : ∀ b o, Z b → H b = some o → H' b = some o) (ka : ∀ o, H a = some o → H' a = some o) (t : Top K Z H a d) : Top K Z' H' a d := by
  cases t with
  | lst h r => exact .lst (ka _ h) (r.mono z k)
  | dct h r => exact .dct (ka _ h) (r.mono z k)
  | dtt h r => exact .dtt (ka _ h) (r.mono z k)
theorem Top.there {K : PySem.W.Frag} (t : Top K Z H a d) : ∃ o, H a = some o := by
  cases t with
  | lst h r => exact ⟨_, h⟩
  | dct h r => exact ⟨_, h⟩
  | dtt h r => exact ⟨_, h⟩
theorem Lkd.mono {K : PySem.W.Frag} (z : ∀ b, Z b → Z' b) (k : ∀ b o, Z b → H b = some o → H' b = some o) (ka : ∀ o, H a = some o → H' a = some o) (t : Lkd K Z H a d) : Lkd K Z' H' a d := by
  cases t with
  | dct h r => exact .dct (ka _ h) (r.mono z k)
theorem Lkd.there {K : PySem.W.Frag} (t : Lkd K Z H a d) : ∃ o, H a = some o := by
  cases t with
  | dct h r => exact ⟨_, h⟩
theorem Rel.lkO (R : Rel G σ Z H env) {b : Addr} {d : D} (l : Lkd G.K Z H b d) : ¬ Ow σ env b := fun o => by
  obtain ⟨u, e, m, _⟩ := R.ownT o
  cases l with
  | dct h r => rw [h] at e; cases e; exact m
theorem Stp.repR (s : Stp σ Z H env Z' H' env') (R : Rel G σ Z H env) {r : Rv} (h : RepR G σ Z H env r v) : RepR G σ Z' H' env' r v := by
  cases r with
  | im d => exact s.rep R h
  | fr d =>
    obtain ⟨a, rfl, nz, no, h0, t⟩ := h
    obtain ⟨o, ho⟩ := t.there
    refine ⟨a, rfl, fun z => ?_, fun ⟨i, q, e⟩ => no ⟨i, s.sub i q, e⟩, h0, t.mono s.grow.zz (fun b o z h => s.grow.hk b o h (R.nO z)) fun o h => s.grow.hk a o h no⟩
    rcases s.grow.zn a z with z | z | z
    · exact nz z
    · exact no z
    · rw [ho] at z; cases z
  | bo i => exact h
theorem Rel.h0n (R : Rel G σ Z H env) {p : Addr} (hp : H p = none) : G.H0 p = none := by
  cases q : G.H0 p with
  | none => rfl
  | some u =>
    obtain ⟨w, h⟩ := R.tr p u q
    rw [hp] at h; cases h
theorem Stp.nn (s : Stp σ Z H env Z' H' env') {b : Addr} (h : H' b = none) : H b = none := by
  cases q : H b with
  | none => rfl
  | some o =>
    obtain ⟨u, e⟩ := s.grow.tr b o q
    rw [h] at e; cases e
theorem Stp.repN (s : Stp σ Z H env Z' H' env') {r : Rv} (h : RepN H' r v) : RepN H r v := by
  cases r with
  | fr d => exact fun a e => s.nn (h a e)
  | im d => trivial
  | bo i => trivial
/-- a new tuple -/
abbrev Zi (Z : Addr → Prop) (a : Addr) : Addr → Prop := fun b => Z b ∨ b = a
theorem hk_upd {p : Addr} {o : HO} (hp : H p = none) : ∀ b u, H b = some u → upd H p o b = some u := fun b u h => by rw [upd_ne (ne_of_none h hp)]; exact h
theorem Rel.frz0 (R : Rel G σ Z H env) {p : Addr} {o : HO} (hp : H p = none) : Rel G σ (Zi Z p) (upd H p o) env := by
  have k := hk_upd (o := o) hp
  have zk : ∀ b u, Z b → H b = some u → upd H p o b = some u := fun b u _ h => k b u h
  have np : ∀ {b}, (∃ u, H b = some u) → b ≠ p := fun ⟨u, h⟩ => ne_of_none h hp
  refine ⟨R.len, fun i d h => ?_, fun i d h => ?_, fun i d h => ?_, fun i d h => ?_, R.inj, fun b z => .inl (R.z0 b z), fun b z => ?_, fun b z => ?_, fun b u h n => k b u (R.keep b u h n), fun b u h => ?_⟩
  · obtain ⟨v, e, r⟩ := R.im i d h
    exact ⟨v, e, r.mono (fun b z => .inl z) zk⟩
  · obtain ⟨a, e, nz, h0, t⟩ := R.ow i d h
    exact ⟨a, e, fun z => z.elim nz (np t.there), h0, t.mono (fun b z => .inl z) zk (k a)⟩
  · obtain ⟨e, nz, h0, t⟩ := R.io i d h
    exact ⟨e, fun z => z.elim nz (np t.there), h0, t.mono (fun b z => .inl z) zk (k _)⟩
  · obtain ⟨a, e, nz, t⟩ := R.lk i d h
    exact ⟨a, e, fun z => z.elim nz (np t.there), t.mono (fun b z => .inl z) zk (k a)⟩
  · rcases z with z | rfl
    · exact R.z1 b z
    · exact .inr (R.h0n hp)
  · rcases z with z | rfl
    · obtain ⟨u, h⟩ := R.zt b z; exact ⟨u, k b u h⟩
    · exact ⟨o, upd_same⟩
  · obtain ⟨w, q⟩ := R.tr b u h
    exact ⟨w, k b w q⟩
/-- a new mutable thing, of nobody yet -/
theorem Rel.fresh (R : Rel G σ Z H env) {p : Addr} {o : HO} (hp : H p = none) : Rel G σ Z (upd H p o) env := by
  have k := hk_upd (o := o) hp
  have zk : ∀ b u, Z b → H b = some u → upd H p o b = some u := fun b u _ h => k b u h
  refine ⟨R.len, fun i d h => ?_, fun i d h => ?_, fun i d h => ?_, fun i d h => ?_, R.inj, R.z0, R.z1, fun b z => ?_, fun b u h n => k b u (R.keep b u h n), fun b u h => ?_⟩
  · obtain ⟨v, e, r⟩ := R.im i d h
    exact ⟨v, e, r.mono (fun b z => z) zk⟩
  · obtain ⟨a, e, nz, h0, t⟩ := R.ow i d h
    exact ⟨a, e, nz, h0, t.mono (fun b z => z) zk (k a)⟩
  · obtain ⟨e, nz, h0, t⟩ := R.io i d h
    exact ⟨e, nz, h0, t.mono (fun b z => z) zk (k _)⟩
  · obtain ⟨a, e, nz, t⟩ := R.lk i d h
    exact ⟨a, e, nz, t.mono (fun b z => z) zk (k a)⟩
  · obtain ⟨u, h⟩ := R.zt b z; exact ⟨u, k b u h⟩
  · obtain ⟨w, q⟩ := R.tr b u h
    exact ⟨w, k b w q⟩
theorem Rel.zn (R : Rel G σ Z H env) {p : Addr} (hp : H p = none) : ¬ Z p := fun z => by
  obtain ⟨u, h⟩ := R.zt p z
  rw [hp] at h; cases h
theorem Rel.on (R : Rel G σ Z H env) {p : Addr} (hp : H p = none) : ¬ Ow σ env p := fun o => by
  obtain ⟨u, h, _⟩ := R.ownT o
  rw [hp] at h; cases h
theorem Stp.frz0 {p : Addr} {o : HO} (hp : H p = none) : Stp σ Z H env (Zi Z p) (upd H p o) env :=
  ⟨⟨fun _ z => .inl z, fun b z => z.elim .inl fun e => .inr (.inr (by rw [e]; exact hp)), fun b u h _ => hk_upd hp b u h, fun b u h => ⟨u, hk_upd hp b u h⟩⟩, fun _ h => h⟩
theorem Stp.fresh {p : Addr} {o : HO} (hp : H p = none) : Stp σ Z H env Z (upd H p o) env :=
  ⟨⟨fun _ z => z, fun b z => .inl z, fun b u h _ => hk_upd hp b u h, fun b u h => ⟨u, hk_upd hp b u h⟩⟩, fun _ h => h⟩
/-- a thing of nobody is kept for good -/
theorem Rel.freeze (R : Rel G σ Z H env) {a : Addr} (no : ¬ Ow σ env a) (h0 : G.H0 a = none) (t : ∃ o, H a = some o ∧ Mut (some o)) : Rel G σ (Zi Z a) H env := by
  have zk : ∀ b u, Z b → H b = some u → H b = some u := fun b u _ h => h
  refine ⟨R.len, fun i d h => ?_, fun i d h => ?_, fun i d h => ?_, fun i d h => ?_, R.inj, fun b z => .inl (R.z0 b z), fun b z => ?_, fun b z => ?_, R.keep, R.tr⟩
  · obtain ⟨v, e, r⟩ := R.im i d h
    exact ⟨v, e, r.mono (fun b z => .inl z) zk⟩
  · obtain ⟨b, e, nz, h0, t⟩ := R.ow i d h
    exact ⟨b, e, fun z => z.elim nz fun q => no ⟨i, ⟨d, .inl h⟩, by rw [← q]; exact e⟩, h0, t.mono (fun b z => .inl z) zk (fun _ h => h)⟩
  · obtain ⟨e, nz, h0, t⟩ := R.io i d h
    exact ⟨e, fun z => z.elim nz fun q => no ⟨i, ⟨d, .inr h⟩, by rw [← q]; exact e⟩, h0, t.mono (fun b z => .inl z) zk (fun _ h => h)⟩
  · obtain ⟨b, e, nz, l⟩ := R.lk i d h
    refine ⟨b, e, fun z => z.elim nz fun q => ?_, l.mono (fun b z => .inl z) zk (fun _ h => h)⟩
    subst q
    obtain ⟨o, ho, m⟩ := t
    cases l with
    | dct hh r => rw [hh] at ho; cases ho; exact m
  · exact z.elim (R.z1 b) fun e => .inr (by rw [e]; exact h0)
  · exact z.elim (R.zt b) fun e => by rw [e]; obtain ⟨o, h, _⟩ := t; exact ⟨o, h⟩
theorem own_set_im {env : Env} {i j : Nat} {d : D} (h : own (env.set i (.im d)) j) : own env j ∧ j ≠ i := by
  obtain ⟨e, h⟩ := h
  by_cases q : j = i
  · subst q
    by_cases l : j < env.length
    · rw [List.getElem?_set_self l] at h
      rcases h with h | h <;> cases h
    · rw [List.getElem?_eq_none (by rw [List.length_set]; omega)] at h
      rcases h with h | h <;> cases h
  · rw [List.getElem?_set_ne (Ne.symm q)] at h
    exact ⟨⟨e, h⟩, q⟩
theorem ownk_set_im {env : Env} {i j : Nat} {d : D} (h : ownk (env.set i (.im d)) j) : ownk env j ∧ j ≠ i := by
  rcases h with h | ⟨e, h⟩
  · exact ⟨.inl (own_set_im h).1, (own_set_im h).2⟩
  · by_cases q : j = i
    · subst q
      by_cases l : j < env.length
      · rw [List.getElem?_set_self l] at h; cases h
      · rw [List.getElem?_eq_none (by rw [List.length_set]; omega)] at h; cases h
    · rw [List.getElem?_set_ne (Ne.symm q)] at h
      exact ⟨.inr ⟨e, h⟩, q⟩
theorem Top.rep {K : PySem.W.Frag} {a : Addr} {d : D} (t : Top K Z H a d) (z : ∀ b, Z b → Z' b) (za : Z' a) : Rep K Z' H (.ref a) d := by
  have k : ∀ b o, Z b → H b = some o → H b = some o := fun _ _ _ h => h
  cases t with
  | lst h r => exact .lst ⟨za, h⟩ (r.mono z k)
  | dct h r => exact .dct za h (r.mono z k)
  | dtt h r => exact .dtt za h (r.mono z k)
/-- a slot's own thing is kept for good -/
theorem Rel.freezeSlot (R : Rel G σ Z H env) {i : Nat} {d : D} (h : env[i]? = some (Sl.ow d)) : ∃ a : Addr, σ[i]? = some (some (V.ref a)) ∧ Rel G σ (Zi Z a) H (env.set i (.im d)) ∧ Stp σ Z H env (Zi Z a) H (env.set i (.im d)) ∧ Rep G.K (Zi Z a) H (.ref a) d := by
  obtain ⟨a, e, nz, h0, t⟩ := R.ow i d h
  have oi : Ow σ env a := ⟨i, ⟨d, .inl h⟩, e⟩
  have il : i < env.length := by
    by_cases l : i < env.length
    · exact l
    · rw [List.getElem?_eq_none (by omega)] at h; cases h
  have zk : ∀ b u, Z b → H b = some u → H b = some u := fun b u _ h => h
  have rr := t.rep (Z' := Zi Z a) (fun b z => .inl z) (.inr rfl)
  refine ⟨a, e, ⟨by rw [List.length_set]; exact R.len, fun j c hj => ?_, fun j c hj => ?_, fun j c hj => ?_, fun j c hj => ?_, fun j k b hj hk => R.inj j k b (ownk_set_im hj).1 (ownk_set_im hk).1, fun b z => .inl (R.z0 b z), fun b z => ?_, fun b z => ?_, R.keep, R.tr⟩, ⟨⟨fun _ z => .inl z, fun b z => z.elim .inl fun q => .inr (.inl (by rw [q]; exact oi)), fun _ _ h _ => h, fun _ o h => ⟨o, h⟩⟩, fun j hj => (own_set_im hj).1⟩, rr⟩
  · by_cases q : i = j
    · subst q
      rw [List.getElem?_set_self il] at hj
      cases hj
      exact ⟨_, e, rr⟩
    · rw [List.getElem?_set_ne q] at hj
      obtain ⟨v, e, r⟩ := R.im j c hj
      exact ⟨v, e, r.mono (fun b z => .inl z) zk⟩
  · have ⟨oj, nj⟩ := own_set_im (⟨c, .inl hj⟩ : own (env.set i (.im d)) j)
    rw [List.getElem?_set_ne (Ne.symm nj)] at hj
    obtain ⟨b, e2, nz2, h02, t2⟩ := R.ow j c hj
    exact ⟨b, e2, fun z => z.elim nz2 fun q => nj (R.inj j i a (.inl oj) (.inl ⟨d, .inl h⟩) (by rw [← q]; exact e2) e), h02, t2.mono (fun b z => .inl z) zk (fun _ h => h)⟩
  · have ⟨oj, nj⟩ := own_set_im (⟨c, .inr hj⟩ : own (env.set i (.im d)) j)
    rw [List.getElem?_set_ne (Ne.symm nj)] at hj
    obtain ⟨e2, nz2, h02, t2⟩ := R.io j c hj
    exact ⟨e2, fun z => z.elim nz2 fun q => nj (R.inj j i a (.inl oj) (.inl ⟨d, .inl h⟩) (by rw [← q]; exact e2) e), h02, t2.mono (fun b z => .inl z) zk (fun _ h => h)⟩
  · have ⟨oj, nj⟩ := ownk_set_im (.inr ⟨c, hj⟩ : ownk (env.set i (.im d)) j)
    rw [List.getElem?_set_ne (Ne.symm nj)] at hj
    obtain ⟨b, e2, nz2, t2⟩ := R.lk j c hj
    exact ⟨b, e2, fun z => z.elim nz2 fun q => nj (R.inj j i a oj (.inl ⟨d, .inl h⟩) (by rw [← q]; exact e2) e), t2.mono (fun b z => .inl z) zk (fun _ h => h)⟩
  · exact z.elim (R.z1 b) fun q => .inr (by rw [q]; exact h0)
  · exact z.elim (R.zt b) fun q => by rw [q]; exact t.there
theorem own_set {env : Env} {i j : Nat} {s : Sl} (h : own (env.set i s) j) : own env j ∨ j = i := by
  obtain ⟨e, h⟩ := h
  by_cases q : j = i
  · exact .inr q
  · rw [List.getElem?_set_ne (Ne.symm q)] at h
    exact .inl ⟨e, h⟩
/-- a slot's own thing is changed: i's thing at a -/
theorem Rel.write (R : Rel G σ Z H env) {i : Nat} {s s' : Sl} {d d' : D} {o : HO} (h : env[i]? = some s) (hs : (s = .ow d ∧ s' = .ow d') ∨ (s = .io d ∧ s' = .io d')) (e : σ[i]? = some (some (V.ref a))) (t : ∀ H', (∀ b u, b ≠ a → H b = some u → H' b = some u) → H' a = some o → Top G.K Z H' a d') :
    Rel G σ Z (upd H a o) (env.set i s') ∧ Stp σ Z H env Z (upd H a o) (env.set i s') := by
  have oi : own env i := by
    rcases hs with ⟨rfl, _⟩ | ⟨rfl, _⟩
    · exact ⟨d, .inl h⟩
    · exact ⟨d, .inr h⟩
  have oa : Ow σ env a := ⟨i, oi, e⟩
  have il : i < env.length := by
    by_cases l : i < env.length
    · exact l
    · rw [List.getElem?_eq_none (by omega)] at h; cases h
  have zne : ∀ b, Z b → b ≠ a := fun b z q => R.nO z (by rw [q]; exact oa)
  have hk : ∀ b u, b ≠ a → H b = some u → upd H a o b = some u := fun b u n h => by rw [upd_ne n]; exact h
  have zk : ∀ b u, Z b → H b = some u → upd H a o b = some u := fun b u z h => hk b u (zne b z) h
  have ta : Top G.K Z (upd H a o) a d' := t _ hk upd_same
  have sub : ∀ j, own (env.set i s') j → own env j := fun j hj => (own_set hj).elim id fun q => by rw [q]; exact oi
  have subk : ∀ j, ownk (env.set i s') j → ownk env j := fun j hj => by
    rcases hj with hj | ⟨c, hj⟩
    · exact .inl (sub j hj)
    · by_cases q : i = j
      · subst q; exact .inl oi
      · rw [List.getElem?_set_ne q] at hj; exact .inr ⟨c, hj⟩
  refine ⟨⟨by rw [List.length_set]; exact R.len, fun j c hj => ?_, fun j c hj => ?_, fun j c hj => ?_, fun j c hj => ?_, fun j k b hj hk => R.inj j k b (subk j hj) (subk k hk), R.z0, R.z1, fun b z => ?_, fun b u _ n => ?_, fun b u hb => ?_⟩, ⟨⟨fun _ z => z, fun b z => .inl z, fun b u h n => hk b u (fun q => n (by rw [q]; exact oa)) h, fun b u h => by
    by_cases q : b = a
    · exact ⟨o, by rw [q]; exact upd_same⟩
    · exact ⟨u, hk b u q h⟩⟩, sub⟩⟩
  · by_cases q : i = j
    · subst q
      rw [List.getElem?_set_self il] at hj
      rcases hs with ⟨_, rfl⟩ | ⟨_, rfl⟩ <;> cases hj
    · rw [List.getElem?_set_ne q] at hj
      obtain ⟨v, e, r⟩ := R.im j c hj
      exact ⟨v, e, r.mono (fun b z => z) zk⟩
  · by_cases q : i = j
    · subst q
      rw [List.getElem?_set_self il] at hj
      rcases hs with ⟨rfl, rfl⟩ | ⟨_, rfl⟩
      · cases hj
        obtain ⟨b, e2, nz, h0, _⟩ := R.ow i d h
        rw [e] at e2; cases e2
        exact ⟨a, e, nz, h0, ta⟩
      · cases hj
    · rw [List.getElem?_set_ne q] at hj
      obtain ⟨b, e2, nz, h0, t2⟩ := R.ow j c hj
      exact ⟨b, e2, nz, h0, t2.mono (fun b z => z) zk (fun u h => hk b u (fun z => q (R.inj i j a (.inl oi) (.inl ⟨c, .inl hj⟩) e (by rw [← z]; exact e2))) h)⟩
  · by_cases q : i = j
    · subst q
      rw [List.getElem?_set_self il] at hj
      rcases hs with ⟨_, rfl⟩ | ⟨rfl, rfl⟩
      · cases hj
      · cases hj
        obtain ⟨e2, nz, h0, _⟩ := R.io i d h
        rw [e] at e2; cases e2
        exact ⟨e, nz, h0, ta⟩
    · rw [List.getElem?_set_ne q] at hj
      obtain ⟨e2, nz, h0, t2⟩ := R.io j c hj
      exact ⟨e2, nz, h0, t2.mono (fun b z => z) zk (fun u h => hk _ u (fun z => q (R.inj i j a (.inl oi) (.inl ⟨c, .inr hj⟩) e (by rw [← z]; exact e2))) h)⟩
  · by_cases q : i = j
    · subst q
      rw [List.getElem?_set_self il] at hj
      rcases hs with ⟨_, rfl⟩ | ⟨_, rfl⟩ <;> cases hj
    · rw [List.getElem?_set_ne q] at hj
      obtain ⟨b, e2, nz, t2⟩ := R.lk j c hj
      exact ⟨b, e2, nz, t2.mono (fun b z => z) zk (fun u h => hk b u (fun z => q (R.inj i j a (.inl oi) (.inr ⟨c, hj⟩) e (by rw [← z]; exact e2))) h)⟩
  · obtain ⟨u, h⟩ := R.zt b z; exact ⟨u, zk b u z h⟩
  · rename_i hb
    refine hk b u (fun q => ?_) (R.keep b u hb n)
    rw [q] at hb n
    rcases hs with ⟨rfl, _⟩ | ⟨rfl, _⟩
    · obtain ⟨b, e2, _, h0, _⟩ := R.ow i d h
      rw [e] at e2; cases e2
      rw [h0] at hb; cases hb
    · obtain ⟨e2, _, hs, _⟩ := R.io i d h
      rw [e] at e2; cases e2
      exact n hs
  · by_cases q : b = a
    · exact ⟨o, by rw [q]; exact upd_same⟩
    · obtain ⟨w, hw⟩ := R.tr b u hb
      exact ⟨w, hk b w q hw⟩
/-- a slot is stored -/
theorem Rel.setIm (R : Rel G σ Z H env) {j : Nat} (nio : ∀ d, env[j]? ≠ some (Sl.io d)) {v : V} {d : D} (r : Rep G.K Z H v d) : Rel G (σ.set j (some v)) Z H (env.set j (.im d)) := by
  have hne : ∀ i, i ≠ j → (σ.set j (some v))[i]? = σ[i]? := fun i n => List.getElem?_set_ne (Ne.symm n)
  refine ⟨by rw [List.length_set, List.length_set]; exact R.len, fun i c hi => ?_, fun i c hi => ?_, fun i c hi => ?_, fun i c hi => ?_, fun i k b hi hk e1 e2 => ?_, R.z0, R.z1, R.zt, R.keep, R.tr⟩
  · by_cases q : j = i
    · subst q
      have jl : j < env.length := by
        by_cases l : j < env.length
        · exact l
        · rw [List.getElem?_eq_none (by rw [List.length_set]; omega)] at hi; cases hi
      rw [List.getElem?_set_self jl] at hi
      cases hi
      exact ⟨v, List.getElem?_set_self (by rw [← R.len]; exact jl), r⟩
    · rw [List.getElem?_set_ne q] at hi
      obtain ⟨w, e, r⟩ := R.im i c hi
      exact ⟨w, by rw [hne i (Ne.symm q)]; exact e, r⟩
  · have ⟨_, n⟩ := own_set_im (⟨c, .inl hi⟩ : own (env.set j (.im d)) i)
    rw [List.getElem?_set_ne (Ne.symm n)] at hi
    obtain ⟨a, e, x⟩ := R.ow i c hi
    exact ⟨a, by rw [hne i n]; exact e, x⟩
  · have ⟨_, n⟩ := own_set_im (⟨c, .inr hi⟩ : own (env.set j (.im d)) i)
    rw [List.getElem?_set_ne (Ne.symm n)] at hi
    obtain ⟨e, x⟩ := R.io i c hi
    exact ⟨by rw [hne i n]; exact e, x⟩
  · have ⟨_, n⟩ := ownk_set_im (.inr ⟨c, hi⟩ : ownk (env.set j (.im d)) i)
    rw [List.getElem?_set_ne (Ne.symm n)] at hi
    obtain ⟨a, e, x⟩ := R.lk i c hi
    exact ⟨a, by rw [hne i n]; exact e, x⟩
  · have ⟨oi, ni⟩ := ownk_set_im hi
    have ⟨ok, nk⟩ := ownk_set_im hk
    rw [hne i ni] at e1
    rw [hne k nk] at e2
    exact R.inj i k b oi ok e1 e2
theorem ownk_out (R : Rel G σ Z H env) {a : Addr} (no : ¬ Ow σ env a) (t : ∃ o, H a = some o ∧ Mut (some o)) {i : Nat} (h : ownk env i) : σ[i]? ≠ some (some (V.ref a)) := fun e => by
  rcases h with h | ⟨d, h⟩
  · exact no ⟨i, h, e⟩
  · obtain ⟨b, e2, _, l⟩ := R.lk i d h
    rw [e] at e2; cases e2
    obtain ⟨o, ho, m⟩ := t
    cases l with
    | dct hh r => rw [hh] at ho; cases ho; exact m
theorem Top.mut {K : PySem.W.Frag} (t : Top K Z H a d) : ∃ o, H a = some o ∧ Mut (some o) := by
  cases t with
  | lst h r => exact ⟨_, h, trivial⟩
  | dct h r => exact ⟨_, h, trivial⟩
  | dtt h r => exact ⟨_, h, trivial⟩
theorem Rel.setOw (R : Rel G σ Z H env) {j : Nat} (nio : ∀ d, env[j]? ≠ some (Sl.io d)) {a : Addr} {d : D} (nz : ¬ Z a) (no : ¬ Ow σ env a) (h0 : G.H0 a = none) (t : Top G.K Z H a d) : Rel G (σ.set j (some (.ref a))) Z H (env.set j (.ow d)) := by
  have hne : ∀ i, i ≠ j → (σ.set j (some (V.ref a)))[i]? = σ[i]? := fun i n => List.getElem?_set_ne (Ne.symm n)
  have jl : ∀ {i : Nat} {s : Sl}, (env.set j (.ow d))[i]? = some s → j = i → j < σ.length := fun {i s} h q => by
    subst q
    rw [← R.len]
    by_cases l : j < env.length
    · exact l
    · rw [List.getElem?_eq_none (by rw [List.length_set]; omega)] at h; cases h
  have ow' : ∀ i, ownk (env.set j (.ow d)) i → i ≠ j → ownk env i := fun i h n => by
    rcases h with h | ⟨c, h⟩
    · exact .inl ((own_set h).elim id fun q => absurd q n)
    · rw [List.getElem?_set_ne (Ne.symm n)] at h; exact .inr ⟨c, h⟩
  have jk : ∀ {i : Nat}, ownk (env.set j (.ow d)) i → j = i → j < σ.length := fun {i} h q => by
    rcases h with ⟨c, h | h⟩ | ⟨c, h⟩ <;> exact jl h q
  refine ⟨by rw [List.length_set, List.length_set]; exact R.len, fun i c hi => ?_, fun i c hi => ?_, fun i c hi => ?_, fun i c hi => ?_, fun i k b hi hk e1 e2 => ?_, R.z0, R.z1, R.zt, R.keep, R.tr⟩
  · by_cases q : j = i
    · have l := jl hi q
      subst q
      rw [List.getElem?_set_self (by rw [R.len]; exact l)] at hi
      cases hi
    · rw [List.getElem?_set_ne q] at hi
      obtain ⟨w, e, r⟩ := R.im i c hi
      exact ⟨w, by rw [hne i (Ne.symm q)]; exact e, r⟩
  · by_cases q : j = i
    · have l := jl hi q
      subst q
      rw [List.getElem?_set_self (by rw [R.len]; exact l)] at hi
      cases hi
      exact ⟨a, List.getElem?_set_self l, nz, h0, t⟩
    · rw [List.getElem?_set_ne q] at hi
      obtain ⟨b, e, x⟩ := R.ow i c hi
      exact ⟨b, by rw [hne i (Ne.symm q)]; exact e, x⟩
  · by_cases q : j = i
    · have l := jl hi q
      subst q
      rw [List.getElem?_set_self (by rw [R.len]; exact l)] at hi
      cases hi
    · rw [List.getElem?_set_ne q] at hi
      obtain ⟨e, x⟩ := R.io i c hi
      exact ⟨by rw [hne i (Ne.symm q)]; exact e, x⟩
  · by_cases q : j = i
    · have l := jl hi q
      subst q
      rw [List.getElem?_set_self (by rw [R.len]; exact l)] at hi
      cases hi
    · rw [List.getElem?_set_ne q] at hi
      obtain ⟨b, e, x⟩ := R.lk i c hi
      exact ⟨b, by rw [hne i (Ne.symm q)]; exact e, x⟩
  · by_cases q : i = j
    · by_cases q2 : k = j
      · rw [q, q2]
      · exfalso
        have l : j < σ.length := jk hi q.symm
        subst q
        rw [List.getElem?_set_self l] at e1
        rw [hne k q2] at e2
        cases e1
        exact ownk_out R no t.mut (ow' k hk q2) e2
    · by_cases q2 : k = j
      · exfalso
        have l : j < σ.length := jk hk q2.symm
        subst q2
        rw [List.getElem?_set_self l] at e2
        rw [hne i q] at e1
        cases e2
        exact ownk_out R no t.mut (ow' i hi q) e1
      · rw [hne i q] at e1
        rw [hne k q2] at e2
        exact R.inj i k b (ow' i hi q) (ow' k hk q2) e1 e2
end
end TG
end
section
namespace TG
open PySem PySem.Spec PyProof.Rows L2

mutual
def D.eqb : D → D → Bool
  | .non, .non => true
  | .bl a, .bl b => a == b
  | .bl a, .int j => (if a then 1 else 0) == j
  | .int i, .bl b => i == (if b then 1 else 0)
  | .int i, .int j => i == j
  | .str x, .str y => x == y
  | .lst xs, .lst ys => D.eqbs xs ys
  | .tup xs, .tup ys => D.eqbs xs ys
  | _, _ => false
def D.eqbs : List D → List D → Bool
  | [], [] => true
  | x :: xs, y :: ys => D.eqb x y && D.eqbs xs ys
  | _, _ => false
end
mutual
/-- no dicts within, texts of true signs -/
def D.pln : D → Bool
  | .str x => PyData.strOk x
  | .dct _ => false
  | .dtt _ => false
  | .scr _ => false
  | .lst xs => D.plns xs
  | .tup xs => D.plns xs
  | _ => true
def D.plns : List D → Bool
  | [] => true
  | x :: xs => D.pln x && D.plns xs
end
mutual
def D.dep : D → Nat
  | .lst xs => D.deps xs + 1
  | .tup xs => D.deps xs + 1
  | _ => 0
def D.deps : List D → Nat
  | [] => 0
  | x :: xs => max (D.dep x) (D.deps xs)
end
def D.shp2 (d e : D) : Prop := d.pln = true ∧ e.pln = true ∧ (d.dep ≤ 60 ∨ e.dep ≤ 60)
def D.isDtt : D → Bool
  | .dtt _ => true
  | _ => false
def D.isN : D → Bool
  | .non => true
  | _ => false
def D.flat : D → Bool
  | .non => true | .bl _ => true | .int _ => true | .str _ => true | _ => false
def keyD : D → Option Key
  | .int i => some (.inl i)
  | .str x => some (.inr x)
  | _ => none
def keysD : List D → Option (List Key)
  | [] => some []
  | d :: ds => match keyD d, keysD ds with
    | some k, some ks => some (k :: ks)
    | _, _ => none
def kD : Key → D
  | .inl i => .int i
  | .inr x => .str x

inductive Bt where
  | len | abs | min | max | sum | all | any | sorted | tuple | list | dict | set | int | str | repr | divmod
  deriving DecidableEq
inductive Mt where
  | get | index | count | join | split | startswith | endswith | replace | upper
  deriving DecidableEq
inductive Mm where
  | append | extend | pop | remove | insert | clear | reverse
  deriving DecidableEq
inductive Tn where
  | int | bool | str | tuple | list | dict
  deriving DecidableEq
def Tn.nm : Tn → String
  | .int => "int" | .bool => "bool" | .str => "str" | .tuple => "tuple" | .list => "list" | .dict => "dict"
def dIsi : D → Tn → Bool
  | .int _, .int => true
  | .bl _, .int => true
  | .bl _, .bool => true
  | .str _, .str => true
  | .tup _, .tuple => true
  | .lst _, .list => true
  | .scr _, .list => true
  | .dct _, .dict => true
  | .dtt _, .dict => true
  | _, _ => false

def dTru : D → Option Bool
  | .non => some false
  | .bl b => some b
  | .int i => some (i != 0)
  | .str y => if y.length ≤ sizeLine then some ((y.length : Int) != 0) else none
  | .lst xs => some (!xs.isEmpty)
  | .tup xs => some (!xs.isEmpty)
  | .dct _ => none
  | .dtt _ => none
  | .scr xs => some (!xs.isEmpty)

def dBin : Operator → D → D → (Rv → Prop) → Prop
  | .Add, .int i, .int j, K => K (.im (.int (i + j)))
  | .Add, .str x, .str y, K => x.length + y.length ≤ sizeLine ∧ K (.im (.str (x ++ y)))
  | .Add, .tup x, .tup y, K => x.length + y.length ≤ sizeLine ∧ K (.im (.tup (x ++ y)))
  | .Add, .lst x, .lst y, K => x.length + y.length ≤ sizeLine ∧ K (.fr (.lst (x ++ y)))
  | .Sub, .int i, .int j, K => K (.im (.int (i - j)))
  | .Mult, .int i, .int j, K => IntMulOk i j ∧ K (.im (.int (i * j)))
  | .Mult, .tup x, .int j, K => (x ≠ [] ∧ 2 ≤ j ∧ j ≤ 1000 ∧ x.length ≤ 1000) ∧ K (.im (.tup (List.replicate j.toNat x).flatten))
  | .FloorDiv, .int i, .int j, K => (0 < j ∧ Builtin.divisionGoesByPylong i j = false) ∧ K (.im (.int (i / j)))
  | .Mod, .int i, .int j, K => 0 < j ∧ K (.im (.int (i % j)))
  | .Pow, .int i, .int j, K => CPow i j ∧ K (.im (.int (i ^ j.toNat)))
  | .LShift, .int i, .int j, K => CPow i j ∧ K (.im (.int (i * 2 ^ j.toNat)))
  | .RShift, .int i, .int j, K => 0 ≤ j ∧ K (.im (.int (i / 2 ^ j.toNat)))
  | .BitAnd, .int i, .int j, K => K (.im (.int (Builtin.bitAnd i j)))
  | .BitXor, .int i, .int j, K => K (.im (.int (Builtin.bitXor i j)))
  | _, _, _, _ => False

def dIn : D → D → (Bool → Prop) → Prop
  | .str x, .str y, K => K (!(Builtin.Str.occurrences y x 0 y.length 1).isEmpty)
  | x, .lst ys, K => (x.flat = true ∧ ys.all D.flat = true) ∧ K (ys.any fun y => D.eqb y x)
  | x, .tup ys, K => (x.flat = true ∧ ys.all D.flat = true) ∧ K (ys.any fun y => D.eqb y x)
  | x, .dct kvs, K => ∃ k, keyD x = some k ∧ K (dval kvs k).isSome
  | .tup xs, .dtt kvs, K => ∃ ks, keysD xs = some ks ∧ K (dval kvs ks).isSome
  | _, _, _ => False

def dCmp : CmpOp → D → D → (Bool → Prop) → Prop
  | .Eq, x, y, K => D.shp2 x y ∧ K (D.eqb x y)
  | .NotEq, x, y, K => D.shp2 x y ∧ K (!D.eqb x y)
  | .Lt, .int i, .int j, K => K (decide (i < j))
  | .LtE, .int i, .int j, K => K (decide (i ≤ j))
  | .Gt, .int i, .int j, K => K (decide (j < i))
  | .GtE, .int i, .int j, K => K (decide (j ≤ i))
  | .Lt, .str i, .str j, K => K (decide (i.cps.toList < j.cps.toList))
  | .LtE, .str i, .str j, K => K (!decide (j.cps.toList < i.cps.toList))
  | .Gt, .str i, .str j, K => K (decide (j.cps.toList < i.cps.toList))
  | .GtE, .str i, .str j, K => K (!decide (i.cps.toList < j.cps.toList))
  | .Is, .bl a, .bl b, K => K (a == b)
  | .IsNot, .bl a, .bl b, K => K (!(a == b))
  | .Is, x, .non, K => K x.isN
  | .IsNot, x, .non, K => K (!x.isN)
  | .In, x, y, K => dIn x y K
  | .NotIn, x, y, K => dIn x y fun b => K (!b)
  | _, _, _, _ => False

def dIdx : D → D → (D → Prop) → Prop
  | .lst ds, .int i, K => ∃ d, atI ds i = some d ∧ K d
  | .tup ds, .int i, K => ∃ d, atI ds i = some d ∧ K d
  | .scr ds, .int i, K => ∃ d, atI ds i = some d ∧ K d
  | .str z, .int i, K => z.length ≤ sizeLine ∧ ∃ c, atI z.cps.toList i = some c ∧ K (.str ⟨#[c]⟩)
  | .dct kvs, x, K => ∃ k, keyD x = some k ∧ ∃ d, dval kvs k = some d ∧ K d
  | .dtt kvs, .tup xs, K => ∃ ks, keysD xs = some ks ∧ ∃ d, dval kvs ks = some d ∧ K d
  | _, _, _ => False

def cutD {α : Type} (xs : List α) (lo hi : Option Int) : List α := (xs.drop (HT.sIx xs.length 0 lo)).take (HT.sIx xs.length xs.length hi - HT.sIx xs.length 0 lo)
def dSlc : D → Option Int → Option Int → (Rv → Prop) → Prop
  | .lst ds, lo, hi, K => K (.fr (.lst (cutD ds lo hi)))
  | .tup ds, lo, hi, K => K (.im (.tup (cutD ds lo hi)))
  | .str z, lo, hi, K => z.length ≤ sizeLine ∧ K (.im (.str ⟨(cutD z.cps.toList lo hi).toArray⟩))
  | _, _, _, _ => False

/-- a list's items as ints, as texts -/
def intsD : List D → Option (List Int)
  | [] => some []
  | .int i :: r => (intsD r).map (i :: ·)
  | _ :: _ => none
def strsD : List D → Option (List Str)
  | [] => some []
  | .str x :: r => (strsD r).map (x :: ·)
  | _ :: _ => none
def blsD : List D → Option (List Bool)
  | [] => some []
  | .bl x :: r => (blsD r).map (x :: ·)
  | _ :: _ => none
def pairsD : List D → Option (List (Key × D))
  | [] => some []
  | .tup [k, v] :: r => match keyD k, pairsD r with
    | some k, some r => some ((k, v) :: r)
    | _, _ => none
  | _ :: _ => none

def un (u : D → (Rv → Prop) → Prop) : List D → (Rv → Prop) → Prop
  | [d], K => u d K
  | _, _ => False
def bi (u : D → D → (Rv → Prop) → Prop) : List D → (Rv → Prop) → Prop
  | [d, e], K => u d e K
  | _, _ => False
def ub (u : D → (Rv → Prop) → Prop) (w : D → D → (Rv → Prop) → Prop) : List D → (Rv → Prop) → Prop
  | [d], K => u d K
  | [d, e], K => w d e K
  | _, _ => False
def u_len : D → (Rv → Prop) → Prop
  | .str z, K => z.length ≤ sizeLine ∧ K (.im (.int z.length))
  | .lst ds, K => K (.im (.int ds.length))
  | .tup ds, K => K (.im (.int ds.length))
  | .scr ds, K => K (.im (.int ds.length))
  | .dct ds, K => K (.im (.int ds.length))
  | _, _ => False
def dd_len : List D → (Rv → Prop) → Prop := un u_len
def u_abs : D → (Rv → Prop) → Prop
  | .int i, K => K (.im (.int (if i < 0 then -i else i)))
  | _, _ => False
def dd_abs : List D → (Rv → Prop) → Prop := un u_abs
def u_min : D → (Rv → Prop) → Prop
  | .lst ds, K => ∃ ns, intsD ds = some ns ∧ ns ≠ [] ∧ ∀ m ∈ ns, (∀ y ∈ ns, m ≤ y) → K (.im (.int m))
  | _, _ => False
def b_min : D → D → (Rv → Prop) → Prop
  | .int i, .int j, K => K (.im (.int (if j < i then j else i)))
  | _, _, _ => False
def dd_min : List D → (Rv → Prop) → Prop := ub u_min b_min
def u_max : D → (Rv → Prop) → Prop
  | .lst ds, K => ∃ ns, intsD ds = some ns ∧ ns ≠ [] ∧ ∀ m ∈ ns, (∀ y ∈ ns, y ≤ m) → K (.im (.int m))
  | _, _ => False
def b_max : D → D → (Rv → Prop) → Prop
  | .int i, .int j, K => K (.im (.int (if j > i then j else i)))
  | _, _, _ => False
def dd_max : List D → (Rv → Prop) → Prop := ub u_max b_max
def u_sum : D → (Rv → Prop) → Prop
  | .lst ds, K => ∃ ns, intsD ds = some ns ∧ K (.im (.int ns.sum))
  | _, _ => False
def dd_sum : List D → (Rv → Prop) → Prop := un u_sum
def u_all : D → (Rv → Prop) → Prop
  | .lst ds, K => ∃ bs, blsD ds = some bs ∧ K (.im (.bl (bs.all id)))
  | _, _ => False
def dd_all : List D → (Rv → Prop) → Prop := un u_all
def u_any : D → (Rv → Prop) → Prop
  | .lst ds, K => ∃ bs, blsD ds = some bs ∧ K (.im (.bl (bs.any id)))
  | _, _ => False
def dd_any : List D → (Rv → Prop) → Prop := un u_any
def u_tuple : D → (Rv → Prop) → Prop
  | .lst ds, K => K (.im (.tup ds))
  | .tup ds, K => K (.im (.tup ds))
  | _, _ => False
def dd_tuple : List D → (Rv → Prop) → Prop := un u_tuple
def u_list : D → (Rv → Prop) → Prop
  | .lst ds, K => K (.fr (.lst ds))
  | .tup ds, K => K (.fr (.lst ds))
  | _, _ => False
def dd_list : List D → (Rv → Prop) → Prop := un u_list
def u_dict : D → (Rv → Prop) → Prop
  | .dct kvs, K => K (.fr (.dct kvs))
  | .lst ds, K => ∃ kvs, pairsD ds = some kvs ∧ K (.fr (.dct (dmerge [] kvs)))
  | _, _ => False
def dd_dict : List D → (Rv → Prop) → Prop := un u_dict
def u_int : D → (Rv → Prop) → Prop
  | .bl b, K => K (.im (.int (if b then 1 else 0)))
  | .int i, K => K (.im (.int i))
  | _, _ => False
def dd_int : List D → (Rv → Prop) → Prop := un u_int
def b_divmod : D → D → (Rv → Prop) → Prop
  | .int i, .int j, K => (0 < j ∧ Builtin.divisionGoesByPylong i j = false) ∧ K (.im (.tup [.int (i / j), .int (i % j)]))
  | _, _, _ => False
def dd_divmod : List D → (Rv → Prop) → Prop := bi b_divmod
def kyD : D → Int ⊕ List Nat
  | .int i => .inl i
  | .str x => .inr x.cps.toList
  | _ => .inl 0
def shD (shape : Nat → Bool) : Nat → List D → Bool
  | _, [] => true
  | i, .int _ :: r => !shape i && shD shape (i + 1) r
  | i, .str _ :: r => shape i && shD shape (i + 1) r
  | _, _ => false
def itLt : Int ⊕ List Nat → Int ⊕ List Nat → Bool
  | .inl a, .inl b => decide (a < b)
  | .inl _, .inr _ => true
  | .inr _, .inl _ => false
  | .inr a, .inr b => decide (a < b)
def rowLt : List (Int ⊕ List Nat) → List (Int ⊕ List Nat) → Bool
  | [], [] => false
  | [], _ :: _ => true
  | _ :: _, [] => false
  | x :: r, y :: t => itLt x y || (!itLt y x && rowLt r t)
def u_sorted : D → (Rv → Prop) → Prop
  | .lst ds, K => (∃ ns, intsD ds = some ns ∧ ns.length < 64 ∧ ∀ ms : List Int, ms.Perm ns → ms.Pairwise (· ≤ ·) → K (.fr (.lst (ms.map .int)))) ∨
      (∃ xs, strsD ds = some xs ∧ xs.length < 64 ∧ ∀ ys : List Str, ys.Perm xs → sortedS ys = true → K (.fr (.lst (ys.map .str)))) ∨
      ∃ (shape : Nat → Bool) (rows : List (List D)), ds = rows.map .tup ∧ (∀ r ∈ rows, r ≠ [] ∧ shD shape 0 r = true) ∧ ∀ rows' : List (List D), rows'.Perm rows → rows'.Pairwise (fun x y => rowLt (y.map kyD) (x.map kyD) = false) → K (.fr (.lst (rows'.map .tup)))
  | _, _ => False
def dd_sorted : List D → (Rv → Prop) → Prop := un u_sorted
def dBlt : Bt → List D → (Rv → Prop) → Prop
  | .len => dd_len
  | .abs => dd_abs
  | .min => dd_min
  | .max => dd_max
  | .sum => dd_sum
  | .all => dd_all
  | .any => dd_any
  | .tuple => dd_tuple
  | .list => dd_list
  | .dict => dd_dict
  | .int => dd_int
  | .divmod => dd_divmod
  | .sorted => dd_sorted
  | _ => fun _ _ => False

/-- the receiver's type, asked ahead of the arguments -/
def tyM : Mt → D → Bool
  | .get, .dct _ => true
  | .get, .dtt _ => true
  | .join, .str _ => true
  | _, _ => false
def dMt : Mt → D → List D → (Rv → Prop) → Prop
  | .get, .dct kvs, [x, y], K => y.flat = true ∧ ∃ k, keyD x = some k ∧ K (.im ((dval kvs k).getD y))
  | .get, .dct kvs, [x], K => ∃ k, keyD x = some k ∧ K (.im ((dval kvs k).getD .non))
  | .get, .dtt kvs, [.tup x, y], K => y.flat = true ∧ ∃ k, keysD x = some k ∧ K (.im ((dval kvs k).getD y))
  | .get, .dtt kvs, [.tup x], K => ∃ k, keysD x = some k ∧ K (.im ((dval kvs k).getD .non))
  | .join, .str a, [.lst ds], K => ∃ ys, strsD ds = some ys ∧ ((ys.map (·.length)).sum + ys.length * a.length ≤ 16777216) ∧ K (.im (.str (Txt.join a ys)))
  | _, _, _, _ => False

def tyMm : Mm → D → Bool
  | _, .lst _ => true
  | _, _ => false
/-- a changing method: what the thing is then, and what is handed back -/
def dMm : Mm → D → List D → (D → D → Prop) → Prop
  | .append, .lst ds, [x], K => ds.length < sizeLine ∧ K (.lst (ds ++ [x])) .non
  | .remove, .lst ds, [.int k], K => ∃ ns j, intsD ds = some ns ∧ ns[j]? = some k ∧ (∀ m : Nat, m < j → ns[m]? ≠ some k) ∧ K (.lst (ds.eraseIdx j)) .non
  | _, _, _, _ => False

def dSet : D → D → D → (D → Prop) → Prop
  | .lst ds, .int k, x, K => ∃ j, ixN ds.length k = some j ∧ K (.lst (ds.set j x))
  | .dct kvs, y, x, K => ∃ k, keyD y = some k ∧ kvs.length < sizeLine ∧ K (.dct (dput kvs k x))
  | .dtt kvs, .tup ys, x, K => ∃ k, keysD ys = some k ∧ kvs.length < sizeLine ∧ K (.dtt (dput kvs k x))
  | _, _, _, _ => False

inductive Tg where
  | nm (i : Nat) | sub (i : Nat) (k : Int) | tp (ts : Tg) | nil | cons (a b : Tg)
inductive Ex where
  | var (i : Nat) | cint (i : Int) | cstr (x : Str) | cbl (b : Bool) | cnon | glob (x : Str)
  | bin (op : Operator) (a b : Ex) | neg (a : Ex) | cmp (op : CmpOp) (a b : Ex) | chain (op op' : CmpOp) (a b c : Ex)
  | andn (a b : Ex) | orn (a b : Ex) | notn (a : Ex) | ife (c a b : Ex)
  | tupn (as : Ex) | lstn (as : Ex) | dnew (t : Bool) | dctn (ks vs : Ex)
  | nil | cons (a as : Ex)
  | call (f : Str) (as : Ex) | blt (b : Bt) (as : Ex) | meth (m : Mt) (o : Ex) (as : Ex) | mut (m : Mm) (i : Nat) (as : Ex)
  | idx (a i : Ex) | slc (a lo hi : Ex) | isi (a : Ex) (t : Tn)
  | comp (vs : List Nat) (tg : Tg) (it c e : Ex)
  | zip2 (a b : Ex) | zip3 (a b c : Ex) | enum (a : Ex) | rng1 (a : Ex) | rng2 (a b : Ex) | items (a : Ex)
inductive Sm where
  | asg (t : Tg) (e : Ex) | par2 (i j : Nat) (a b : Ex) | par3 (i j k : Nat) (a b c : Ex) | sub (i : Nat) (k e : Ex)
  | expr (e : Ex) | ret (e : Ex) | retN | ifs (c : Ex) (a b : Sm) | whl (c : Ex) (b : Sm) | forr (t : Tg) (it : Ex) (b : Sm)
  | raise (x : Str) (as : Ex) | brk | cont | pass
  | nil | cons (a b : Sm)

/-- a def: which of its parameters it may change; what it does -/
structure FI where
  io : List Bool
  sp : List D → (Rv → List D → Prop) → (XD → List D → Prop) → Prop
structure Post where
  nx : Env → Prop
  rt : Rv → Env → Prop
  bk : Env → Prop
  ct : Env → Prop

def rd (r : Rv) (env : Env) (K : D → Prop) : Prop := match r with
  | .im d => K d
  | .fr d => K d
  | .bo i => match env[i]? with
    | some (.ow d) => K d
    | some (.io d) => K d
    | some (.im d) => K d
    | some (.lk d) => K d
    | _ => False
def fz (r : Rv) (env : Env) (K : D → Env → Prop) : Prop := match r with
  | .im d => K d env
  | .fr d => K d env
  | .bo i => match env[i]? with
    | some (.ow d) => K d (env.set i (.im d))
    | some (.im d) => K d env
    | _ => False
def rds : List Rv → Env → (List D → Prop) → Prop
  | [], _, K => K []
  | r :: rs, env, K => rd r env fun d => rds rs env fun ds => K (d :: ds)
def noFr : List Rv → Bool
  | [] => true
  | .fr _ :: _ => false
  | _ :: r => noFr r
/-- the values of a call's arguments: one to be changed must be of a slot of ours, or new -/
def rdC : List Bool → List Rv → Env → (List D → Prop) → Prop
  | [], [], _, K => K []
  | false :: ms, .im d :: rs, env, K => rdC ms rs env fun ds => K (d :: ds)
  | true :: ms, .fr d :: rs, env, K => noFr rs = true ∧ rdC ms rs env fun ds => K (d :: ds)
  | true :: ms, .bo i :: rs, env, K => match env[i]? with
    | some (.ow d) => rdC ms rs env fun ds => K (d :: ds)
    | some (.io d) => rdC ms rs env fun ds => K (d :: ds)
    | _ => False
  | _, _, _, _ => False
def bos : List Rv → List Nat
  | [] => []
  | .bo i :: r => i :: bos r
  | _ :: r => bos r
def putS (env : Env) (i : Nat) (d : D) : Env := match env[i]? with
  | some (.ow _) => env.set i (.ow d)
  | some (.io _) => env.set i (.io d)
  | _ => env
/-- what a call has changed is put back -/
def putB : List Bool → List Rv → List D → Env → Env
  | true :: ms, .bo i :: rs, d :: ds, env => putB ms rs ds (putS env i d)
  | true :: ms, _ :: rs, _ :: ds, env => putB ms rs ds env
  | false :: ms, _ :: rs, ds, env => putB ms rs ds env
  | _, _, _, env => env
def isIo (env : Env) (j : Nat) : Prop := ∃ d, env[j]? = some (Sl.io d)
def stS (j : Nat) (r : Rv) (env : Env) (K : Env → Prop) : Prop := match env[j]? with
  | some (.io _) => False
  | some (.lk _) => False
  | none => False
  | _ => match r with
    | .im d => K (env.set j (.im d))
    | .fr d => K (env.set j (.ow d))
    | .bo i => match env[i]? with
      | some (.ow d) => if i = j then K env else K ((env.set i (.im d)).set j (.im d))
      | some (.im d) => K (env.set j (.im d))
      | _ => False
def wrS (i : Nat) (env : Env) (f : D → (D → Prop) → Prop) (K : Env → Prop) : Prop := match env[i]? with
  | some (.ow d) => f d fun d' => K (env.set i (.ow d'))
  | some (.io d) => f d fun d' => K (env.set i (.io d'))
  | _ => False
def Tg.len : Tg → Nat
  | .cons _ b => b.len + 1
  | _ => 0
mutual
def bindT : Tg → D → Env → (Env → Prop) → Prop
  | .nm j, d, env, K => stS j (.im d) env K
  | .sub i k, d, env, K => wrS i env (fun x f => dSet x (.int k) d f) K
  | .tp ts, .tup ds, env, K => ds.length = ts.len ∧ bindTs ts ds env K
  | _, _, _, _ => False
def bindTs : Tg → List D → Env → (Env → Prop) → Prop
  | .nil, [], env, K => K env
  | .cons a b, d :: ds, env, K => bindT a d env fun e => bindTs b ds e K
  | _, _, _, _ => False
end
def zipD : List D → List D → List D
  | x :: xs, y :: ys => .tup [x, y] :: zipD xs ys
  | _, _ => []
def zipD3 : List D → List D → List D → List D
  | x :: xs, y :: ys, z :: zs => .tup [x, y, z] :: zipD3 xs ys zs
  | _, _, _ => []
def enumD : Nat → List D → List D
  | _, [] => []
  | n, x :: xs => .tup [.int n, x] :: enumD (n + 1) xs
def seqD : D → Option (List D)
  | .lst ds => some ds
  | .tup ds => some ds
  | _ => none
def itD : D → Option (List D)
  | .lst ds => some ds
  | .tup ds => some ds
  | .str z => some (z.cps.toList.map fun c => .str ⟨#[c]⟩)
  | .scr ds => some ds
  | _ => none
/-- what a walk leans on: the slots whose things must stay -/
def stays (is : List Nat) (env env' : Env) : Prop := ∀ i ∈ is, env'[i]? = env[i]?
def wipeE (env : Env) : List Nat → Env
  | [] => env
  | v :: vs => (wipeE env vs).set v .un
/-- the loop of a comprehension: items, what is made so far -/
def compW (turn : D → Env → (Option D → Env → Prop) → Prop) (ok : Env → Prop) : List D → List D → Env → (List D → Env → Prop) → Prop
  | [], acc, env, K => ok env ∧ K acc env
  | d :: ds, acc, env, K => ok env ∧ turn d env fun o e1 => compW turn ok ds (match o with | some y => acc ++ [y] | none => acc) e1 K
def forW (turn : D → Env → (Env → Prop) → (Env → Prop) → Prop) (ok : Env → Prop) (K : Env → Prop) : List D → Env → Prop
  | [], env => ok env ∧ K env
  | d :: ds, env => ok env ∧ turn d env (fun e => forW turn ok K ds e) K
end TG
end
section
namespace TG
open PySem PySem.Spec PyProof.Rows L2

structure Ga where
  fn : Str → Option FI
  cs : Str → Option D
abbrev XP := XD → Env → Prop
def noX : XP := fun _ _ => False

/-- what is walked: the slots it leans on, its value -/
def srcR (r : Rv) (env : Env) (K : List Nat → D → Prop) : Prop := match r with
  | .im d => K [] d
  | .fr d => K [] d
  | .bo i => match env[i]? with
    | some (.ow d) => K [i] d
    | some (.io d) => K [i] d
    | some (.im d) => K [] d
    | _ => False
def isOwn (env : Env) (i : Nat) : Prop := match env[i]? with
  | some (.ow _) => True
  | some (.io _) => True
  | _ => False
def isOwnR (env : Env) : Rv → Prop
  | .im _ => False
  | .fr _ => True
  | .bo i => isOwn env i

structure Se where
  E : XP → Env → (Rv → Env → Prop) → Prop
  T : XP → Env → (Bool → Env → Prop) → Prop
  A : XP → Env → (List D → Env → Prop) → Prop
  B : XP → Env → (List Rv → Env → Prop) → Prop
  C : XP → List Bool → Env → (List Rv → Env → Prop) → Prop
  O : XP → Env → (Option Int → Env → Prop) → Prop
  I : XP → Env → (List Nat → List D → Env → Prop) → Prop
/-- of an expression that has a value -/
def ofE (E : XP → Env → (Rv → Env → Prop) → Prop) : Se where
  E := E
  T := fun R env Q => E R env fun r e1 => rd r e1 fun d => ∃ k, dTru d = some k ∧ Q k e1
  A := fun _ _ _ => False
  B := fun _ _ _ => False
  C := fun _ _ _ _ => False
  O := fun R env Q => E R env fun r e1 => rd r e1 fun x => ∃ i, x = .int i ∧ Q (some i) e1
  I := fun R env Q => E R env fun r e1 => srcR r e1 fun is x => ∃ xs, itD x = some xs ∧ Q is xs e1
def ofI (I : XP → Env → (List Nat → List D → Env → Prop) → Prop) : Se := { ofE (fun _ _ _ => False) with I := I }

def sem (Γ : Ga) : Ex → Se
  | .var i => ofE fun _ env Q => match env[i]? with
    | some (.im d) => Q (.im d) env
    | some .un => False
    | some _ => Q (.bo i) env
    | none => False
  | .cint i => ofE fun _ env Q => Q (.im (.int i)) env
  | .cstr x => ofE fun _ env Q => Q (.im (.str x)) env
  | .cbl b => ofE fun _ env Q => Q (.im (.bl b)) env
  | .cnon => ofE fun _ env Q => Q (.im .non) env
  | .glob x => ofE fun _ env Q => ∃ d, Γ.cs x = some d ∧ Q (.im d) env
  | .bin op a b => ofE fun R env Q => (sem Γ a).E R env fun r e1 => (sem Γ b).E R e1 fun r2 e2 => rd r e2 fun x => rd r2 e2 fun y => dBin op x y fun z => Q z e2
  | .neg a => ofE fun R env Q => (sem Γ a).E R env fun r e1 => rd r e1 fun x => ∃ i, x = .int i ∧ Q (.im (.int (-i))) e1
  | .cmp op a b => ofE fun R env Q => (sem Γ a).E R env fun r e1 => (sem Γ b).E R e1 fun r2 e2 => rd r e2 fun x => rd r2 e2 fun y => dCmp op x y fun z => Q (.im (.bl z)) e2
  | .chain op op' a b c => ofE fun R env Q => (sem Γ a).E R env fun r e1 => (sem Γ b).E R e1 fun r2 e2 => rd r e2 fun x => rd r2 e2 fun y => dCmp op x y fun k =>
      if k = true then (sem Γ c).E R e2 fun r3 e3 => rd r2 e3 fun y => rd r3 e3 fun z => dCmp op' y z fun k => Q (.im (.bl k)) e3 else Q (.im (.bl false)) e2
  | .andn a b => { ofE (fun R env Q => (sem Γ a).E R env fun r e1 => rd r e1 fun d => ∃ k, dTru d = some k ∧ if k = true then (sem Γ b).E R e1 Q else Q r e1) with
      T := fun R env Q => (sem Γ a).T R env fun k e1 => if k = true then (sem Γ b).T R e1 Q else Q false e1 }
  | .orn a b => { ofE (fun R env Q => (sem Γ a).E R env fun r e1 => rd r e1 fun d => ∃ k, dTru d = some k ∧ if k = true then Q r e1 else (sem Γ b).E R e1 Q) with
      T := fun R env Q => (sem Γ a).T R env fun k e1 => if k = true then Q true e1 else (sem Γ b).T R e1 Q }
  | .notn a => { ofE (fun R env Q => (sem Γ a).E R env fun r e1 => rd r e1 fun d => ∃ k, dTru d = some k ∧ Q (.im (.bl (!k))) e1) with
      T := fun R env Q => (sem Γ a).T R env fun k e1 => Q (!k) e1 }
  | .ife c a b => { ofE (fun R env Q => (sem Γ c).T R env fun k e1 => if k = true then (sem Γ a).E R e1 Q else (sem Γ b).E R e1 Q) with
      T := fun R env Q => (sem Γ c).T R env fun k e1 => if k = true then (sem Γ a).T R e1 Q else (sem Γ b).T R e1 Q }
  | .tupn as => ofE fun R env Q => (sem Γ as).A R env fun ds e1 => ds.length ≤ sizeLine ∧ Q (.im (.tup ds)) e1
  | .lstn as => ofE fun R env Q => (sem Γ as).A R env fun ds e1 => ds.length ≤ sizeLine ∧ Q (.fr (.lst ds)) e1
  | .dnew t => ofE fun _ env Q => Q (.fr (if t = true then .dtt [] else .dct [])) env
  | .dctn _ _ => ofE fun _ _ _ => False
  | .nil => ⟨fun _ _ _ => False, fun _ env Q => Q true env, fun _ env Q => Q [] env, fun _ env Q => Q [] env,
      fun _ ms env Q => match ms with
        | [] => Q [] env
        | _ => False, fun _ env Q => Q none env, fun _ _ _ => False⟩
  | .cons a as => ⟨fun _ _ _ => False, fun _ _ _ => False,
      fun R env Q => (sem Γ a).E R env fun r e1 => fz r e1 fun d e2 => (sem Γ as).A R e2 fun ds e3 => Q (d :: ds) e3,
      fun R env Q => (sem Γ a).E R env fun r e1 => (sem Γ as).B R e1 fun rs e2 => Q (r :: rs) e2,
      fun R ms env Q => match ms with
        | true :: ms => (sem Γ a).E R env fun r e1 => isOwnR e1 r ∧ (sem Γ as).C R ms e1 fun rs e2 => Q (r :: rs) e2
        | false :: ms => (sem Γ a).E R env fun r e1 => fz r e1 fun d e2 => (sem Γ as).C R ms e2 fun rs e3 => Q (.im d :: rs) e3
        | [] => False, fun _ _ _ => False, fun _ _ _ => False⟩
  | .call f as => ofE fun R env Q => ∃ fi, Γ.fn f = some fi ∧ (sem Γ as).C R fi.io env fun rs e1 => (bos rs).Nodup ∧ rdC fi.io rs e1 fun ds => fi.sp ds (fun r fins => Q r (putB fi.io rs fins e1)) (fun x fins => R x (putB fi.io rs fins e1))
  | .blt b as => ofE fun R env Q => (sem Γ as).B R env fun rs e1 => rds rs e1 fun ds => dBlt b ds fun r => Q r e1
  | .meth m o as => ofE fun R env Q => (sem Γ o).E R env fun r e1 => rd r e1 fun x0 => tyM m x0 = true ∧ (sem Γ as).B R e1 fun rs e2 => rd r e2 fun x => rds rs e2 fun ds => dMt m x ds fun r => Q r e2
  | .mut m i as => ofE fun R env Q => (match env[i]? with
    | some (.ow d) => tyMm m d = true
    | some (.io d) => tyMm m d = true
    | _ => False) ∧ (sem Γ as).A R env fun ds e1 => match e1[i]? with
    | some (.ow d) => dMm m d ds fun d' x => Q (.im x) (e1.set i (.ow d'))
    | some (.io d) => dMm m d ds fun d' x => Q (.im x) (e1.set i (.io d'))
    | _ => False
  | .idx a i => ofE fun R env Q => (sem Γ a).E R env fun r e1 => (sem Γ i).E R e1 fun r2 e2 => rd r e2 fun x => rd r2 e2 fun y => dIdx x y fun z => Q (.im z) e2
  | .slc a lo hi => ofE fun R env Q => (sem Γ a).E R env fun r e1 => (sem Γ lo).O R e1 fun l e2 => (sem Γ hi).O R e2 fun h e3 => rd r e3 fun x => dSlc x l h fun z => Q z e3
  | .isi a t => ofE fun R env Q => (sem Γ a).E R env fun r e1 => rd r e1 fun x => Q (.im (.bl (dIsi x t))) e1
  | .comp vs tg it c e => ofE fun R env Q => (sem Γ it).I R env fun is its e1 => its.length ≤ sizeLine ∧
      compW (fun d e2 k => bindT tg d (wipeE e2 vs) fun e3 => (sem Γ c).T noX e3 fun b e4 => if b = true then (sem Γ e).E noX e4 fun r e5 => fz r e5 fun y e6 => k (some y) e6 else k none e4)
        (fun e2 => stays is e1 (wipeE e2 vs)) its [] e1 fun acc e7 => Q (.fr (.lst acc)) (wipeE e7 vs)
  | .zip2 a b => ofI fun R env Q => (sem Γ a).E R env fun r e1 => (sem Γ b).E R e1 fun r2 e2 => srcR r e2 fun is x => srcR r2 e2 fun js y =>
      ∃ xs ys, seqD x = some xs ∧ seqD y = some ys ∧ Q (is ++ js) (zipD xs ys) e2
  | .zip3 a b c => ofI fun R env Q => (sem Γ a).E R env fun r e1 => (sem Γ b).E R e1 fun r2 e2 => (sem Γ c).E R e2 fun r3 e3 => srcR r e3 fun is x => srcR r2 e3 fun js y => srcR r3 e3 fun ks z =>
      ∃ xs ys zs, seqD x = some xs ∧ seqD y = some ys ∧ seqD z = some zs ∧ Q (is ++ js ++ ks) (zipD3 xs ys zs) e3
  | .enum a => ofI fun R env Q => (sem Γ a).E R env fun r e1 => srcR r e1 fun is x => ∃ xs, seqD x = some xs ∧ Q is (enumD 0 xs) e1
  | .rng1 a => ofI fun R env Q => (sem Γ a).E R env fun r e1 => rd r e1 fun x => ∃ n, x = .int n ∧ (-(2 ^ 62) ≤ n ∧ n < 2 ^ 62) ∧ Q [] ((List.range n.toNat).map fun (k : Nat) => .int k) e1
  | .rng2 a b => ofI fun R env Q => (sem Γ a).E R env fun r e1 => (sem Γ b).E R e1 fun r2 e2 => rd r e2 fun x => rd r2 e2 fun y => ∃ m n, x = .int m ∧ y = .int n ∧ (-(2 ^ 62) ≤ m ∧ m < 2 ^ 62 ∧ -(2 ^ 62) ≤ n ∧ n < 2 ^ 62) ∧
      Q [] ((List.range (n - m).toNat).map fun (k : Nat) => .int (m + k)) e2
  | .items _ => ofE fun _ _ _ => False
abbrev wpE (Γ : Ga) (R : XP) (ex : Ex) : Env → (Rv → Env → Prop) → Prop := (sem Γ ex).E R
abbrev wpT (Γ : Ga) (R : XP) (ex : Ex) : Env → (Bool → Env → Prop) → Prop := (sem Γ ex).T R
abbrev wpA (Γ : Ga) (R : XP) (ex : Ex) : Env → (List D → Env → Prop) → Prop := (sem Γ ex).A R
abbrev wpB (Γ : Ga) (R : XP) (ex : Ex) : Env → (List Rv → Env → Prop) → Prop := (sem Γ ex).B R
abbrev wpC (Γ : Ga) (R : XP) (ex : Ex) (ms : List Bool) : Env → (List Rv → Env → Prop) → Prop := (sem Γ ex).C R ms
abbrev wpO (Γ : Ga) (R : XP) (ex : Ex) : Env → (Option Int → Env → Prop) → Prop := (sem Γ ex).O R
abbrev wpI (Γ : Ga) (R : XP) (ex : Ex) : Env → (List Nat → List D → Env → Prop) → Prop := (sem Γ ex).I R

/-- a loop's sources are kept for good, but those handed in to be changed -/
def frzL : List Nat → Env → Env
  | [], env => env
  | i :: is, env => match env[i]? with
    | some (.ow d) => frzL is (env.set i (.im d))
    | _ => frzL is env
def staysIo (is : List Nat) (env env' : Env) : Prop := ∀ i ∈ is, isIo env i → env'[i]? = env[i]?

def wpS (Γ : Ga) (R : XP) : Sm → Env → Post → Prop
  | .nil, env, P => P.nx env
  | .cons a b, env, P => wpS Γ R a env { P with nx := fun e => wpS Γ R b e P }
  | .pass, env, P => P.nx env
  | .brk, env, P => P.bk env
  | .cont, env, P => P.ct env
  | .asg (.nm j) e, env, P => wpE Γ R e env fun r e1 => stS j r e1 P.nx
  | .asg t e, env, P => wpE Γ R e env fun r e1 => rd r e1 fun d => bindT t d e1 P.nx
  | .par2 i j a b, env, P => wpA Γ R (.cons a (.cons b .nil)) env fun ds e1 => match ds with
    | [x, y] => stS i (.im x) e1 fun e2 => stS j (.im y) e2 P.nx
    | _ => False
  | .par3 i j k a b c, env, P => wpA Γ R (.cons a (.cons b (.cons c .nil))) env fun ds e1 => match ds with
    | [x, y, z] => stS i (.im x) e1 fun e2 => stS j (.im y) e2 fun e3 => stS k (.im z) e3 P.nx
    | _ => False
  | .sub i k e, env, P => wpE Γ R e env fun r e1 => fz r e1 fun v e2 => isOwn e2 i ∧ match k with
    | .tupn as => wpA Γ R as e2 fun ds e3 => ds.length ≤ sizeLine ∧ wrS i e3 (fun x f => x.isDtt = true ∧ dSet x (.tup ds) v f) P.nx
    | k => wpE Γ R k e2 fun r2 e3 => rd r2 e3 fun y => wrS i e3 (fun x f => x.isDtt = false ∧ dSet x y v f) P.nx
  | .expr e, env, P => wpE Γ R e env fun _ e1 => P.nx e1
  | .ret e, env, P => wpE Γ R e env fun r e1 => match r with
    | .im d => P.rt (.im d) e1
    | .fr d => P.rt (.fr d) e1
    | .bo i => match e1[i]? with
      | some (.ow d) => P.rt (.fr d) (e1.set i .un)
      | some (.im d) => P.rt (.im d) e1
      | _ => False
  | .retN, env, P => P.rt (.im .non) env
  | .ifs c a b, env, P => wpT Γ R c env fun k e1 => if k = true then wpS Γ R a e1 P else wpS Γ R b e1 P
  | .whl c b, env, P => ∃ I : Nat → Env → Prop, (∃ m, I m env) ∧ ∀ m e, I m e → wpT Γ R c e fun k e1 =>
      if k = true then wpS Γ R b e1 { nx := fun e2 => ∃ m', m' < m ∧ I m' e2, rt := P.rt, bk := P.nx, ct := fun e2 => ∃ m', m' < m ∧ I m' e2 } else P.nx e1
  | .forr t it b, env, P => wpI Γ R it env fun is its e1 =>
      forW (fun d e2 next brk => bindT t d e2 fun e3 => wpS Γ R b e3 { nx := next, rt := P.rt, bk := brk, ct := next }) (staysIo is (frzL is e1)) P.nx its (frzL is e1)
  | _, _, _ => False
end TG
end
section
namespace TG
open PySem PySem.Spec PyProof.Rows L2

section
variable {K : PySem.W.Frag} {Z : Addr → Prop} {H : Hp} {v : V}
theorem RepT.of {d : D} (h : Rep K Z H v d) : RepT K Z H v d := .inl h
theorem RepT.non (h : RepT K Z H v .non) : v = .non := by
  rcases h with h | ⟨a, _, h | h⟩ <;> cases h; rfl
theorem RepT.bl {b : Bool} (h : RepT K Z H v (.bl b)) : v = .bl b := by
  rcases h with h | ⟨a, _, h | h⟩ <;> cases h; rfl
theorem RepT.int {i : Int} (h : RepT K Z H v (.int i)) : v = .int i := by
  rcases h with h | ⟨a, _, h | h⟩ <;> cases h; rfl
theorem RepT.str {x : Str} (h : RepT K Z H v (.str x)) : v = .str x := by
  rcases h with h | ⟨a, _, h | h⟩ <;> cases h; rfl
theorem RepT.tup {ds : List D} (h : RepT K Z H v (.tup ds)) : ∃ a vs, v = .ref a ∧ TAt K Z H a vs ∧ Reps K Z H vs ds := by
  rcases h with h | ⟨a, _, h | h⟩ <;> cases h
  exact ⟨_, _, rfl, ‹_›, ‹_›⟩
theorem RepT.lst {ds : List D} (h : RepT K Z H v (.lst ds)) : ∃ a vs, v = .ref a ∧ H a = some (.lst vs) ∧ Reps K Z H vs ds := by
  rcases h with h | ⟨a, e, h | h⟩
  · cases h with
    | lst h r => exact ⟨_, _, rfl, h.2, r⟩
  · cases h with
    | lst h r => exact ⟨_, _, e, h, r⟩
  · cases h
theorem RepT.scr {ds : List D} (h : RepT K Z H v (.scr ds)) : ∃ a vs, v = .ref a ∧ SqL K H a vs ∧ Reps K Z H vs ds := by
  rcases h with h | ⟨a, e, h | h⟩
  · cases h with
    | scr h r =>
      rcases h with ⟨_, o, h⟩ | h
      · exact ⟨_, _, rfl, .inl (.inr ⟨o, h⟩), r⟩
      · exact ⟨_, _, rfl, .inr h, r⟩
  · cases h
  · cases h
theorem RepT.dct {ds : List (Key × D)} (h : RepT K Z H v (.dct ds)) : ∃ a kvs, v = .ref a ∧ Rd H a (.dK kvs) ∧ RepKs K Z H kvs ds := by
  rcases h with h | ⟨a, e, h | h⟩
  · cases h with
    | dct z h r => exact ⟨_, _, rfl, .inl h, r⟩
  · cases h with
    | dct h r => exact ⟨_, _, e, .inl h, r⟩
  · cases h with
    | dct h r => exact ⟨_, _, e, .inr ⟨_, h⟩, r⟩
theorem RepT.dtt {ds : List (List Key × D)} (h : RepT K Z H v (.dtt ds)) : ∃ a kvs, v = .ref a ∧ H a = some (.dT kvs) ∧ RepTs K Z H kvs ds := by
  rcases h with h | ⟨a, e, h | h⟩
  · cases h with
    | dtt z h r => exact ⟨_, _, rfl, h, r⟩
  · cases h with
    | dtt h r => exact ⟨_, _, e, h, r⟩
  · cases h
theorem TAt.sq {a : Addr} {vs : List V} (h : TAt K Z H a vs) : SqT K H a vs := by
  rcases h with ⟨_, h⟩ | h
  · exact .inl (.inl h)
  · exact .inr h
end

/-- how a result comes -/
inductive Out (K : PySem.W.Frag) (Z : Addr → Prop) (H : Hp) : Rv → V → Hp → Prop
  | same {v : V} {d : D} (r : Rep K Z H v d) : Out K Z H (.im d) v H
  | tup {p : Addr} {vs : List V} {ds : List D} (n : H p = none) (r : Reps K Z H vs ds) : Out K Z H (.im (.tup ds)) (.ref p) (upd H p (.tup vs))
  | lst {p : Addr} {vs : List V} {ds : List D} (n : H p = none) (r : Reps K Z H vs ds) : Out K Z H (.fr (.lst ds)) (.ref p) (upd H p (.lst vs))
  | dct {p : Addr} {vs : List (Key × V)} {ds : List (Key × D)} (n : H p = none) (r : RepKs K Z H vs ds) : Out K Z H (.fr (.dct ds)) (.ref p) (upd H p (.dK vs))
  | dtt {p : Addr} (n : H p = none) : Out K Z H (.fr (.dtt [])) (.ref p) (upd H p (.dT []))
section
variable {G : Gh} {σ : L2.St} {Z : Addr → Prop} {H H' : Hp} {env : Env} {v : V} {z : Rv}
theorem Out.run (R : Rel G σ Z H env) (o : Out G.K Z H z v H') : ∃ Z', Rel G σ Z' H' env ∧ Stp σ Z H env Z' H' env ∧ RepR G σ Z' H' env z v ∧ RepN H z v := by
  have zk : ∀ {p : Addr} {o : HO}, H p = none → ∀ b u, Z b → H b = some u → upd H p o b = some u := fun hp b u _ h => hk_upd hp b u h
  cases o with
  | same r => exact ⟨Z, R, .refl, r, trivial⟩
  | tup n r => exact ⟨_, R.frz0 n, .frz0 n, .tup (.inl ⟨.inr rfl, upd_same⟩) (r.mono (fun b z => .inl z) (zk n)), trivial⟩
  | lst n r =>
    exact ⟨Z, R.fresh n, .fresh n, ⟨_, rfl, R.zn n, R.on n, R.h0n n, .lst upd_same (r.mono (fun b z => z) (zk n))⟩, fun a e => by cases e; exact n⟩
  | dct n r =>
    exact ⟨Z, R.fresh n, .fresh n, ⟨_, rfl, R.zn n, R.on n, R.h0n n, .dct upd_same (r.mono (fun b z => z) (zk n))⟩, fun a e => by cases e; exact n⟩
  | dtt n =>
    exact ⟨Z, R.fresh n, .fresh n, ⟨_, rfl, R.zn n, R.on n, R.h0n n, .dtt upd_same .nil⟩, fun a e => by cases e; exact n⟩
end

section
variable {X : Cx}
def BinOk (X : Cx) (op : Operator) (f : Value → Value → Sem Value) : Prop :=
  ∃ r : R2, OpR X f r ∧ ∀ (Z : Addr → Prop) (H : Hp) (x y : V) (dx dy : D) (Kp : Rv → Prop) (Q : VK), RepT X.K Z H x dx → RepT X.K Z H y dy → dBin op dx dy Kp →
    (∀ z v H', Kp z → Out X.K Z H z v H' → Q v H') → r x y H Q
theorem rep_one {α : Type} (x : List α) : (List.replicate 1 x).flatten = x := by simp
theorem op_fdivP : OpR X (binaryOp .FloorDiv) (rI (fun i j => 0 < j ∧ Builtin.divisionGoesByPylong i j = false) fun i j => .int (i / j)) := opI fun i j t u s Q E hc q => by
  refine floordiv_int (by omega) ?_ (.inl hc.2)
  rw [Int.fdiv_eq_ediv_of_nonneg i (by omega)]
  exact q
theorem op_mulK : OpR X (binaryOp .Mult) (rI IntMulOk fun i j => .int (i * j)) := opI fun _ _ _ _ _ _ _ hc q => mul_int q hc
theorem bin_ok (op : Operator) : BinOk X op (binaryOp op) := by
  cases op with
  | Add =>
    refine ⟨_, op_add.or (op_add_str.or (op_catA.or op_cat)), fun Z H x y dx dy Kp Q hx hy hd q => ?_⟩
    cases dx <;> cases dy <;> try exact hd.elim
    · cases hx.int; cases hy.int
      exact .inl ⟨_, _, rfl, rfl, q _ _ _ hd (.same (.int _))⟩
    · cases hx.str; cases hy.str
      exact .inr (.inl ⟨_, _, rfl, rfl, hd.1, q _ _ _ hd.2 (.same (.str _))⟩)
    · obtain ⟨a, vs, rfl, h1, r1⟩ := hx.tup
      obtain ⟨b, ws, rfl, h2, r2⟩ := hy.tup
      refine .inr (.inr (.inl ⟨a, b, vs, ws, rfl, rfl, h1.sq, h2.sq, by rw [r1.length, r2.length]; exact hd.1, fun e => ?_, fun _ e => ?_, fun _ _ p hp => ?_⟩))
      · subst e; cases r1
        exact q _ _ _ hd.2 (.same (by rw [List.nil_append]; exact .tup h2 r2))
      · subst e; cases r2
        exact q _ _ _ hd.2 (.same (by rw [List.append_nil]; exact .tup h1 r1))
      · exact q _ _ _ hd.2 (.tup hp (r1.append r2))
    · obtain ⟨a, vs, rfl, h1, r1⟩ := hx.lst
      obtain ⟨b, ws, rfl, h2, r2⟩ := hy.lst
      exact .inr (.inr (.inr ⟨a, b, vs, ws, rfl, rfl, h1, h2, by rw [r1.length, r2.length]; exact hd.1, fun p hp => q _ _ _ hd.2 (.lst hp (r1.append r2))⟩))
  | Sub =>
    refine ⟨_, op_sub, fun Z H x y dx dy Kp Q hx hy hd q => ?_⟩
    cases dx <;> cases dy <;> try exact hd.elim
    cases hx.int; cases hy.int
    exact ⟨_, _, rfl, rfl, q _ _ _ hd (.same (.int _))⟩
  | Mult =>
    refine ⟨_, op_mulK.or op_repT, fun Z H x y dx dy Kp Q hx hy hd q => ?_⟩
    cases dx <;> cases dy <;> try exact hd.elim
    · cases hx.int; cases hy.int
      exact .inl ⟨_, _, rfl, rfl, hd.1, q _ _ _ hd.2 (.same (.int _))⟩
    · obtain ⟨a, vs, rfl, h1, r1⟩ := hx.tup
      cases hy.int
      obtain ⟨⟨h1', h2, h3, h4⟩, hk⟩ := hd
      exact .inr ⟨a, _, vs, rfl, rfl, h1.sq, (fun e => by subst e; cases r1; exact h1' rfl), h2, h3, by rw [r1.length]; exact h4, fun p hp => q _ _ _ hk (.tup hp (r1.rep _))⟩
  | FloorDiv =>
    refine ⟨_, op_fdivP, fun Z H x y dx dy Kp Q hx hy hd q => ?_⟩
    cases dx <;> cases dy <;> try exact hd.elim
    cases hx.int; cases hy.int
    exact ⟨_, _, rfl, rfl, hd.1, q _ _ _ hd.2 (.same (.int _))⟩
  | Mod =>
    refine ⟨_, op_mod, fun Z H x y dx dy Kp Q hx hy hd q => ?_⟩
    cases dx <;> cases dy <;> try exact hd.elim
    cases hx.int; cases hy.int
    exact ⟨_, _, rfl, rfl, hd.1, q _ _ _ hd.2 (.same (.int _))⟩
  | Pow =>
    refine ⟨_, op_pow, fun Z H x y dx dy Kp Q hx hy hd q => ?_⟩
    cases dx <;> cases dy <;> try exact hd.elim
    cases hx.int; cases hy.int
    exact ⟨_, _, rfl, rfl, hd.1, q _ _ _ hd.2 (.same (.int _))⟩
  | LShift =>
    refine ⟨_, op_shl, fun Z H x y dx dy Kp Q hx hy hd q => ?_⟩
    cases dx <;> cases dy <;> try exact hd.elim
    cases hx.int; cases hy.int
    exact ⟨_, _, rfl, rfl, hd.1, q _ _ _ hd.2 (.same (.int _))⟩
  | RShift =>
    refine ⟨_, op_shr, fun Z H x y dx dy Kp Q hx hy hd q => ?_⟩
    cases dx <;> cases dy <;> try exact hd.elim
    cases hx.int; cases hy.int
    exact ⟨_, _, rfl, rfl, hd.1, q _ _ _ hd.2 (.same (.int _))⟩
  | BitAnd =>
    refine ⟨_, op_and, fun Z H x y dx dy Kp Q hx hy hd q => ?_⟩
    cases dx <;> cases dy <;> try exact hd.elim
    cases hx.int; cases hy.int
    exact ⟨_, _, rfl, rfl, q _ _ _ hd (.same (.int _))⟩
  | BitXor =>
    refine ⟨_, op_xor, fun Z H x y dx dy Kp Q hx hy hd q => ?_⟩
    cases dx <;> cases dy <;> try exact hd.elim
    cases hx.int; cases hy.int
    exact ⟨_, _, rfl, rfl, q _ _ _ hd (.same (.int _))⟩
  | MatMult => exact ⟨fun _ _ _ _ => False, fun _ _ _ _ _ _ _ _ _ _ _ _ h => h.elim, fun Z H x y dx dy Kp Q hx hy hd q => by cases dx <;> cases dy <;> exact hd.elim⟩
  | Div => exact ⟨fun _ _ _ _ => False, fun _ _ _ _ _ _ _ _ _ _ _ _ h => h.elim, fun Z H x y dx dy Kp Q hx hy hd q => by cases dx <;> cases dy <;> exact hd.elim⟩
  | BitOr => exact ⟨fun _ _ _ _ => False, fun _ _ _ _ _ _ _ _ _ _ _ _ h => h.elim, fun Z H x y dx dy Kp Q hx hy hd q => by cases dx <;> cases dy <;> exact hd.elim⟩
end
end TG
end
section
namespace TG
open PySem PySem.Spec PyProof.Rows L2

mutual
def D.toP : D → PyData
  | .non => .none
  | .bl b => .bool b
  | .int i => .int i
  | .str x => .str x
  | .lst ds => .list (D.toPs ds)
  | .tup ds => .tuple (D.toPs ds)
  | _ => .none
def D.toPs : List D → List PyData
  | [] => []
  | d :: ds => D.toP d :: D.toPs ds
end
mutual
theorem toP_lay : ∀ d : D, d.pln = true → d.toP.canLay0 = true
  | .non, _ => rfl
  | .bl b, _ => rfl
  | .int i, _ => rfl
  | .str x, h => by simpa only [D.toP, PyData.canLay0, D.pln] using h
  | .lst ds, h => by simp only [D.toP, PyData.canLay0]; exact toPs_lay ds (by simpa only [D.pln] using h)
  | .tup ds, h => by simp only [D.toP, PyData.canLay0]; exact toPs_lay ds (by simpa only [D.pln] using h)
  | .scr ds, h => by simp [D.pln] at h
  | .dct ds, h => by simp [D.pln] at h
  | .dtt ds, h => by simp [D.pln] at h
theorem toPs_lay : ∀ ds : List D, D.plns ds = true → PyData.canLayAll0 (D.toPs ds) = true
  | [], _ => rfl
  | d :: ds, h => by
    have h : (d.pln && D.plns ds) = true := by simpa only [D.plns] using h
    rw [Bool.and_eq_true] at h
    simp only [D.toPs, PyData.canLayAll0, Bool.and_eq_true]
    exact ⟨toP_lay d h.1, toPs_lay ds h.2⟩
end
mutual
theorem toP_dep : ∀ d : D, d.pln = true → d.toP.depth = d.dep
  | .non, _ => rfl
  | .bl b, _ => rfl
  | .int i, _ => rfl
  | .str x, h => rfl
  | .lst ds, h => by simp only [D.toP, PyData.depth, D.dep]; rw [toPs_dep ds (by simpa only [D.pln] using h)]
  | .tup ds, h => by simp only [D.toP, PyData.depth, D.dep]; rw [toPs_dep ds (by simpa only [D.pln] using h)]
  | .scr ds, h => by simp [D.pln] at h
  | .dct ds, h => by simp [D.pln] at h
  | .dtt ds, h => by simp [D.pln] at h
theorem toPs_dep : ∀ ds : List D, D.plns ds = true → PyData.depthAll (D.toPs ds) = D.deps ds
  | [], _ => rfl
  | d :: ds, h => by
    have h : (d.pln && D.plns ds) = true := by simpa only [D.plns] using h
    rw [Bool.and_eq_true] at h
    simp only [D.toPs, PyData.depthAll, D.deps]
    rw [toP_dep d h.1, toPs_dep ds h.2]
end
mutual
theorem toP_eqv : ∀ d e : D, d.pln = true → e.pln = true → PyData.eqv d.toP e.toP = D.eqb d e
  | .non, e, _, h => by cases e <;> simp_all [D.toP, PyData.eqv, D.eqb, D.pln]
  | .bl b, e, _, h => by cases e <;> simp_all [D.toP, PyData.eqv, D.eqb, D.pln]
  | .int i, e, _, h => by cases e <;> simp_all [D.toP, PyData.eqv, D.eqb, D.pln]
  | .str x, e, _, h => by cases e <;> simp_all [D.toP, PyData.eqv, D.eqb, D.pln]
  | .lst ds, e, h0, h => by
    cases e <;> first
      | (simp only [D.toP, PyData.eqv, D.eqb]; exact toPs_eqv ds _ (by simpa only [D.pln] using h0) (by simpa only [D.pln] using h))
      | simp_all [D.toP, PyData.eqv, D.eqb, D.pln]
  | .tup ds, e, h0, h => by
    cases e <;> first
      | (simp only [D.toP, PyData.eqv, D.eqb]; exact toPs_eqv ds _ (by simpa only [D.pln] using h0) (by simpa only [D.pln] using h))
      | simp_all [D.toP, PyData.eqv, D.eqb, D.pln]
  | .scr ds, _, h, _ => by simp [D.pln] at h
  | .dct ds, _, h, _ => by simp [D.pln] at h
  | .dtt ds, _, h, _ => by simp [D.pln] at h
theorem toPs_eqv : ∀ ds es : List D, D.plns ds = true → D.plns es = true → PyData.eqvAll (D.toPs ds) (D.toPs es) = D.eqbs ds es
  | [], [], _, _ => rfl
  | [], _ :: _, _, _ => rfl
  | _ :: _, [], _, _ => rfl
  | d :: ds, e :: es, h, g => by
    have h : (d.pln && D.plns ds) = true := by simpa only [D.plns] using h
    have g : (e.pln && D.plns es) = true := by simpa only [D.plns] using g
    rw [Bool.and_eq_true] at h g
    simp only [D.toPs, PyData.eqvAll, D.eqbs]
    rw [toP_eqv d e h.1 g.1, toPs_eqv ds es h.2 g.2]
end
section
variable {K : PySem.W.Frag} {Z : Addr → Prop} {H : Hp}
mutual
theorem Rep.dp : ∀ {v : V} {d : D}, Rep K Z H v d → d.pln = true → Dp K H v d.toP
  | _, _, .non, _ => .non
  | _, _, .bl b, _ => .bl b
  | _, _, .int i, _ => .int i
  | _, _, .str x, _ => .str x
  | _, _, .tup h r, p => by simp only [D.toP]; exact .tup h.sq (Reps.dp r (by simpa only [D.pln] using p))
  | _, _, .lst h r, p => by simp only [D.toP]; exact .lst (SqL.of h.2) (Reps.dp r (by simpa only [D.pln] using p))
  | _, _, .scr h r, p => by simp [D.pln] at p
  | _, _, .dct h e r, p => by simp [D.pln] at p
  | _, _, .dtt h e r, p => by simp [D.pln] at p
theorem Reps.dp : ∀ {vs : List V} {ds : List D}, Reps K Z H vs ds → D.plns ds = true → DpAll K H vs (D.toPs ds)
  | _, _, .nil, _ => .nil
  | _, _, .cons (d := d) (ds := ds) h r, p => by
    have p : (d.pln && D.plns ds) = true := by simpa only [D.plns] using p
    rw [Bool.and_eq_true] at p
    simp only [D.toPs]
    exact .cons (Rep.dp h p.1) (Reps.dp r p.2)
end
theorem RepT.dp {v : V} {d : D} (h : RepT K Z H v d) (p : d.pln = true) : Dp K H v d.toP := by
  rcases h with h | ⟨a, rfl, h | h⟩
  · exact h.dp p
  · cases h with
    | lst h r => simp only [D.toP]; exact .lst (SqL.of h) (r.dp (by simpa only [D.pln] using p))
    | dct h r => simp [D.pln] at p
    | dtt h r => simp [D.pln] at p
  · cases h with
    | dct h r => simp [D.pln] at p
theorem Rep.flat {v : V} {d : D} (h : Rep K Z H v d) (f : d.flat = true) : flatV v = true := by
  cases h <;> first | rfl | simp [D.flat] at f
theorem RepT.flat {v : V} {d : D} (h : RepT K Z H v d) (f : d.flat = true) : flatV v = true ∧ Rep K Z H v d := by
  rcases h with h | ⟨a, rfl, h | h⟩
  · exact ⟨h.flat f, h⟩
  · cases h <;> simp [D.flat] at f
  · cases h <;> simp [D.flat] at f
theorem Rep.eqV {v w : V} {d e : D} (h : Rep K Z H v d) (g : Rep K Z H w e) (f : d.flat = true) (f' : e.flat = true) : L2.eqV v w = D.eqb d e := by
  cases h <;> cases g <;> first | rfl | simp [D.flat] at f | simp [D.flat] at f' | simp [L2.eqV, D.eqb]
theorem Reps.flats : ∀ {vs : List V} {ds : List D}, Reps K Z H vs ds → ds.all D.flat = true → vs.all flatV = true
  | _, _, .nil, _ => rfl
  | _, _, .cons h r, f => by
    rw [List.all_cons, Bool.and_eq_true] at f ⊢
    exact ⟨h.flat f.1, Reps.flats r f.2⟩
theorem Reps.inV {w : V} {e : D} (g : Rep K Z H w e) (fe : e.flat = true) : ∀ {vs : List V} {ds : List D}, Reps K Z H vs ds → ds.all D.flat = true → L2.inV w vs = ds.any fun y => D.eqb y e
  | _, _, .nil, _ => rfl
  | _, _, .cons h r, f => by
    rw [List.all_cons, Bool.and_eq_true] at f
    have := Reps.inV g fe r f.2
    unfold L2.inV at this ⊢
    rw [List.any_cons, List.any_cons, this, h.eqV g f.1 fe]
theorem Reps.atI {vs : List V} {ds : List D} {i : Int} {d : D} (r : Reps K Z H vs ds) (h : L2.atI ds i = some d) : ∃ v, L2.atI vs i = some v ∧ Rep K Z H v d := by
  unfold L2.atI at h ⊢
  rw [r.length]
  cases e : ixN ds.length i with
  | none => rw [e] at h; cases h
  | some j =>
    rw [e] at h
    obtain ⟨v, h1, h2⟩ := r.get (show ds[j]? = some d from h)
    exact ⟨v, h1, h2⟩
theorem RepT.key {v : V} {d : D} {k : Key} (h : RepT K Z H v d) (e : keyD d = some k) : v = kV k := by
  cases d <;> simp only [keyD] at e <;> cases e
  · exact h.int
  · exact h.str
theorem Rep.key {v : V} {d : D} {k : Key} (h : Rep K Z H v d) (e : keyD d = some k) : v = kV k := (RepT.of h).key e
theorem Reps.keys : ∀ {vs : List V} {ds : List D} {ks : List Key}, Reps K Z H vs ds → keysD ds = some ks → vs = ks.map kV
  | _, _, _, .nil, e => by cases e; rfl
  | _, _, _, .cons (d := d) (ds := ds) h r, e => by
    simp only [keysD] at e
    cases e1 : keyD d with
    | none => rw [e1] at e; cases e
    | some k =>
      cases e2 : keysD ds with
      | none => rw [e1, e2] at e; cases e
      | some ks =>
        rw [e1, e2] at e; cases e
        rw [h.key e1, Reps.keys r e2]; rfl
theorem RepKs.dget {a : Addr} {kvs : List (Key × V)} {kds : List (Key × D)} {k : Key} (h : Rd H a (.dK kvs)) (r : RepKs K Z H kvs kds) :
    (dval kds k = none ∧ DGet H a (kV k) none) ∨ ∃ v d, dval kds k = some d ∧ DGet H a (kV k) (some v) ∧ Rep K Z H v d := by
  rcases r.val k with ⟨h1, h2⟩ | ⟨v, d, h1, h2, h3⟩
  · exact .inl ⟨by unfold dval; rw [h2]; rfl, .inl ⟨kvs, k, h, rfl, h1.symm⟩⟩
  · exact .inr ⟨v, d, by unfold dval; rw [h2]; rfl, .inl ⟨kvs, k, h, rfl, h1.symm⟩, h3⟩
/-- as DGet, the key perhaps a tuple of the written part -/
def DGe (K : PySem.W.Frag) (H : Hp) (a : Addr) (y : V) (r : Option V) : Prop := DGet H a y r ∨ ∃ kvs k b, Rd H a (.dT kvs) ∧ y = .ref b ∧ SqT K H b (k.map kV) ∧ r = valV kvs k
theorem RepTs.dget {a b : Addr} {vs : List V} {kvs : List (List Key × V)} {kds : List (List Key × D)} {k : List Key} (h : H a = some (.dT kvs)) (hb : SqT K H b vs) (ek : vs = k.map kV) (r : RepTs K Z H kvs kds) :
    (dval kds k = none ∧ DGe K H a (.ref b) none) ∨ ∃ v d, dval kds k = some d ∧ DGe K H a (.ref b) (some v) ∧ Rep K Z H v d := by
  subst ek
  rcases r.val k with ⟨h1, h2⟩ | ⟨v, d, h1, h2, h3⟩
  · exact .inl ⟨by unfold dval; rw [h2]; rfl, .inr ⟨kvs, k, b, .inl h, rfl, hb, h1.symm⟩⟩
  · exact .inr ⟨v, d, by unfold dval; rw [h2]; rfl, .inr ⟨kvs, k, b, .inl h, rfl, hb, h1.symm⟩, h3⟩
end
section
variable {X : Cx} {pins : List (Addr × Obj)} {σ : L2.St} {H : Hp} {s : Shared} {a b : Addr} {y v : V} {u : Value} {o : Option V} {A : Around} {E : Value → Shared → Prop}
theorem key_ofT {ks : List Key} (I : Inv X pins σ H s) (h : SqT X.K H b (ks.map kV)) : (tupleKind (mixKind X.prog X.w)).is s.heap ks b := by
  obtain ⟨its, r, ⟨o, h1, h2, n, h3⟩, _⟩ := I.tuple h
  exact ⟨o, its.toArray, n, h1, h2, h3, by simpa using items_are r⟩
theorem e_getItem {Q : Value → Shared → Prop} (hu : A.units + 1 < cLine) (I : Inv X pins σ H s) (g : DGe X.K H a y (some v)) (ry : RelV y u) (h : ∀ w' s', Inv X pins σ H s' → RelV v w' → Q w' s') :
    wpAny (model X.prog X.w) A (getItem (.ref a) u) Q E s := by
  rcases g with g | ⟨kvs, k, b, e, ey, eb, l⟩
  · exact d_getItem hu I g ry h
  · subst ey
    cases (show u = Value.ref b from ry)
    obtain ⟨z, hd, xs, rel, dd⟩ := dt_rd I.hok e
    obtain ⟨w', hw, rw'⟩ := RelO.some_of (v := v) (o := (atKey xs k).map (·.2)) (by rw [l]; exact rel.val k)
    obtain ⟨p, hp, hp2⟩ := Option.map_eq_some_iff.mp hw
    refine wpAny_getItem_heap (tupleKind_room_in1 hu) (key_ofT I eb) dd hp ?_
    rw [hp2]
    exact h w' _ (I.tok _) rw'
theorem e_in {Q : Value → Shared → Prop} (hu : A.units + 1 < cLine) (I : Inv X pins σ H s) (g : DGe X.K H a y o) (ry : RelV y u) (h : ∀ s', Inv X pins σ H s' → Q (.bool o.isSome) s') :
    wpAny (model X.prog X.w) A (compareOp .In u (.ref a)) Q E s := by
  rcases g with g | ⟨kvs, k, b, e, ey, eb, l⟩
  · exact d_in hu I g ry h
  · subst ey
    cases (show u = Value.ref b from ry)
    obtain ⟨z, hd, xs, rel, dd⟩ := dt_rd I.hok e
    refine wpAny_in_heap (tupleKind_room_in1 hu) (key_ofT I eb) hd dd ?_
    have q := (rel.val k).isSome_eq
    rw [Option.isSome_map] at q
    rw [← q, ← l]
    exact h _ (I.tok _)
theorem e_notIn {Q : Value → Shared → Prop} (hu : A.units + 1 < cLine) (I : Inv X pins σ H s) (g : DGe X.K H a y o) (ry : RelV y u) (h : ∀ s', Inv X pins σ H s' → Q (.bool (!o.isSome)) s') :
    wpAny (model X.prog X.w) A (compareOp .NotIn u (.ref a)) Q E s := by
  rcases g with g | ⟨kvs, k, b, e, ey, eb, l⟩
  · exact d_notIn hu I g ry h
  · subst ey
    cases (show u = Value.ref b from ry)
    obtain ⟨z, hd, xs, rel, dd⟩ := dt_rd I.hok e
    refine wpAny_notIn_heap (tupleKind_room_in1 hu) (key_ofT I eb) hd dd ?_
    have q := (rel.val k).isSome_eq
    rw [Option.isSome_map] at q
    rw [← q, ← l]
    exact h _ (I.tok _)
theorem e_get1 {Q : Value → Shared → Prop} (hu : A.units + 1 < cLine) (I : Inv X pins σ H s) (g : DGe X.K H a y o) (ry : RelV y u) (h : ∀ w' s', Inv X pins σ H s' → RelV (o.getD .non) w' → Q w' s') :
    wpAny (model X.prog X.w) A (call (.builtin "dict.get") [.ref a, u]) Q E s := by
  rcases g with g | ⟨kvs, k, b, e, ey, eb, l⟩
  · exact d_get1 hu I g ry h
  · subst ey
    cases (show u = Value.ref b from ry)
    obtain ⟨z, hd, xs, rel, dd⟩ := dt_rd I.hok e
    refine call_meetsIn PySem.F.slot_dict_get dd.typeIs PySem.F.entry_dict_get (PySem.F.args_dict_get_2 _ _) (meetsH_dict_get (tupleKind (mixKind X.prog X.w)) a b hd) ⟨tupleKind_room_in1 hu, k, xs, key_ofT I eb, dd, h _ _ (I.tok _) ?_⟩
    rw [l]
    exact (rel.val k).getD rfl
theorem e_get2 {d : V} {r : Value} {Q : Value → Shared → Prop} (hu : A.units + 1 < cLine) (I : Inv X pins σ H s) (g : DGe X.K H a y o) (ry : RelV y u) (rd : RelV d r) (h : ∀ w' s', Inv X pins σ H s' → RelV (o.getD d) w' → Q w' s') :
    wpAny (model X.prog X.w) A (call (.builtin "dict.get") [.ref a, u, r]) Q E s := by
  rcases g with g | ⟨kvs, k, b, e, ey, eb, l⟩
  · exact d_get2 hu I g ry rd h
  · subst ey
    cases (show u = Value.ref b from ry)
    obtain ⟨z, hd, xs, rel, dd⟩ := dt_rd I.hok e
    refine call_meetsIn PySem.F.slot_dict_get dd.typeIs PySem.F.entry_dict_get (PySem.F.args_dict_get_3 _ _ _) (meetsH_dict_get_default (tupleKind (mixKind X.prog X.w)) a b hd r) ⟨tupleKind_room_in1 hu, k, xs, key_ofT I eb, dd, h _ _ (I.tok _) ?_⟩
    rw [l]
    exact (rel.val k).getD rd
end

section
variable {X : Cx}
def rFalse : R2 := fun _ _ _ _ => False
theorem op_false {f : Value → Value → Sem Value} : OpR X f rFalse := fun _ _ _ _ _ _ _ _ _ _ _ _ h => h.elim
def rEqP (K : PySem.W.Frag) : R2 := fun x y H Q => ∃ d e, Dp K H x d ∧ Dp K H y e ∧ d.canLay0 = true ∧ e.canLay0 = true ∧ min d.depth e.depth ≤ 60 ∧ Q (.bl (PyData.eqv d e)) H
def rNeP (K : PySem.W.Frag) : R2 := fun x y H Q => ∃ d e, Dp K H x d ∧ Dp K H y e ∧ d.canLay0 = true ∧ e.canLay0 = true ∧ min d.depth e.depth ≤ 60 ∧ Q (.bl (!PyData.eqv d e)) H
theorem op_eqP (hu : X.A.units + 64 < cLine) : OpR X (compareOp .Eq) (rEqP X.K) := by
  intro pins s σ H x y v u Q I rx ry h
  obtain ⟨d, e, hd, he, sd, se, m, q⟩ := h
  obtain ⟨as, r1⟩ := Dp.reads I d x v hd rx
  obtain ⟨bs, r2⟩ := Dp.reads I e y u he ry
  exact SeqAt.compareEq_reads r1 r2 sd se (by omega) ⟨.bl _, H, I, rfl, q⟩
theorem op_neP (hu : X.A.units + 64 < cLine) : OpR X (compareOp .NotEq) (rNeP X.K) := by
  intro pins s σ H x y v u Q I rx ry h
  obtain ⟨d, e, hd, he, sd, se, m, q⟩ := h
  obtain ⟨as, r1⟩ := Dp.reads I d x v hd rx
  obtain ⟨bs, r2⟩ := Dp.reads I e y u he ry
  exact SeqAt.compareNe_reads r1 r2 sd se (by omega) ⟨.bl _, H, I, rfl, q⟩
def rDin (K : PySem.W.Frag) (neg : Bool) : R2 := fun y x H Q => ∃ a o, x = .ref a ∧ DGe K H a y o ∧ Q (.bl (if neg then !o.isSome else o.isSome)) H
theorem op_din (hu : X.A.units + 64 < cLine) : OpR X (compareOp .In) (rDin X.K false) := by
  intro pins s σ H y x u v Q I ry rx h
  obtain ⟨a, o, rfl, g, q⟩ := h
  cases rx
  exact e_in (by omega) I g ry fun s' I' => ⟨.bl _, H, I', rfl, q⟩
theorem op_din2 (hu : X.A.units + 64 < cLine) : OpR X (compareOp .NotIn) (rDin X.K true) := by
  intro pins s σ H y x u v Q I ry rx h
  obtain ⟨a, o, rfl, g, q⟩ := h
  cases rx
  exact e_notIn (by omega) I g ry fun s' I' => ⟨.bl _, H, I', rfl, q⟩
def CmpOk (X : Cx) (op : CmpOp) : Prop :=
  ∃ r : R2, OpR X (compareOp op) r ∧ ∀ (Z : Addr → Prop) (H : Hp) (x y : V) (dx dy : D) (Kp : Bool → Prop) (Q : VK), RepT X.K Z H x dx → RepT X.K Z H y dy → dCmp op dx dy Kp →
    (∀ b, Kp b → Q (.bl b) H) → r x y H Q
theorem min_le60 {d e : D} (h : D.shp2 d e) : min d.toP.depth e.toP.depth ≤ 60 := by
  obtain ⟨h1, h2, h⟩ := h
  rw [toP_dep d h1, toP_dep e h2]
  omega
theorem is_non {K : PySem.W.Frag} {Z : Addr → Prop} {H : Hp} {x : V} {dx : D} (h : RepT K Z H x dx) : decide (x = .non) = dx.isN := by
  cases dx with
  | non => cases h.non; rfl
  | bl b => cases h.bl; rfl
  | int i => cases h.int; rfl
  | str x => cases h.str; rfl
  | tup ds => obtain ⟨a, _, rfl, _⟩ := h.tup; rfl
  | lst ds => obtain ⟨a, _, rfl, _⟩ := h.lst; rfl
  | scr ds => obtain ⟨a, _, rfl, _⟩ := h.scr; rfl
  | dct ds => obtain ⟨a, _, rfl, _⟩ := h.dct; rfl
  | dtt ds => obtain ⟨a, _, rfl, _⟩ := h.dtt; rfl
/-- in, by what it is asked of -/
theorem in_ok {K : PySem.W.Frag} {Z : Addr → Prop} {H : Hp} {x y : V} {dx dy : D} {Kp : Bool → Prop} {Q : VK} (neg : Bool) (hx : RepT K Z H x dx) (hy : RepT K Z H y dy) (hd : dIn dx dy Kp) (q : ∀ b, Kp b → Q (.bl (if neg then !b else b)) H)
    :
    (∃ i j, x = .str i ∧ y = .str j ∧ Q (.bl (if neg then !(!(Builtin.Str.occurrences j i 0 j.length 1).isEmpty) else !(Builtin.Str.occurrences j i 0 j.length 1).isEmpty)) H) ∨ rIn K neg x y H Q ∨ rDin K neg x y H Q := by
  have seq : ∀ ds : List D, (dx.flat = true ∧ ds.all D.flat = true) → Kp (ds.any fun y => D.eqb y dx) → ∀ p vs, (SqL K H p vs ∨ SqT K H p vs) → Reps K Z H vs ds → y = .ref p → rIn K neg x y H Q := fun ds f k p vs hs r e => by
    obtain ⟨fx, rx⟩ := hx.flat f.1
    refine ⟨p, vs, e, hs, fx, r.flats f.2, ?_⟩
    have := q _ k
    rw [r.inV rx f.1 f.2]
    cases neg <;> exact this
  cases dy with
  | str j =>
    cases dx <;> try exact hd.elim
    cases hx.str; cases hy.str
    refine .inl ⟨_, _, rfl, rfl, ?_⟩
    have := q _ hd
    cases neg <;> exact this
  | lst ds =>
    obtain ⟨a, vs, rfl, h, r⟩ := hy.lst
    have hd' : (dx.flat = true ∧ ds.all D.flat = true) ∧ Kp (ds.any fun y => D.eqb y dx) := by cases dx <;> exact hd
    exact .inr (.inl (seq ds hd'.1 hd'.2 a vs (.inl (SqL.of h)) r rfl))
  | tup ds =>
    obtain ⟨a, vs, rfl, h, r⟩ := hy.tup
    have hd' : (dx.flat = true ∧ ds.all D.flat = true) ∧ Kp (ds.any fun y => D.eqb y dx) := by cases dx <;> exact hd
    exact .inr (.inl (seq ds hd'.1 hd'.2 a vs (.inr h.sq) r rfl))
  | dct kvs =>
    obtain ⟨a, vs, rfl, h, r⟩ := hy.dct
    have hd' : ∃ k, keyD dx = some k ∧ Kp (dval kvs k).isSome := by cases dx <;> exact hd
    obtain ⟨k, ek, hk⟩ := hd'
    have := q _ hk
    rw [hx.key ek]
    rcases r.dget (k := k) h with ⟨e1, g⟩ | ⟨v, d, e1, g, _⟩
    · rw [e1] at this
      exact .inr (.inr ⟨a, _, rfl, .inl g, by cases neg <;> exact this⟩)
    · rw [e1] at this
      exact .inr (.inr ⟨a, _, rfl, .inl g, by cases neg <;> exact this⟩)
  | dtt kvs =>
    obtain ⟨a, ws, rfl, h, r⟩ := hy.dtt
    cases dx <;> try exact hd.elim
    obtain ⟨b, vs, rfl, ht, rv⟩ := hx.tup
    obtain ⟨k, ek, hk⟩ := hd
    have := q _ hk
    rcases r.dget h ht.sq (rv.keys ek) with ⟨e1, g⟩ | ⟨v, d, e1, g, _⟩
    · rw [e1] at this
      exact .inr (.inr ⟨a, _, rfl, g, by cases neg <;> exact this⟩)
    · rw [e1] at this
      exact .inr (.inr ⟨a, _, rfl, g, by cases neg <;> exact this⟩)
  | _ => cases dx <;> exact hd.elim
theorem cmp_ok (hu : X.A.units + 64 < cLine) (op : CmpOp) : CmpOk X op := by
  cases op with
  | Eq =>
    refine ⟨_, op_eqP hu, fun Z H x y dx dy Kp Q hx hy hd q => ?_⟩
    have hd' : D.shp2 dx dy ∧ Kp (D.eqb dx dy) := by cases dx <;> cases dy <;> exact hd
    exact ⟨_, _, hx.dp hd'.1.1, hy.dp hd'.1.2.1, toP_lay _ hd'.1.1, toP_lay _ hd'.1.2.1, min_le60 hd'.1, q _ (by rw [toP_eqv _ _ hd'.1.1 hd'.1.2.1]; exact hd'.2)⟩
  | NotEq =>
    refine ⟨_, op_neP hu, fun Z H x y dx dy Kp Q hx hy hd q => ?_⟩
    have hd' : D.shp2 dx dy ∧ Kp (!D.eqb dx dy) := by cases dx <;> cases dy <;> exact hd
    exact ⟨_, _, hx.dp hd'.1.1, hy.dp hd'.1.2.1, toP_lay _ hd'.1.1, toP_lay _ hd'.1.2.1, min_le60 hd'.1, q _ (by rw [toP_eqv _ _ hd'.1.1 hd'.1.2.1]; exact hd'.2)⟩
  | Lt =>
    refine ⟨_, op_lt.or op_lt_str, fun Z H x y dx dy Kp Q hx hy hd q => ?_⟩
    cases dx <;> cases dy <;> try exact hd.elim
    · cases hx.int; cases hy.int; exact .inl ⟨_, _, rfl, rfl, q _ hd⟩
    · cases hx.str; cases hy.str; exact .inr ⟨_, _, rfl, rfl, q _ hd⟩
  | LtE =>
    refine ⟨_, op_le.or op_le_str, fun Z H x y dx dy Kp Q hx hy hd q => ?_⟩
    cases dx <;> cases dy <;> try exact hd.elim
    · cases hx.int; cases hy.int; exact .inl ⟨_, _, rfl, rfl, q _ hd⟩
    · cases hx.str; cases hy.str; exact .inr ⟨_, _, rfl, rfl, q _ hd⟩
  | Gt =>
    refine ⟨_, op_gt.or op_gt_str, fun Z H x y dx dy Kp Q hx hy hd q => ?_⟩
    cases dx <;> cases dy <;> try exact hd.elim
    · cases hx.int; cases hy.int; exact .inl ⟨_, _, rfl, rfl, q _ hd⟩
    · cases hx.str; cases hy.str; exact .inr ⟨_, _, rfl, rfl, q _ hd⟩
  | GtE =>
    refine ⟨_, op_ge.or op_ge_str, fun Z H x y dx dy Kp Q hx hy hd q => ?_⟩
    cases dx <;> cases dy <;> try exact hd.elim
    · cases hx.int; cases hy.int; exact .inl ⟨_, _, rfl, rfl, q _ hd⟩
    · cases hx.str; cases hy.str; exact .inr ⟨_, _, rfl, rfl, q _ hd⟩
  | Is =>
    refine ⟨_, op_isBl.or op_isN, fun Z H x y dx dy Kp Q hx hy hd q => ?_⟩
    cases dy with
    | bl b =>
      cases dx <;> try exact hd.elim
      cases hx.bl; cases hy.bl
      exact .inl ⟨_, _, rfl, rfl, q _ (by rw [← Bool.beq_eq_decide_eq]; exact hd)⟩
    | non =>
      have hd' : Kp dx.isN := by cases dx <;> exact hd
      exact .inr ⟨hy.non, q _ (by rw [is_non hx]; exact hd')⟩
    | _ => cases dx <;> exact hd.elim
  | IsNot =>
    refine ⟨_, op_notBl.or op_notN, fun Z H x y dx dy Kp Q hx hy hd q => ?_⟩
    cases dy with
    | bl b =>
      cases dx <;> try exact hd.elim
      cases hx.bl; cases hy.bl
      exact .inl ⟨_, _, rfl, rfl, q _ (by rw [← Bool.beq_eq_decide_eq]; exact hd)⟩
    | non =>
      have hd' : Kp (!dx.isN) := by cases dx <;> exact hd
      exact .inr ⟨hy.non, q _ (by rw [is_non hx]; exact hd')⟩
    | _ => cases dx <;> exact hd.elim
  | In =>
    refine ⟨_, op_in_str.or (op_in_seq.or (op_din hu)), fun Z H x y dx dy Kp Q hx hy hd q => ?_⟩
    have hd' : dIn dx dy Kp := by cases dx <;> cases dy <;> exact hd
    exact in_ok false hx hy hd' q
  | NotIn =>
    refine ⟨_, op_notin_str.or (op_notIn_seq.or (op_din2 hu)), fun Z H x y dx dy Kp Q hx hy hd q => ?_⟩
    have hd' : dIn dx dy fun b => Kp (!b) := by cases dx <;> cases dy <;> exact hd
    exact in_ok (Kp := fun b => Kp (!b)) true hx hy hd' fun b k => q _ k
theorem tru_of {Z : Addr → Prop} {H : Hp} {x : V} {d : D} {k : Bool} (h : RepT X.K Z H x d) (e : dTru d = some k) : TruV X.K x H k := by
  cases d with
  | non => cases h.non; cases e; rfl
  | bl b => cases h.bl; cases e; rfl
  | int i => cases h.int; cases e; rfl
  | str z =>
    cases h.str
    simp only [dTru] at e
    split at e
    · cases e; exact ⟨by assumption, rfl⟩
    · cases e
  | tup ds =>
    obtain ⟨a, vs, rfl, ht, r⟩ := h.tup
    cases e
    exact .inr (.inl ⟨vs, ht.sq, by cases r <;> rfl⟩)
  | lst ds =>
    obtain ⟨a, vs, rfl, ht, r⟩ := h.lst
    cases e
    exact .inl ⟨vs, SqL.of ht, by cases r <;> rfl⟩
  | scr ds =>
    obtain ⟨a, vs, rfl, ht, r⟩ := h.scr
    cases e
    exact .inl ⟨vs, ht, by cases r <;> rfl⟩
  | dct kvs => cases e
  | dtt kvs => cases e
def rDix (K : PySem.W.Frag) : R2 := fun x y H Q => ∃ a v, x = .ref a ∧ DGe K H a y (some v) ∧ Q v H
theorem dge_typeIs {pins : List (Addr × Obj)} {σ : L2.St} {H : Hp} {s : Shared} {a : Addr} {y : V} {o : Option V} (I : Inv X pins σ H s) (g : DGe X.K H a y o) : s.TypeIs (.ref a) "dict" := by
  rcases g with g | ⟨kvs, k, b, e, _, _, _⟩
  · exact dict_typeIs I g
  · obtain ⟨_, _, xs, _, dd⟩ := dt_rd I.hok e
    exact dd.typeIs
theorem ix_dict (hu : X.A.units + 64 < cLine) : IxR X (rDix X.K) := by
  intro value slice pins s σ H x y v u Q I rx ry h hs
  obtain ⟨a, w, rfl, g, q⟩ := h
  cases rx
  have hT := dge_typeIs I g
  unfold subscriptTail
  refine wpAny_bind ?_
  rw [getitemInPython_of_ne hT.not_modules]
  refine wpAny_bind (wpAny_specialOf hT PySem.F.slot_dict_getitem.lookup ?_)
  have fin : wpAny (model X.prog X.w) X.A (subscripted slice false (Value.ref a) u) (fun r s₃ => wpAny (model X.prog X.w) X.A (letTemporaryGo value (Value.ref a) r >>= fun _ => pure r) (EP X pins σ Q) X.xe s₃) X.xe s := by
    rw [hs]
    exact wpAny_operating (e_getItem (by omega) I g ry fun w' s3 I3 rw' => wpAny_bind (wpAny_letTemporaryGo (wpAny_pure ⟨w, H, I3, rw', q⟩)))
  first
    | exact wpAny_pure (wpAny_bind fin)
    | exact wpAny_bind (wpAny_pure (wpAny_bind fin))
    | exact wpAny_bind fin
theorem ix_ok (hu : X.A.units + 64 < cLine) : ∃ r : R2, IxR X r ∧ ∀ (Z : Addr → Prop) (H : Hp) (x y : V) (dx dy : D) (Kp : D → Prop) (Q : VK), RepT X.K Z H x dx → RepT X.K Z H y dy → dIdx dx dy Kp →
    (∀ d v, Kp d → Rep X.K Z H v d → Q v H) → r x y H Q := by
  refine ⟨_, ix_list.or (ix_tup.or (ix_str.or (ix_dict hu))), fun Z H x y dx dy Kp Q hx hy hd q => ?_⟩
  cases dx with
  | lst ds =>
    cases dy <;> try exact hd.elim
    obtain ⟨a, vs, rfl, h, r⟩ := hx.lst
    cases hy.int
    obtain ⟨d, e, k⟩ := hd
    obtain ⟨v, e2, r2⟩ := r.atI e
    exact .inl ⟨a, vs, _, v, rfl, rfl, SqL.of h, e2, q d v k r2⟩
  | tup ds =>
    cases dy <;> try exact hd.elim
    obtain ⟨a, vs, rfl, h, r⟩ := hx.tup
    cases hy.int
    obtain ⟨d, e, k⟩ := hd
    obtain ⟨v, e2, r2⟩ := r.atI e
    exact .inr (.inl ⟨a, vs, _, v, rfl, rfl, h.sq, e2, q d v k r2⟩)
  | scr ds =>
    cases dy <;> try exact hd.elim
    obtain ⟨a, vs, rfl, h, r⟩ := hx.scr
    cases hy.int
    obtain ⟨d, e, k⟩ := hd
    obtain ⟨v, e2, r2⟩ := r.atI e
    exact .inl ⟨a, vs, _, v, rfl, rfl, h, e2, q d v k r2⟩
  | str z =>
    cases dy <;> try exact hd.elim
    cases hx.str; cases hy.int
    obtain ⟨hz, c, e, k⟩ := hd
    exact .inr (.inr (.inl ⟨z, _, c, rfl, rfl, hz, e, q _ _ k (.str _)⟩))
  | dct kvs =>
    obtain ⟨a, vs, rfl, h, r⟩ := hx.dct
    have hd' : ∃ k, keyD dy = some k ∧ ∃ d, dval kvs k = some d ∧ Kp d := by cases dy <;> exact hd
    obtain ⟨k, ek, d, ed, kd⟩ := hd'
    rw [hy.key ek]
    rcases r.dget (k := k) h with ⟨e1, g⟩ | ⟨v, d', e1, g, rr⟩
    · rw [e1] at ed; cases ed
    · rw [e1] at ed; cases ed
      exact .inr (.inr (.inr ⟨a, v, rfl, .inl g, q _ _ kd rr⟩))
  | dtt kvs =>
    cases dy <;> try exact hd.elim
    obtain ⟨a, ws, rfl, h, r⟩ := hx.dtt
    obtain ⟨b, vs, rfl, ht, rv⟩ := hy.tup
    obtain ⟨k, ek, d, ed, kd⟩ := hd
    rcases r.dget h ht.sq (rv.keys ek) with ⟨e1, g⟩ | ⟨v, d', e1, g, rr⟩
    · rw [e1] at ed; cases ed
    · rw [e1] at ed; cases ed
      exact .inr (.inr (.inr ⟨a, v, rfl, g, q _ _ kd rr⟩))
  | _ => cases dy <;> exact hd.elim
theorem Reps.cut {K : PySem.W.Frag} {Z : Addr → Prop} {H : Hp} {vs : List V} {ds : List D} (r : Reps K Z H vs ds) (lo hi : Option Int) : Reps K Z H (cutV vs lo hi) (cutD ds lo hi) := by
  unfold cutV cutD
  rw [r.length]
  exact (r.drop _).take _
theorem slc_ok : ∃ r : V → Option Int → Option Int → Hp → VK → Prop, SlR X r ∧ ∀ (Z : Addr → Prop) (H : Hp) (x : V) (lo hi : Option Int) (dx : D) (Kp : Rv → Prop) (Q : VK), RepT X.K Z H x dx → dSlc dx lo hi Kp →
    (∀ z v H', Kp z → Out X.K Z H z v H' → Q v H') → r x lo hi H Q := by
  refine ⟨_, sl_list.or (sl_tupA.or sl_str), fun Z H x lo hi dx Kp Q hx hd q => ?_⟩
  cases dx with
  | lst ds =>
    obtain ⟨a, vs, rfl, h, r⟩ := hx.lst
    exact .inl ⟨a, vs, rfl, SqL.of h, fun p hp => q _ _ _ hd (.lst hp (r.cut lo hi))⟩
  | tup ds =>
    obtain ⟨a, vs, rfl, h, r⟩ := hx.tup
    refine .inr (.inl ⟨a, vs, rfl, h.sq, fun e => q _ _ _ hd (.same ?_), fun _ p hp => q _ _ _ hd (.tup hp (r.cut lo hi))⟩)
    have : cutD ds lo hi = ds := by
      unfold cutD
      rw [← r.length, e.1, e.2, List.drop_zero, Nat.sub_zero, r.length, List.take_length]
    rw [this]
    exact .tup h r
  | str z =>
    cases hx.str
    refine .inr (.inr ⟨z, rfl, hd.1, q _ _ _ hd.2 (.same ?_)⟩)
    have : cutS z lo hi = ⟨(cutD z.cps.toList lo hi).toArray⟩ := by
      unfold cutS cutD
      rw [Array.length_toList]; rfl
    rw [this]
    exact .str _
  | _ => exact hd.elim
end
end TG
end
section
namespace TG
open PySem PySem.Spec PyProof.Rows L2

/-- one item as the sort sees it -/
def kyV : V → Int ⊕ List Nat
  | .int i => .inl i
  | .str x => .inr x.cps.toList
  | _ => .inl 0
/-- the kinds of the items: a text where shape says so, an int elsewhere -/
def shV (shape : Nat → Bool) : Nat → List V → Bool
  | _, [] => true
  | i, .int _ :: r => !shape i && shV shape (i + 1) r
  | i, .str _ :: r => shape i && shV shape (i + 1) r
  | _, _ => false
theorem rowLt_eq : ∀ x y : List (Int ⊕ List Nat), PyProof.Rows.lexLt PyProof.Rows.itemOrd x y = rowLt x y
  | [], [] => rfl
  | [], _ :: _ => rfl
  | _ :: _, [] => rfl
  | x :: r, y :: t => by
    have ih := rowLt_eq r t
    have e : ∀ a b, PyProof.Rows.itemLt a b = itLt a b := fun a b => by cases a <;> cases b <;> rfl
    show (PyProof.Rows.itemLt x y || (!PyProof.Rows.itemLt y x && PyProof.Rows.lexLt PyProof.Rows.itemOrd r t)) = _
    rw [ih, e, e]
    rfl
theorem shV_items {shape : Nat → Bool} : ∀ {vs : List V} {us : List Value} {i : Nat}, Vals vs us → shV shape i vs = true → PyProof.Rows.tupItems shape i us = some (vs.map kyV)
  | _, _, _, .nil, _ => rfl
  | _, _, i, .cons (a := x) r t, h => by
    cases x <;> simp only [shV] at h <;> try cases h
    · rw [Bool.and_eq_true] at h
      obtain ⟨k, rfl⟩ := r
      have h1 : shape i = false := by simpa using h.1
      show (if shape i = true then none else (PyProof.Rows.tupItems shape (i + 1) _).map _) = _
      rw [h1, if_neg Bool.false_ne_true, shV_items t h.2]
      rfl
    · rw [Bool.and_eq_true] at h
      obtain ⟨k, rfl⟩ := r
      show (if shape i = true then (PyProof.Rows.tupItems shape (i + 1) _).map _ else none) = _
      rw [if_pos h.1, shV_items t h.2]
      rfl
section
variable {X : Cx}
def rSortR (K : PySem.W.Frag) : List V → Hp → VK → Prop := fun vs H Q => ∃ (a : Addr) (zs : List (V × List V)) (shape : Nat → Bool), vs = [V.ref a] ∧ SqL K H a (zs.map Prod.fst) ∧
  (∀ z ∈ zs, ∃ t, z.1 = V.ref t ∧ SqT K H t z.2 ∧ z.2 ≠ [] ∧ shV shape 0 z.2 = true) ∧
  ∀ (zs' : List (V × List V)) (p : Addr), zs'.Perm zs → zs'.Pairwise (fun x y => rowLt (y.2.map kyV) (x.2.map kyV) = false) → H p = none → Q (.ref p) (upd H p (.lst (zs'.map Prod.fst)))
theorem cr_sortR : CallR X (.builtin "sorted") (rSortR X.K) := by
  intro pins s σ H vs us Q I r h
  obtain ⟨a, zs, shape, rfl, hs, hz0, q0⟩ := h
  obtain ⟨rw0, hrw⟩ : ∃ f : V → List V, ∀ (t : Addr) (ws : List V), SqT X.K H t ws → f (.ref t) = ws := by
    refine ⟨fun v => open Classical in if h : ∃ (t : Addr) (ws : List V), v = V.ref t ∧ SqT X.K H t ws then Classical.choose (Classical.choose_spec h) else [], fun t ws h => ?_⟩
    have ex : ∃ (t' : Addr) (ws : List V), V.ref t = V.ref t' ∧ SqT X.K H t' ws := ⟨t, ws, rfl, h⟩
    simp only
    rw [dif_pos ex]
    obtain ⟨e, h'⟩ := Classical.choose_spec (Classical.choose_spec ex)
    have key : ∀ (t' : Addr) (ws' : List V), V.ref t = V.ref t' → SqT X.K H t' ws' → ws' = ws := fun t' ws' e h' => by
      injection e with e
      subst e
      exact I.tuple_inj h' h
    exact key _ _ e h'
  have hzs : zs = (zs.map Prod.fst).map fun x => (x, rw0 x) := by
    rw [List.map_map]
    refine (List.map_id' zs).symm.trans (List.map_congr_left fun z hz => ?_)
    obtain ⟨t, e, hS, _⟩ := hz0 z hz
    show z = (z.1, rw0 z.1)
    rw [e, hrw t _ hS, ← e]
  have hx : ∀ x ∈ zs.map Prod.fst, ∃ t, x = V.ref t ∧ SqT X.K H t (rw0 x) ∧ rw0 x ≠ [] ∧ shV shape 0 (rw0 x) = true := fun x hx => by
    obtain ⟨z, hz, rfl⟩ := List.mem_map.mp hx
    obtain ⟨t, e, hS, h1, h2⟩ := hz0 z hz
    have er : rw0 z.1 = z.2 := by rw [e]; exact hrw t _ hS
    rw [er]
    exact ⟨t, e, hS, h1, h2⟩
  generalize hxs : zs.map Prod.fst = xs at hs hx hzs
  have q : ∀ (ys : List V) (p : Addr), ys.Perm xs → ys.Pairwise (fun x y => rowLt ((rw0 y).map kyV) ((rw0 x).map kyV) = false) → H p = none → Q (.ref p) (upd H p (.lst ys)) := fun ys p h1 h2 h3 => by
    have := q0 (ys.map fun x => (x, rw0 x)) p (by rw [hzs]; exact h1.map _) (List.pairwise_map.mpr h2) h3
    rw [List.map_map] at this
    have e : ys.map (Prod.fst ∘ fun x => (x, rw0 x)) = ys := List.map_id' ys
    rwa [e] at this
  obtain ⟨its, rv, hl, hz⟩ := I.list hs
  rw [Vals.ref1 r]
  obtain ⟨e1, e2⟩ := bkV_refs rv fun x m => by
    obtain ⟨t, e, _⟩ := hx x m
    exact ⟨t, e⟩
  -- each item, as it lies
  have look : ∀ v ∈ its, ∃ t o us n f, v = Value.ref t ∧ s.heap.get? t = some o ∧ o.cls = .type "tuple" ∧ o.data = .seq us.toArray n ∧ PyProof.Rows.tupItems shape 0 us = some ((rw0 (.ref t)).map kyV) ∧ us[0]? = some f ∧ (shape 0 = false → ∃ k t, f = .int k t) ∧ (shape 0 = true → ∃ x t, f = .str x t) := fun v hv => by
    obtain ⟨t, rfl⟩ := e2 v hv
    have hm : V.ref t ∈ xs := by
      rw [e1]
      exact List.mem_map.mpr ⟨_, hv, rfl⟩
    obtain ⟨t', e, ht, hne, hsh⟩ := hx _ hm
    cases e
    obtain ⟨us, r2, ⟨o, ho, hc, n, hd⟩, _⟩ := I.tuple ht
    cases hr : rw0 (.ref t) with
    | nil => exact (hne hr).elim
    | cons y ys =>
      rw [hr] at r2 hsh
      have ki := shV_items r2 hsh
      cases r2 with
      | @cons _ f _ us' rf rt =>
        refine ⟨t, o, f :: us', n, f, rfl, ho, hc, hd, by rw [hr]; exact ki, rfl, fun hb => ?_, fun hb => ?_⟩
        · cases y <;> simp only [shV, hb, Bool.and_eq_true] at hsh <;> first | cases hsh.1 | cases hsh | skip
          obtain ⟨k, rfl⟩ := rf
          exact ⟨_, _, rfl⟩
        · cases y <;> simp only [shV, hb, Bool.and_eq_true] at hsh <;> first | cases hsh.1 | cases hsh | skip
          obtain ⟨k, rfl⟩ := rf
          exact ⟨_, _, rfl⟩
  have key : ∀ v ∈ its, PyProof.Rows.G.tupKeyC s.heap shape v = some ((rw0 (bkV v)).map kyV) := fun v hv => by
    obtain ⟨t, o, us, n, f, rfl, ho, hc, hd, hi, _⟩ := look v hv
    unfold PyProof.Rows.G.tupKeyC PyProof.Rows.G.isTupObj PyProof.Rows.tupKey
    simp only [ho, hc, hd]
    rw [if_pos (by simp)]
    exact hi
  have tups : ∀ l : List Value, (∀ v ∈ l, v ∈ its) → ∃ fs, PyProof.Rows.TupsOf s.heap shape l fs := by
    intro l
    induction l with
    | nil => intro _; exact ⟨[], .nil⟩
    | cons v l ih =>
      intro hm
      obtain ⟨fs, hf⟩ := ih fun u hu => hm u (List.mem_cons_of_mem _ hu)
      obtain ⟨t, o, us, n, f, rfl, ho, hc, hd, hi, h0, h1, h2⟩ := look v (hm v List.mem_cons_self)
      exact ⟨f :: fs, .cons ⟨t, o, us.toArray, n, rfl, ho, hc, hd, by simpa using h0, h1, h2⟩ hf⟩
  obtain ⟨fs, hf⟩ := tups its fun _ h => h
  refine PyProof.Rows.G.sorted_tups (shape := shape) hl.isList hf (fun v hv => ⟨_, key v hv⟩) (by rw [← rv.length]; exact hz) fun st' a1 a2 a3 => ?_
  have hperm : (arrOf st').toList.Perm (its.zip its) := by
    have := a1.toList
    rwa [pairsOf_toList] at this
  have same : ∀ p ∈ (arrOf st').toList, p.1 = p.2 ∧ p.1 ∈ its := fun p hp => mem_zip_self (hperm.mem_iff.mp hp)
  generalize hout : ((arrOf st').map (·.2) : Array Value) = out
  have ho : out.toList = (arrOf st').toList.map (·.2) := by rw [← hout]; simp
  have h1 : out.toList.Perm its := by
    rw [ho]
    have z := hperm.map Prod.snd
    rw [List.map_snd_zip (Nat.le_refl _)] at z
    exact z
  obtain ⟨ep, he'⟩ := PyProof.Rows.sortedAll_at s.heap its out
  have h3 : ∀ u ∈ out.toList, ∃ a, u = Value.ref a := fun u hu => e2 u (h1.mem_iff.mp hu)
  have hp : (out.toList.map bkV).Perm xs := by
    rw [e1]
    exact h1.map bkV
  have hlen : (out.toList.map bkV).length ≤ sizeLine := by
    rw [hp.length_eq]
    exact hz
  refine ⟨.ref _, upd H (s.heap.objs.size + 1) (.lst (out.toList.map bkV)), I.laid (t' := s.toks) (fun _ _ => PyProof.Rows.sortedAll_old) (Nat.le_succ _) ⟨hlen, out.toList, ep, bkV_vals h3, he'⟩, rfl, q _ _ hp ?_ (I.hok.fresh (Nat.le_succ _))⟩
  rw [List.pairwise_map, ho, List.pairwise_map]
  rw [List.pairwise_iff_getElem]
  intro i j hi hj hij
  have hj' : j < (pairsOf its).size := by
    rw [pairsOf_size]
    have := hperm.length_eq
    simp at this hj ⊢
    omega
  have kk : ∀ m (hm : m < (arrOf st').toList.length), PyProof.Rows.KK (PyProof.Rows.G.tupKindC s.heap shape) (arrOf st') m = (rw0 (bkV (arrOf st').toList[m].2)).map kyV := fun m hm => by
    obtain ⟨s1, s2⟩ := same _ (List.getElem_mem hm)
    unfold PyProof.Rows.KK
    rw [show (arrOf st')[m]? = some (arrOf st').toList[m] by simp]
    show (PyProof.Rows.G.tupKeyC s.heap shape (arrOf st').toList[m].1).getD [] = _
    rw [key _ s2, ← s1]
    rfl
  have z : PyProof.Rows.lexLt PyProof.Rows.itemOrd (PyProof.Rows.KK (PyProof.Rows.G.tupKindC s.heap shape) (arrOf st') j) (PyProof.Rows.KK (PyProof.Rows.G.tupKindC s.heap shape) (arrOf st') i) = false := a2 i j (Nat.le_of_lt hij) hj'
  rw [kk i hi, kk j hj, rowLt_eq] at z
  exact z
end
end TG
end
section
namespace TG
open PySem PySem.Spec PyProof.Rows L2

def Bt.nm : Bt → Str
  | .len => "len" | .abs => "abs" | .min => "min" | .max => "max" | .sum => "sum" | .all => "all" | .any => "any" | .sorted => "sorted"
  | .tuple => "tuple" | .list => "list" | .dict => "dict" | .set => "set" | .int => "int" | .str => "str" | .repr => "repr" | .divmod => "divmod"
def Bt.ty : Bt → Option String
  | .tuple => some "tuple" | .list => some "list" | .dict => some "dict" | .set => some "set" | .int => some "int" | .str => some "str" | _ => none
def Bt.id : Bt → String
  | .len => "len" | .abs => "abs" | .min => "min" | .max => "max" | .sum => "sum" | .all => "all" | .any => "any" | .sorted => "sorted"
  | .repr => "repr" | .divmod => "divmod" | _ => ""
def Bt.val (b : Bt) : Value := match b.ty with
  | some T => .type T
  | none => .builtin b.id
theorem bt_boot (b : Bt) : bootBuiltins b.nm = some b.val ∧ b.nm ≠ "__name__" ∧ (b.nm == ("__debug__" : Str)) = false := by
  cases b
  all_goals refine ⟨?_, by decide +kernel, by decide +kernel⟩
  all_goals first
    | exact PySem.boot_len
    | exact PyProof.Rows.boot_abs
    | exact PyProof.Rows.boot_min
    | exact PyProof.Rows.boot_max
    | exact PyProof.Rows.boot_sum
    | exact PyProof.Rows.boot_all
    | exact PyProof.Rows.boot_any
    | exact PyProof.Rows.boot_sorted
    | exact PyProof.Rows.boot_tuple
    | exact PyProof.Rows.boot_list
    | exact PyProof.Rows.boot_dict
    | exact PyProof.Rows.boot_set
    | exact PyProof.Rows.boot_int
    | exact PyProof.Rows.boot_str
    | exact PyProof.Rows.boot_repr
    | exact PyProof.Rows.boot_divmod

section
variable {K : PySem.W.Frag} {Z : Addr → Prop} {H : Hp}
theorem ints_of : ∀ {vs : List V} {ds : List D} {ns : List Int}, Reps K Z H vs ds → intsD ds = some ns → vs = ns.map V.int ∧ ds = ns.map D.int
  | _, _, _, .nil, e => by cases e; exact ⟨rfl, rfl⟩
  | _, _, _, .cons (d := d) (ds := ds) h r, e => by
    cases d <;> simp only [intsD] at e <;> try cases e
    cases e2 : intsD ds with
    | none => rw [e2] at e; cases e
    | some ms =>
      rw [e2] at e; cases e
      obtain ⟨e3, e4⟩ := ints_of r e2
      cases h
      rw [e3, e4]; exact ⟨rfl, rfl⟩
theorem strs_of : ∀ {vs : List V} {ds : List D} {ns : List Str}, Reps K Z H vs ds → strsD ds = some ns → vs = ns.map V.str ∧ ds = ns.map D.str
  | _, _, _, .nil, e => by cases e; exact ⟨rfl, rfl⟩
  | _, _, _, .cons (d := d) (ds := ds) h r, e => by
    cases d <;> simp only [strsD] at e <;> try cases e
    cases e2 : strsD ds with
    | none => rw [e2] at e; cases e
    | some ms =>
      rw [e2] at e; cases e
      obtain ⟨e3, e4⟩ := strs_of r e2
      cases h
      rw [e3, e4]; exact ⟨rfl, rfl⟩
theorem bls_of : ∀ {vs : List V} {ds : List D} {ns : List Bool}, Reps K Z H vs ds → blsD ds = some ns → vs = ns.map V.bl
  | _, _, _, .nil, e => by cases e; rfl
  | _, _, _, .cons (d := d) (ds := ds) h r, e => by
    cases d <;> simp only [blsD] at e <;> try cases e
    cases e2 : blsD ds with
    | none => rw [e2] at e; cases e
    | some ms =>
      rw [e2] at e; cases e
      have e3 := bls_of r e2
      cases h
      rw [e3]; rfl
theorem reps_ints (ns : List Int) : Reps K Z H (ns.map V.int) (ns.map D.int) := by
  induction ns with
  | nil => exact .nil
  | cons n r ih => exact .cons (.int n) ih
theorem reps_strs (ns : List Str) : Reps K Z H (ns.map V.str) (ns.map D.str) := by
  induction ns with
  | nil => exact .nil
  | cons n r ih => exact .cons (.str n) ih
theorem pairs_of' : ∀ {vs : List V} {ds : List D} {kds : List (Key × D)}, Reps K Z H vs ds → pairsD ds = some kds →
    ∃ (ps : List Addr) (kvs : List (Key × V)), vs = ps.map V.ref ∧ Paired (fun p kv => SqT K H p [kV kv.1, kv.2]) ps kvs ∧ RepKs K Z H kvs kds
  | _, _, _, .nil, e => by cases e; exact ⟨[], [], rfl, .nil, .nil⟩
  | _, _, _, .cons (v := v) (d := d) (ds := ds) h r, e => by
    match d, h, e with
    | .tup [k, x], h, e =>
      simp only [pairsD] at e
      cases e1 : keyD k with
      | none => rw [e1] at e; cases e
      | some k' =>
        cases e2 : pairsD ds with
        | none => rw [e1, e2] at e; cases e
        | some r' =>
          rw [e1, e2] at e; cases e
          obtain ⟨ps, kvs, e3, p, rr⟩ := pairs_of' r e2
          cases h with
          | tup ht rt =>
            cases rt with
            | cons ha rt =>
              cases rt with
              | cons hb rt =>
                cases rt
                rw [ha.key e1] at ht
                exact ⟨_ :: ps, (k', _) :: kvs, by rw [e3]; rfl, .cons ht.sq p, .cons hb rr⟩
    | .tup [], _, e => cases e
    | .tup [_], _, e => cases e
    | .tup (_ :: _ :: _ :: _), _, e => cases e
    | .non, _, e => cases e
    | .bl _, _, e => cases e
    | .int _, _, e => cases e
    | .str _, _, e => cases e
    | .lst _, _, e => cases e
    | .scr _, _, e => cases e
    | .dct _, _, e => cases e
    | .dtt _, _, e => cases e
theorem RepKs.put {v : V} {d : D} {k : Key} (h : Rep K Z H v d) : ∀ {kvs : List (Key × V)} {kds : List (Key × D)}, RepKs K Z H kvs kds → RepKs K Z H (putK kvs k v) (dput kds k d) := by
  intro kvs kds r
  have a : (kvs.any fun kv => decide (kv.1 = k)) = kds.any fun kv => decide (kv.1 = k) := by
    induction kvs generalizing kds with
    | nil => cases r; rfl
    | cons p q ih =>
      cases r with
      | cons h r => rw [List.any_cons, List.any_cons, ih r]
  unfold putK dput
  rw [a]
  split
  · next hc =>
    clear a hc
    induction kvs generalizing kds with
    | nil => cases r; exact .nil
    | cons p q ih =>
      cases r with
      | @cons j w e _ _ h' r =>
        rw [List.map_cons, List.map_cons]
        by_cases c : j = k
        · rw [if_pos c, if_pos c]; exact .cons h (ih r)
        · rw [if_neg c, if_neg c]; exact .cons h' (ih r)
  · next hc =>
    clear a hc
    induction kvs generalizing kds with
    | nil => cases r; exact .cons h .nil
    | cons p q ih =>
      cases r with
      | cons h' r => exact .cons h' (ih r)
theorem RepTs.put {v : V} {d : D} {k : List Key} (h : Rep K Z H v d) : ∀ {kvs : List (List Key × V)} {kds : List (List Key × D)}, RepTs K Z H kvs kds → RepTs K Z H (putK kvs k v) (dput kds k d) := by
  intro kvs kds r
  have a : (kvs.any fun kv => decide (kv.1 = k)) = kds.any fun kv => decide (kv.1 = k) := by
    induction kvs generalizing kds with
    | nil => cases r; rfl
    | cons p q ih =>
      cases r with
      | cons h r => rw [List.any_cons, List.any_cons, ih r]
  unfold putK dput
  rw [a]
  split
  · next hc =>
    clear a hc
    induction kvs generalizing kds with
    | nil => cases r; exact .nil
    | cons p q ih =>
      cases r with
      | @cons j w e _ _ h' r =>
        rw [List.map_cons, List.map_cons]
        by_cases c : j = k
        · rw [if_pos c, if_pos c]; exact .cons h (ih r)
        · rw [if_neg c, if_neg c]; exact .cons h' (ih r)
  · next hc =>
    clear a hc
    induction kvs generalizing kds with
    | nil => cases r; exact .cons h .nil
    | cons p q ih =>
      cases r with
      | cons h' r => exact .cons h' (ih r)
theorem RepKs.merge : ∀ {more : List (Key × V)} {md : List (Key × D)} {kvs : List (Key × V)} {kds : List (Key × D)}, RepKs K Z H more md → RepKs K Z H kvs kds → RepKs K Z H (mergeK kvs more) (dmerge kds md)
  | _, _, _, _, .nil, r => r
  | _, _, _, _, .cons (k := k) (v := v) (d := d) (vs := vs) (ds := ds) h m, r => by
    show RepKs K Z H (mergeK (putK _ k v) vs) (dmerge (dput _ k d) ds)
    exact RepKs.merge m (r.put h)
end
inductive RepTL (K : PySem.W.Frag) (Z : Addr → Prop) (H : Hp) : List V → List D → Prop
  | nil : RepTL K Z H [] []
  | cons {v : V} {d : D} {vs : List V} {ds : List D} (h : RepT K Z H v d) (r : RepTL K Z H vs ds) : RepTL K Z H (v :: vs) (d :: ds)
abbrev R1 := List V → Hp → VK → Prop
section
variable {X : Cx}
def BltOk (X : Cx) (b : Bt) : Prop := ∃ r : R1, CallR X b.val r ∧ ∀ (Z : Addr → Prop) (H : Hp) (xs : List V) (ds : List D) (Kp : Rv → Prop) (Q : VK), RepTL X.K Z H xs ds → dBlt b ds Kp →
    (∀ z v H', Kp z → Out X.K Z H z v H' → Q v H') → r xs H Q
theorem call_none {f : Value} : CallR X f (fun _ _ _ => False) := fun _ _ _ _ _ _ _ _ _ h => h.elim
theorem un1 {K : PySem.W.Frag} {Z : Addr → Prop} {H : Hp} {u : D → (Rv → Prop) → Prop} {xs : List V} {ds : List D} {Kp : Rv → Prop} (hx : RepTL K Z H xs ds) (hd : un u ds Kp) : ∃ v d, xs = [v] ∧ RepT K Z H v d ∧ u d Kp := by
  cases hx with
  | nil => exact hd.elim
  | cons h r =>
    cases r with
    | nil => exact ⟨_, _, rfl, h, hd⟩
    | cons _ _ => exact hd.elim
theorem bi1 {K : PySem.W.Frag} {Z : Addr → Prop} {H : Hp} {u : D → D → (Rv → Prop) → Prop} {xs : List V} {ds : List D} {Kp : Rv → Prop} (hx : RepTL K Z H xs ds) (hd : bi u ds Kp) : ∃ v d w e, xs = [v, w] ∧ RepT K Z H v d ∧ RepT K Z H w e ∧ u d e Kp := by
  cases hx with
  | nil => exact hd.elim
  | cons h r =>
    cases r with
    | nil => exact hd.elim
    | cons h' r =>
      cases r with
      | nil => exact ⟨_, _, _, _, rfl, h, h', hd⟩
      | cons _ _ => exact hd.elim
theorem ub1 {K : PySem.W.Frag} {Z : Addr → Prop} {H : Hp} {u : D → (Rv → Prop) → Prop} {w : D → D → (Rv → Prop) → Prop} {xs : List V} {ds : List D} {Kp : Rv → Prop} (hx : RepTL K Z H xs ds) (hd : ub u w ds Kp) :
    (∃ v d, xs = [v] ∧ RepT K Z H v d ∧ u d Kp) ∨ ∃ v d z e, xs = [v, z] ∧ RepT K Z H v d ∧ RepT K Z H z e ∧ w d e Kp := by
  cases hx with
  | nil => exact hd.elim
  | cons h r =>
    cases r with
    | nil => exact .inl ⟨_, _, rfl, h, hd⟩
    | cons h' r =>
      cases r with
      | nil => exact .inr ⟨_, _, _, _, rfl, h, h', hd⟩
      | cons _ _ => exact hd.elim
theorem call_lenR : CallR X (.builtin "len") (fun xs H Q => ∃ (a : Addr) (kvs : List (Key × V)), xs = [.ref a] ∧ Rd H a (.dK kvs) ∧ Q (.int kvs.length) H) := by
  intro pins s σ H xs us Q I r h
  obtain ⟨a, kvs, rfl, hd, q⟩ := h
  obtain ⟨u, rfl, rx⟩ := vals1 r
  cases rx
  exact L2.d_len I hd fun t s' I' => ⟨.int _, H, I', ⟨_, rfl⟩, q⟩
theorem blt_len (hu : X.A.units + 64 < cLine) (hc : X.calm = true) : BltOk X .len := by
  refine ⟨_, call_len_str.or (call_len_seq.or call_lenR), fun Z H xs ds Kp Q hx hd q => ?_⟩
  obtain ⟨v, d, rfl, h, hd⟩ := un1 hx hd
  cases d <;> try exact hd.elim
  · rename_i z
    cases h.str
    exact .inl ⟨z, rfl, hd.1, q _ _ _ hd.2 (.same (.int _))⟩
  · rename_i ds
    obtain ⟨a, vs, rfl, h, r⟩ := h.tup
    exact .inr (.inl ⟨a, vs, rfl, .inr h.sq, by rw [r.length]; exact q _ _ _ hd (.same (.int _))⟩)
  · rename_i ds
    obtain ⟨a, vs, rfl, h, r⟩ := h.lst
    exact .inr (.inl ⟨a, vs, rfl, .inl (SqL.of h), by rw [r.length]; exact q _ _ _ hd (.same (.int _))⟩)
  · rename_i ds
    obtain ⟨a, vs, rfl, h, r⟩ := h.scr
    exact .inr (.inl ⟨a, vs, rfl, .inl h, by rw [r.length]; exact q _ _ _ hd (.same (.int _))⟩)
  · rename_i ds
    obtain ⟨a, vs, rfl, h, r⟩ := h.dct
    exact .inr (.inr ⟨a, vs, rfl, h, by rw [r.length]; exact q _ _ _ hd (.same (.int _))⟩)
theorem blt_abs (hu : X.A.units + 64 < cLine) (hc : X.calm = true) : BltOk X .abs := by
  refine ⟨_, call_abs, fun Z H xs ds Kp Q hx hd q => ?_⟩
  obtain ⟨v, d, rfl, h, hd⟩ := un1 hx hd
  cases d <;> try exact hd.elim
  · rename_i i
    cases h.int
    exact ⟨i, rfl, q _ _ _ hd (.same (.int _))⟩
theorem blt_min (hu : X.A.units + 64 < cLine) (hc : X.calm = true) : BltOk X .min := by
  refine ⟨_, (call_min2 hc).or (cr_min hc), fun Z H xs ds Kp Q hx hd q => ?_⟩
  rcases ub1 hx hd with ⟨v, d, rfl, h, hd⟩ | ⟨v, d, w, e, rfl, h, h', hd⟩
  · cases d <;> try exact hd.elim
    · rename_i ds
      obtain ⟨a, vs, rfl, h, r⟩ := h.lst
      obtain ⟨ns, e, hn, k⟩ := hd
      obtain ⟨rfl, _⟩ := ints_of r e
      exact .inr ⟨a, ns, rfl, SqL.of h, List.length_pos_iff.mpr hn, fun m h1 h2 => q _ _ _ (k m h1 h2) (.same (.int _))⟩
  · cases d <;> try exact hd.elim
    cases e <;> try exact hd.elim
    rename_i i j
    cases h.int
    cases h'.int
    exact .inl ⟨i, j, rfl, q _ _ _ hd (.same (.int _))⟩
theorem blt_max (hu : X.A.units + 64 < cLine) (hc : X.calm = true) : BltOk X .max := by
  refine ⟨_, (call_max2 hc).or (cr_max hc), fun Z H xs ds Kp Q hx hd q => ?_⟩
  rcases ub1 hx hd with ⟨v, d, rfl, h, hd⟩ | ⟨v, d, w, e, rfl, h, h', hd⟩
  · cases d <;> try exact hd.elim
    · rename_i ds
      obtain ⟨a, vs, rfl, h, r⟩ := h.lst
      obtain ⟨ns, e, hn, k⟩ := hd
      obtain ⟨rfl, _⟩ := ints_of r e
      exact .inr ⟨a, ns, rfl, SqL.of h, List.length_pos_iff.mpr hn, fun m h1 h2 => q _ _ _ (k m h1 h2) (.same (.int _))⟩
  · cases d <;> try exact hd.elim
    cases e <;> try exact hd.elim
    rename_i i j
    cases h.int
    cases h'.int
    exact .inl ⟨i, j, rfl, q _ _ _ hd (.same (.int _))⟩
theorem blt_sum (hu : X.A.units + 64 < cLine) (hc : X.calm = true) : BltOk X .sum := by
  refine ⟨_, cr_sum hc, fun Z H xs ds Kp Q hx hd q => ?_⟩
  obtain ⟨v, d, rfl, h, hd⟩ := un1 hx hd
  cases d <;> try exact hd.elim
  · rename_i ds
    obtain ⟨a, vs, rfl, h, r⟩ := h.lst
    obtain ⟨ns, e, k⟩ := hd
    obtain ⟨rfl, _⟩ := ints_of r e
    exact ⟨a, ns, rfl, SqL.of h, q _ _ _ k (.same (.int _))⟩
theorem blt_all (hu : X.A.units + 64 < cLine) (hc : X.calm = true) : BltOk X .all := by
  refine ⟨_, cr_all hc, fun Z H xs ds Kp Q hx hd q => ?_⟩
  obtain ⟨v, d, rfl, h, hd⟩ := un1 hx hd
  cases d <;> try exact hd.elim
  · rename_i ds
    obtain ⟨a, vs, rfl, h, r⟩ := h.lst
    obtain ⟨ns, e, k⟩ := hd
    cases bls_of r e
    exact ⟨a, ns, rfl, SqL.of h, q _ _ _ k (.same (.bl _))⟩
theorem blt_any (hu : X.A.units + 64 < cLine) (hc : X.calm = true) : BltOk X .any := by
  refine ⟨_, cr_any hc, fun Z H xs ds Kp Q hx hd q => ?_⟩
  obtain ⟨v, d, rfl, h, hd⟩ := un1 hx hd
  cases d <;> try exact hd.elim
  · rename_i ds
    obtain ⟨a, vs, rfl, h, r⟩ := h.lst
    obtain ⟨ns, e, k⟩ := hd
    cases bls_of r e
    exact ⟨a, ns, rfl, SqL.of h, q _ _ _ k (.same (.bl _))⟩
theorem perm_map_back {α β : Type} {g : α → β} : ∀ {l m : List β}, l.Perm m → ∀ ts : List α, m = ts.map g → ∃ ts' : List α, ts'.Perm ts ∧ l = ts'.map g := by
  intro l m h
  induction h with
  | nil => intro ts e; cases ts <;> simp at e; exact ⟨[], .nil, rfl⟩
  | cons x _ ih =>
    intro ts e
    cases ts with
    | nil => simp at e
    | cons t ts =>
      simp at e
      obtain ⟨ts', p, e'⟩ := ih ts e.2
      exact ⟨t :: ts', p.cons t, by rw [List.map_cons, ← e', e.1]⟩
  | swap x y l =>
    intro ts e
    rcases ts with _ | ⟨t, _ | ⟨u, ts⟩⟩ <;> simp at e
    exact ⟨u :: t :: ts, .swap .., by simp [e]⟩
  | trans _ _ ih1 ih2 =>
    intro ts e
    obtain ⟨ts1, p1, e1⟩ := ih2 ts e
    obtain ⟨ts2, p2, e2⟩ := ih1 ts1 e1
    exact ⟨ts2, p2.trans p1, e2⟩
theorem ky_of {K : PySem.W.Frag} {Z : Addr → Prop} {H : Hp} {shape : Nat → Bool} : ∀ {vs : List V} {ds : List D} {i : Nat}, Reps K Z H vs ds → shD shape i ds = true → shV shape i vs = true ∧ vs.map kyV = ds.map kyD
  | _, _, _, .nil, _ => ⟨rfl, rfl⟩
  | _, _, i, .cons (d := d) h r, e => by
    cases d <;> simp only [shD] at e <;> try cases e
    · rw [Bool.and_eq_true] at e
      cases h
      obtain ⟨h1, h2⟩ := ky_of r e.2
      exact ⟨by simp only [shV]; rw [e.1, h1]; rfl, by rw [List.map_cons, List.map_cons, h2]; rfl⟩
    · rw [Bool.and_eq_true] at e
      cases h
      obtain ⟨h1, h2⟩ := ky_of r e.2
      exact ⟨by simp only [shV]; rw [e.1, h1]; rfl, by rw [List.map_cons, List.map_cons, h2]; rfl⟩
theorem trip_of {K : PySem.W.Frag} {Z : Addr → Prop} {H : Hp} : ∀ {rows : List (List D)} {vs : List V}, Reps K Z H vs (rows.map .tup) → ∃ ts : List ((V × List V) × List D), ts.map (·.1.1) = vs ∧ ts.map (·.2) = rows ∧ ∀ t ∈ ts, ∃ a, t.1.1 = V.ref a ∧ TAt K Z H a t.1.2 ∧ Reps K Z H t.1.2 t.2
  | [], _, r => by cases r; exact ⟨[], rfl, rfl, fun t h => nomatch h⟩
  | row :: rows, _, r => by
    cases r with
    | cons h r =>
      obtain ⟨ts, e1, e2, h3⟩ := trip_of r
      cases h with
      | @tup a ws _ h1 r1 =>
        refine ⟨((.ref a, ws), row) :: ts, by simp [e1], by simp [e2], fun t ht => ?_⟩
        rcases List.mem_cons.mp ht with rfl | ht
        · exact ⟨a, rfl, h1, r1⟩
        · exact h3 t ht
theorem reps_trip {K : PySem.W.Frag} {Z : Addr → Prop} {H : Hp} : ∀ {ts : List ((V × List V) × List D)}, (∀ t ∈ ts, ∃ a, t.1.1 = V.ref a ∧ TAt K Z H a t.1.2 ∧ Reps K Z H t.1.2 t.2) → Reps K Z H (ts.map (·.1.1)) ((ts.map (·.2)).map .tup)
  | [], _ => .nil
  | t :: ts, h => by
    obtain ⟨a, e, h1, r1⟩ := h t List.mem_cons_self
    refine .cons ?_ (reps_trip fun u hu => h u (List.mem_cons_of_mem _ hu))
    show Rep K Z H t.1.1 (.tup t.2)
    rw [e]
    exact .tup h1 r1
theorem blt_sorted (hu : X.A.units + 64 < cLine) (hc : X.calm = true) : BltOk X .sorted := by
  refine ⟨_, cr_sorted.or (cr_sortedS.or cr_sortR), fun Z H xs ds Kp Q hx hd q => ?_⟩
  obtain ⟨v, d, rfl, h, hd⟩ := un1 hx hd
  cases d <;> try exact hd.elim
  obtain ⟨a, vs, rfl, ha, r⟩ := h.lst
  clear h
  have h := ha
  clear ha
  rcases hd with ⟨ns, e, h64, k⟩ | ⟨ns, e, h64, k⟩ | ⟨shape, rows, e, hsh, k⟩
  · obtain ⟨rfl, _⟩ := ints_of r e
    exact .inl ⟨a, ns, rfl, SqL.of h, h64, fun ms p h1 h2 hp => q _ _ _ (k ms h1 h2) (.lst hp (reps_ints ms))⟩
  · obtain ⟨rfl, _⟩ := strs_of r e
    exact .inr (.inl ⟨a, ns, rfl, SqL.of h, h64, fun ms p h1 h2 hp => q _ _ _ (k ms h1 h2) (.lst hp (reps_strs ms))⟩)
  · subst e
    obtain ⟨ts, rfl, rfl, h3⟩ := trip_of r
    refine .inr (.inr ⟨a, ts.map (·.1), shape, rfl, by rw [List.map_map]; exact SqL.of h, fun z hz => ?_, fun zs' p h1 h2 hp => ?_⟩)
    · obtain ⟨t, ht, rfl⟩ := List.mem_map.mp hz
      obtain ⟨b, e, h4, r4⟩ := h3 t ht
      obtain ⟨s1, s2⟩ := hsh t.2 (List.mem_map.mpr ⟨t, ht, rfl⟩)
      refine ⟨b, e, h4.sq, fun e => ?_, (ky_of r4 s2).1⟩
      have l := r4.length
      rw [e] at l
      exact s1 (List.eq_nil_of_length_eq_zero l.symm)
    · obtain ⟨ts', p1, rfl⟩ := perm_map_back h1 ts rfl
      have h3' : ∀ t ∈ ts', ∃ a, t.1.1 = V.ref a ∧ TAt X.K Z H a t.1.2 ∧ Reps X.K Z H t.1.2 t.2 := fun t ht => h3 t (p1.mem_iff.mp ht)
      have kk : ∀ t ∈ ts', t.1.2.map kyV = t.2.map kyD := fun t ht => by
        obtain ⟨b, e, h4, r4⟩ := h3' t ht
        exact (ky_of r4 (hsh t.2 (List.mem_map.mpr ⟨t, p1.mem_iff.mp ht, rfl⟩)).2).2
      have := q (.fr (.lst ((ts'.map (·.2)).map .tup))) (.ref p) (upd H p (.lst (ts'.map (·.1.1)))) (k (ts'.map (·.2)) (p1.map _) (List.pairwise_map.mpr (List.Pairwise.imp_of_mem (fun {x y} hx hy hxy => by rw [← kk x hx, ← kk y hy]; exact hxy) (List.pairwise_map.mp h2)))) (.lst hp (reps_trip h3'))
      rw [List.map_map]
      exact this
theorem blt_tuple (hu : X.A.units + 64 < cLine) (hc : X.calm = true) : BltOk X .tuple := by
  refine ⟨_, call_tuple_of, fun Z H xs ds Kp Q hx hd q => ?_⟩
  obtain ⟨v, d, rfl, h, hd⟩ := un1 hx hd
  cases d <;> try exact hd.elim
  · rename_i ds
    obtain ⟨a, vs, rfl, h, r⟩ := h.tup
    exact ⟨a, vs, rfl, .inr ⟨h.sq, q _ _ _ hd (.same (.tup h r))⟩⟩
  · rename_i ds
    obtain ⟨a, vs, rfl, h, r⟩ := h.lst
    exact ⟨a, vs, rfl, .inl ⟨SqL.of h, fun p hp => q _ _ _ hd (.tup hp r)⟩⟩
theorem blt_list (hu : X.A.units + 64 < cLine) (hc : X.calm = true) : BltOk X .list := by
  refine ⟨_, call_list_of, fun Z H xs ds Kp Q hx hd q => ?_⟩
  obtain ⟨v, d, rfl, h, hd⟩ := un1 hx hd
  cases d <;> try exact hd.elim
  · rename_i ds
    obtain ⟨a, vs, rfl, h, r⟩ := h.tup
    exact ⟨a, vs, rfl, .inr h.sq, fun p hp => q _ _ _ hd (.lst hp r)⟩
  · rename_i ds
    obtain ⟨a, vs, rfl, h, r⟩ := h.lst
    exact ⟨a, vs, rfl, .inl (SqL.of h), fun p hp => q _ _ _ hd (.lst hp r)⟩
theorem blt_dict (hu : X.A.units + 64 < cLine) (hc : X.calm = true) : BltOk X .dict := by
  refine ⟨_, call_dictD.or (call_dictP hc), fun Z H xs ds Kp Q hx hd q => ?_⟩
  obtain ⟨v, d, rfl, h, hd⟩ := un1 hx hd
  cases d <;> try exact hd.elim
  · rename_i ds
    obtain ⟨a, vs, rfl, h, r⟩ := h.lst
    obtain ⟨kds, e, k⟩ := hd
    obtain ⟨ps, kvs, rfl, pr, rr⟩ := pairs_of' r e
    exact .inr ⟨a, ps, kvs, rfl, SqL.of h, pr, fun p hp => q _ _ _ k (.dct hp (rr.merge .nil))⟩
  · rename_i ds
    obtain ⟨a, vs, rfl, h, r⟩ := h.dct
    exact .inl ⟨a, vs, rfl, h, fun p hp => q _ _ _ hd (.dct hp r)⟩
theorem blt_int (hu : X.A.units + 64 < cLine) (hc : X.calm = true) : BltOk X .int := by
  refine ⟨_, call_int1, fun Z H xs ds Kp Q hx hd q => ?_⟩
  obtain ⟨v, d, rfl, h, hd⟩ := un1 hx hd
  cases d <;> try exact hd.elim
  · rename_i b
    cases h.bl
    exact .inr ⟨b, rfl, q _ _ _ hd (.same (.int _))⟩
  · rename_i b
    cases h.int
    exact .inl ⟨b, rfl, q _ _ _ hd (.same (.int _))⟩
theorem blt_divmod (hu : X.A.units + 64 < cLine) (hc : X.calm = true) : BltOk X .divmod := by
  refine ⟨_, call_divmodW, fun Z H xs ds Kp Q hx hd q => ?_⟩
  obtain ⟨v, d, w, e, rfl, h, h', hd⟩ := bi1 hx hd
  cases d <;> try exact hd.elim
  cases e <;> try exact hd.elim
  cases h.int
  cases h'.int
  exact ⟨_, _, rfl, hd.1, fun p hp => q _ _ _ hd.2 (.tup hp (.cons (.int _) (.cons (.int _) .nil)))⟩
theorem blt_ok (hu : X.A.units + 64 < cLine) (hc : X.calm = true) (b : Bt) : BltOk X b := by
  cases b with
  | len => exact blt_len hu hc
  | abs => exact blt_abs hu hc
  | min => exact blt_min hu hc
  | max => exact blt_max hu hc
  | sum => exact blt_sum hu hc
  | all => exact blt_all hu hc
  | any => exact blt_any hu hc
  | sorted => exact blt_sorted hu hc
  | tuple => exact blt_tuple hu hc
  | list => exact blt_list hu hc
  | dict => exact blt_dict hu hc
  | int => exact blt_int hu hc
  | divmod => exact blt_divmod hu hc
  | _ => exact ⟨_, call_none, fun _ _ _ _ _ _ _ hd _ => hd⟩
end
end TG
end
section
namespace TG
open PySem PySem.Spec PyProof.Rows L2

def XRep (mg : Str → Option Value) (K : PySem.W.Frag) (Z : Addr → Prop) (H : Hp) (cls : Value) (dd : Option Addr) (x : XD) : Prop :=
  mg x.1 = some cls ∧ match x.2 with
    | none => dd = none
    | some d => ∃ a f v, dd = some a ∧ H a = some (.xd [(f, v)]) ∧ Rep K Z H v d
def WR (mg : Str → Option Value) (G : Gh) (R : XP) (σ : L2.St) : XK := fun cls dd H => ∃ Z env x, Rel G σ Z H env ∧ XRep mg G.K Z H cls dd x ∧ R x env
inductive ArgsOk (K : PySem.W.Frag) (Z : Addr → Prop) (H : Hp) : List Bool → List V → List D → List Addr → Prop
  | nil : ArgsOk K Z H [] [] [] []
  | im {v : V} {d : D} {ms : List Bool} {vs : List V} {ds : List D} {as : List Addr} (h : Rep K Z H v d) (r : ArgsOk K Z H ms vs ds as) : ArgsOk K Z H (false :: ms) (v :: vs) (d :: ds) as
  | io {a : Addr} {d : D} {ms : List Bool} {vs : List V} {ds : List D} {as : List Addr} (nz : ¬ Z a) (n : a ∉ as) (h : Top K Z H a d) (r : ArgsOk K Z H ms vs ds as) : ArgsOk K Z H (true :: ms) (.ref a :: vs) (d :: ds) (a :: as)
inductive FinOk (K : PySem.W.Frag) (Z : Addr → Prop) (H : Hp) : List Addr → List D → Prop
  | nil : FinOk K Z H [] []
  | cons {a : Addr} {d : D} {as : List Addr} {ds : List D} (h : Top K Z H a d) (r : FinOk K Z H as ds) : FinOk K Z H (a :: as) (d :: ds)
def RetOk (K : PySem.W.Frag) (H : Hp) (Z' : Addr → Prop) (H' : Hp) : Rv → V → Prop
  | .im d, v => Rep K Z' H' v d
  | .fr d, v => ∃ a, v = V.ref a ∧ ¬ Z' a ∧ H a = none ∧ Top K Z' H' a d
  | .bo _, _ => False
structure Aft (Z : Addr → Prop) (H : Hp) (as : List Addr) (Z' : Addr → Prop) (H' : Hp) : Prop where
  zz : ∀ b, Z b → Z' b
  zn : ∀ b, Z' b → Z b ∨ H b = none
  zt : ∀ b, Z' b → ∃ o, H' b = some o
  hk : ∀ b o, H b = some o → b ∉ as → H' b = some o
/-- a def's promise over plain data, as one over values -/
def lift (mg : Str → Option Value) (K : PySem.W.Frag) (fi : FI) : Sp := fun vs H Q E => ∃ Z ds as Qd Rd, ArgsOk K Z H fi.io vs ds as ∧ (∀ b, Z b → ∃ o, H b = some o) ∧ fi.sp ds Qd Rd ∧
  (∀ r fins v H' Z', Aft Z H as Z' H' → FinOk K Z' H' as fins → RetOk K H Z' H' r v → Qd r fins → Q v H') ∧
  ∀ x fins cls dd H' Z', Aft Z H as Z' H' → FinOk K Z' H' as fins → XRep mg K Z' H' cls dd x → Rd x fins → E cls dd H'

structure FnIs (P : Program) (w : World) (K : PySem.W.Frag) (mg : Str → Option Value) (base : Heap) (k : Nat) (f : Str) (fi : FI) : Prop where
  ex : ∃ (adr : Addr) (fd : FuncData) (ps : List Str), FnOk P w K mg base (L2.CX P w) k adr fd ps (lift mg K fi) ∧ mg f = some (.ref adr) ∧ PySem.W.keepIn K (.ref adr) = true ∧ Binds K fd ps []

structure XOk (Γ : Ga) (R : XP) (G : Gh) (N : List Str) (sc : Scope) (ow : Str → Bool) (bl : List Str) (X : Cx) : Prop where
  hN : X.N = N
  nd : N.Nodup
  hsc : X.env.scope = sc
  calm : X.calm = true
  hK : X.K = G.K
  un : X.A.units + 64 < cLine
  bl : ∀ x ∈ bl, X.mg x = none
  cs : ∀ x d, Γ.cs x = some d → ∃ v u, X.mg x = some u ∧ RelV v u ∧ ∀ Z H, Rep G.K Z H v d
  fn : ∀ f fi, Γ.fn f = some fi → ∃ k, Room k X.A ∧ FnIs X.prog X.w X.K X.mg X.base k f fi
  px : ∀ σ, PassesAt (L2.CX X.prog X.w) X σ (WR X.mg G R σ)
  cell : ∀ x, ow x = true → X.fn x = true

section
variable (Γ : Ga) (R : XP) (G : Gh)
def tE (ex : Ex) : TE := fun σ H Q => ∃ Z env Q0, Rel G σ Z H env ∧ wpE Γ R ex env Q0 ∧ ∀ r env' v Z' H', Rel G σ Z' H' env' → Stp σ Z H env Z' H' env' → RepR G σ Z' H' env' r v → RepN H r v → Q0 r env' → Q v H'
def tT (ex : Ex) : TT := fun σ H Q => ∃ Z env Q0, Rel G σ Z H env ∧ wpT Γ R ex env Q0 ∧ ∀ k env' Z' H', Rel G σ Z' H' env' → Stp σ Z H env Z' H' env' → Q0 k env' → Q k H'
def tA (ex : Ex) : TA := fun σ H Q => ∃ Z env Q0, Rel G σ Z H env ∧ wpA Γ R ex env Q0 ∧ ∀ ds env' vs Z' H', Rel G σ Z' H' env' → Stp σ Z H env Z' H' env' → Reps G.K Z' H' vs ds → Q0 ds env' → Q vs H'
inductive RepRs (G : Gh) (σ : L2.St) (Z : Addr → Prop) (H : Hp) (env : Env) : List Rv → List V → Prop
  | nil : RepRs G σ Z H env [] []
  | cons {r : Rv} {v : V} {rs : List Rv} {vs : List V} (h : RepR G σ Z H env r v) (t : RepRs G σ Z H env rs vs) : RepRs G σ Z H env (r :: rs) (v :: vs)
def tB (ex : Ex) : TA := fun σ H Q => ∃ Z env Q0, Rel G σ Z H env ∧ wpB Γ R ex env Q0 ∧ ∀ rs env' vs Z' H', Rel G σ Z' H' env' → Stp σ Z H env Z' H' env' → RepRs G σ Z' H' env' rs vs → Q0 rs env' → Q vs H'
inductive RepNs (H : Hp) : List Rv → List V → Prop
  | nil : RepNs H [] []
  | cons {r : Rv} {v : V} {rs : List Rv} {vs : List V} (h : RepN H r v) (t : RepNs H rs vs) : RepNs H (r :: rs) (v :: vs)
def tCl (ms : List Bool) (ex : Ex) : TA := fun σ H Q => ∃ Z env Q0, Rel G σ Z H env ∧ wpC Γ R ex ms env Q0 ∧ ∀ rs env' vs Z' H', Rel G σ Z' H' env' → Stp σ Z H env Z' H' env' → RepRs G σ Z' H' env' rs vs → RepNs H rs vs → Q0 rs env' → Q vs H'
def tO (ex : Ex) : TO := fun σ H Q => ∃ Z env Q0, Rel G σ Z H env ∧ wpO Γ R ex env Q0 ∧ ∀ o env' Z' H', Rel G σ Z' H' env' → Stp σ Z H env Z' H' env' → Q0 o env' → Q o H'
end

section
variable {Γ : Ga} {R : XP} {G : Gh} {X : Cx} {σ : L2.St} {Z : Addr → Prop} {H : Hp} {env : Env} {N bl : List Str} {sc : Scope}
theorem pe_imp {e : Expr} {t t' : TE} (h : PE X e t) (i : ∀ σ H Q, t' σ H Q → t σ H Q) : PE X e t' := ⟨fun pins s σ H Q I hw => h.run pins s σ H Q I (i σ H Q hw)⟩
theorem pt_imp {e : Expr} {t t' : TT} (h : PT X e t) (i : ∀ σ H Q, t' σ H Q → t σ H Q) : PT X e t' := ⟨fun pins s σ H Q I hw => h.run pins s σ H Q I (i σ H Q hw)⟩
theorem pw_imp {e : Expr} {t t' : TT} (h : PW X e t) (i : ∀ σ H Q, t' σ H Q → t σ H Q) : PW X e t' := ⟨fun wh pins s σ H Q I hw => h.run wh pins s σ H Q I (i σ H Q hw)⟩
theorem pa_imp {e : List Expr} {t t' : TA} (h : PA X e t) (i : ∀ σ H Q, t' σ H Q → t σ H Q) : PA X e t' := ⟨fun pos pins s σ H Q I hw => h.run pos pins s σ H Q I (i σ H Q hw)⟩
theorem po_imp {e : Option Expr} {t t' : TO} (h : PO X e t) (i : ∀ σ H Q, t' σ H Q → t σ H Q) : PO X e t' := ⟨fun pins s σ H Q I hw => h.run pins s σ H Q I (i σ H Q hw)⟩
theorem pe_no {e : Expr} {t : TE} (h : ∀ σ H Q, ¬ t σ H Q) : PE X e t := ⟨fun _ _ σ H Q _ hw => (h σ H Q hw).elim⟩
theorem pt_no {e : Expr} {t : TT} (h : ∀ σ H Q, ¬ t σ H Q) : PT X e t := ⟨fun _ _ σ H Q _ hw => (h σ H Q hw).elim⟩

theorem rd_ok (Rl : Rel G σ Z H env) {r : Rv} {v : V} (V1 : RepR G σ Z H env r v) {K : D → Prop} (w : rd r env K) : ∃ d, RepT G.K Z H v d ∧ K d := by
  cases r with
  | im d => exact ⟨d, .inl V1, w⟩
  | fr d =>
    obtain ⟨a, rfl, _, _, _, t⟩ := V1
    exact ⟨d, .inr ⟨a, rfl, .inl t⟩, w⟩
  | bo i =>
    have V1 : σ[i]? = some (some v) := V1
    unfold rd at w
    simp only at w
    split at w
    · next d h =>
      obtain ⟨a, e, _, _, t⟩ := Rl.ow i d h
      rw [V1] at e; cases e
      exact ⟨d, .inr ⟨a, rfl, .inl t⟩, w⟩
    · next d h =>
      obtain ⟨e, _, _, t⟩ := Rl.io i d h
      rw [V1] at e; cases e
      exact ⟨d, .inr ⟨_, rfl, .inl t⟩, w⟩
    · next d h =>
      obtain ⟨u, e, t⟩ := Rl.im i d h
      rw [V1] at e; cases e
      exact ⟨d, .inl t, w⟩
    · next d h =>
      obtain ⟨a, e, _, t⟩ := Rl.lk i d h
      rw [V1] at e; cases e
      exact ⟨d, .inr ⟨a, rfl, .inr t⟩, w⟩
    · exact w.elim
theorem fz_ok {Z0 : Addr → Prop} {H0 : Hp} {env0 : Env} (Rl : Rel G σ Z H env) {r : Rv} {v : V} (S : Stp σ Z0 H0 env0 Z H env) (V1 : RepR G σ Z H env r v) (nw : RepN H0 r v) {K : D → Env → Prop} (w : fz r env K) :
    ∃ d env' Z', Rel G σ Z' H env' ∧ Stp σ Z0 H0 env0 Z' H env' ∧ Rep G.K Z' H v d ∧ K d env' := by
  cases r with
  | im d => exact ⟨d, env, Z, Rl, S, V1, w⟩
  | fr d =>
    obtain ⟨a, rfl, nz, no, h0, t⟩ := V1
    refine ⟨d, env, Zi Z a, Rl.freeze no h0 t.mut, ⟨⟨fun b z => .inl (S.grow.zz b z), fun b z => z.elim (S.grow.zn b) fun q => .inr (.inr (by rw [q]; exact nw a rfl)), S.grow.hk, S.grow.tr⟩, S.sub⟩, t.rep (fun _ z => .inl z) (.inr rfl), w⟩
  | bo i =>
    have V1 : σ[i]? = some (some v) := V1
    unfold fz at w
    simp only at w
    split at w
    · next d h =>
      obtain ⟨a, e, R1, S1, r1⟩ := Rl.freezeSlot h
      rw [V1] at e; cases e
      exact ⟨d, _, _, R1, S.trans S1, r1, w⟩
    · next d h =>
      obtain ⟨u, e, t⟩ := Rl.im i d h
      rw [V1] at e; cases e
      exact ⟨d, env, Z, Rl, S, t, w⟩
    · exact w.elim

theorem s_bin {op : Operator} {a b : Ex} {x y : Expr} {pos : Pos} (hK : X.K = G.K) (ha : PE X x (tE Γ R G a)) (hb : PE X y (tE Γ R G b)) : PE X (.BinOp x op y pos) (tE Γ R G (.bin op a b)) := by
  obtain ⟨r, hr, sem⟩ := bin_ok (X := X) op
  rw [hK] at sem
  refine pe_imp (pe_op hr ha hb) fun σ H Q ⟨Z, env, Q0, hR, hw, hq⟩ => ?_
  refine ⟨Z, env, _, hR, hw, fun r1 e1 v1 Z1 H1 R1 S1 V1 _ w1 => ⟨Z1, e1, _, R1, w1, fun r2 e2 v2 Z2 H2 R2 S2 V2 _ w2 => ?_⟩⟩
  obtain ⟨dx, tx, k1⟩ := rd_ok R2 (S2.repR R1 V1) w2
  obtain ⟨dy, ty, k2⟩ := rd_ok R2 V2 k1
  refine sem Z2 H2 v1 v2 dx dy _ Q tx ty k2 fun z v H' kz o => ?_
  obtain ⟨Z3, R3, S3, V3, N3⟩ := o.run R2
  have S := S1.trans S2
  exact hq z e2 v Z3 H' R3 (S.trans S3) V3 (S.repN N3) kz
theorem s_neg {a : Ex} {x : Expr} {pos : Pos} (ha : PE X x (tE Γ R G a)) : PE X (.UnaryOp .USub x pos) (tE Γ R G (.neg a)) := by
  refine pe_imp (pe_un un_neg ha) fun σ H Q ⟨Z, env, Q0, hR, hw, hq⟩ => ?_
  refine ⟨Z, env, _, hR, hw, fun r1 e1 v1 Z1 H1 R1 S1 V1 _ w1 => ?_⟩
  obtain ⟨dx, tx, i, rfl, k1⟩ := rd_ok R1 V1 w1
  cases tx.int
  exact ⟨i, rfl, hq (.im _) e1 _ Z1 H1 R1 S1 (Rep.int _) trivial k1⟩
theorem s_cmp {op : CmpOp} {a b : Ex} {x y : Expr} {pos : Pos} (hu : X.A.units + 64 < cLine) (hK : X.K = G.K) (hm : behindInMarks op y = false) (ha : PE X x (tE Γ R G a)) (hb : PE X y (tE Γ R G b)) : PE X (.Compare x [op] [y] pos) (tE Γ R G (.cmp op a b)) := by
  obtain ⟨r, hr, sem⟩ := cmp_ok (X := X) hu op
  rw [hK] at sem
  refine pe_imp (pe_cmpR hr ha hb hm) fun σ H Q ⟨Z, env, Q0, hR, hw, hq⟩ => ?_
  refine ⟨Z, env, _, hR, hw, fun r1 e1 v1 Z1 H1 R1 S1 V1 _ w1 => ⟨Z1, e1, _, R1, w1, fun r2 e2 v2 Z2 H2 R2 S2 V2 _ w2 => ?_⟩⟩
  obtain ⟨dx, tx, k1⟩ := rd_ok R2 (S2.repR R1 V1) w2
  obtain ⟨dy, ty, k2⟩ := rd_ok R2 V2 k1
  refine sem Z2 H2 v1 v2 dx dy _ Q tx ty k2 fun z kz => ?_
  exact hq (.im _) e2 _ Z2 H2 R2 (S1.trans S2) (Rep.bl _) trivial kz
theorem s_cmpT {op : CmpOp} {a b : Ex} {x y : Expr} {pos : Pos} (hu : X.A.units + 64 < cLine) (hK : X.K = G.K) (hm : behindInMarks op y = false) (ha : PE X x (tE Γ R G a)) (hb : PE X y (tE Γ R G b)) : PT X (.Compare x [op] [y] pos) (tT Γ R G (.cmp op a b)) := by
  obtain ⟨r, hr, sem⟩ := cmp_ok (X := X) hu op
  rw [hK] at sem
  refine pt_imp (pt_cmpR hr ha hb hm) fun σ H Q ⟨Z, env, Q0, hR, hw, hq⟩ => ?_
  refine ⟨Z, env, _, hR, hw, fun r1 e1 v1 Z1 H1 R1 S1 V1 _ w1 => ⟨Z1, e1, _, R1, w1, fun r2 e2 v2 Z2 H2 R2 S2 V2 _ w2 => ?_⟩⟩
  obtain ⟨dx, tx, k1⟩ := rd_ok R2 (S2.repR R1 V1) w2
  obtain ⟨dy, ty, k2⟩ := rd_ok R2 V2 k1
  refine sem Z2 H2 v1 v2 dx dy _ _ tx ty k2 fun z kz => ?_
  obtain ⟨k, e, kz⟩ := kz
  cases e
  exact ⟨_, rfl, hq _ e2 Z2 H2 R2 (S1.trans S2) kz⟩
theorem s_chain {op op' : CmpOp} {a b c : Ex} {x y z : Expr} {pos : Pos} (hu : X.A.units + 64 < cLine) (hK : X.K = G.K) (hm : lastMarks [op, op'] [y, z] = false) (ha : PE X x (tE Γ R G a)) (hb : PE X y (tE Γ R G b)) (hc : PE X z (tE Γ R G c)) :
    PE X (.Compare x [op, op'] [y, z] pos) (tE Γ R G (.chain op op' a b c)) := by
  obtain ⟨r, hr, sem⟩ := cmp_ok (X := X) hu op
  obtain ⟨r', hr', sem'⟩ := cmp_ok (X := X) hu op'
  rw [hK] at sem sem'
  refine pe_imp (pe_chain hr hr' ha hb hc hm) fun σ H Q ⟨Z, env, Q0, hR, hw, hq⟩ => ?_
  refine ⟨Z, env, _, hR, hw, fun r1 e1 v1 Z1 H1 R1 S1 V1 _ w1 => ⟨Z1, e1, _, R1, w1, fun r2 e2 v2 Z2 H2 R2 S2 V2 _ w2 => ?_⟩⟩
  obtain ⟨dx, tx, k1⟩ := rd_ok R2 (S2.repR R1 V1) w2
  obtain ⟨dy, ty, k2⟩ := rd_ok R2 V2 k1
  refine sem Z2 H2 v1 v2 dx dy _ _ tx ty k2 fun k kz => ⟨k, rfl, ?_⟩
  cases k with
  | false =>
    rw [if_neg Bool.false_ne_true] at kz ⊢
    exact hq (.im _) e2 _ Z2 H2 R2 (S1.trans S2) (Rep.bl _) trivial kz
  | true =>
    rw [if_pos rfl] at kz ⊢
    refine ⟨Z2, e2, _, R2, kz, fun r3 e3 v3 Z3 H3 R3 S3 V3 _ w3 => ?_⟩
    obtain ⟨dy, ty, k1⟩ := rd_ok R3 (S3.repR R2 V2) w3
    obtain ⟨dz, tz, k2⟩ := rd_ok R3 V3 k1
    refine sem' Z3 H3 v2 v3 dy dz _ _ ty tz k2 fun k kz => ?_
    exact hq (.im _) e3 _ Z3 H3 R3 ((S1.trans S2).trans S3) (Rep.bl _) trivial kz
theorem s_chainT {op op' : CmpOp} {a b c : Ex} {x y z : Expr} {pos : Pos} (hu : X.A.units + 64 < cLine) (hK : X.K = G.K) (hm : lastMarks [op, op'] [y, z] = false) (ha : PE X x (tE Γ R G a)) (hb : PE X y (tE Γ R G b)) (hc : PE X z (tE Γ R G c)) :
    PT X (.Compare x [op, op'] [y, z] pos) (tT Γ R G (.chain op op' a b c)) := by
  obtain ⟨r, hr, sem⟩ := cmp_ok (X := X) hu op
  obtain ⟨r', hr', sem'⟩ := cmp_ok (X := X) hu op'
  rw [hK] at sem sem'
  refine pt_imp (pt_chain hr hr' ha hb hc hm) fun σ H Q ⟨Z, env, Q0, hR, hw, hq⟩ => ?_
  refine ⟨Z, env, _, hR, hw, fun r1 e1 v1 Z1 H1 R1 S1 V1 _ w1 => ⟨Z1, e1, _, R1, w1, fun r2 e2 v2 Z2 H2 R2 S2 V2 _ w2 => ?_⟩⟩
  obtain ⟨dx, tx, k1⟩ := rd_ok R2 (S2.repR R1 V1) w2
  obtain ⟨dy, ty, k2⟩ := rd_ok R2 V2 k1
  refine sem Z2 H2 v1 v2 dx dy _ _ tx ty k2 fun k kz => ⟨k, rfl, ?_⟩
  cases k with
  | false =>
    rw [if_neg Bool.false_ne_true] at kz ⊢
    obtain ⟨k, e, kz⟩ := kz
    cases e
    exact ⟨_, rfl, hq _ e2 Z2 H2 R2 (S1.trans S2) kz⟩
  | true =>
    rw [if_pos rfl] at kz ⊢
    refine ⟨Z2, e2, _, R2, kz, fun r3 e3 v3 Z3 H3 R3 S3 V3 _ w3 => ?_⟩
    obtain ⟨dy, ty, k1⟩ := rd_ok R3 (S3.repR R2 V2) w3
    obtain ⟨dz, tz, k2⟩ := rd_ok R3 V3 k1
    refine sem' Z3 H3 v2 v3 dy dz _ _ ty tz k2 fun k kz => ?_
    obtain ⟨k, e, kz⟩ := kz
    cases e
    exact ⟨_, rfl, hq _ e3 Z3 H3 R3 ((S1.trans S2).trans S3) kz⟩
/-- the test of a plain expression -/
theorem s_truth {a : Ex} {x : Expr} (hK : X.K = G.K) (hne : ∀ env Q, wpT Γ R a env Q → wpE Γ R a env fun r e1 => rd r e1 fun d => ∃ k, dTru d = some k ∧ Q k e1)
    (he : ∀ whole, isTrue x X.env whole = (do let v ← whole; standAt x.pos; holding [v] (truthy v))) (ha : PE X x (tE Γ R G a)) : PT X x (tT Γ R G a) := by
  refine pt_imp (pt_truth ha he) fun σ H Q ⟨Z, env, Q0, hR, hw, hq⟩ => ?_
  refine ⟨Z, env, _, hR, hne _ _ hw, fun r1 e1 v1 Z1 H1 R1 S1 V1 _ w1 => ?_⟩
  obtain ⟨d, t, k, e, w⟩ := rd_ok R1 V1 w1
  have t' : RepT X.K Z1 H1 v1 d := by rw [hK]; exact t
  exact ⟨k, tru_of t' e, hq k e1 Z1 H1 R1 S1 w⟩
theorem s_and {a b : Ex} {x y : Expr} {zs : List Expr} {pos : Pos} (hK : X.K = G.K) (ha : PE X x (tE Γ R G a)) (hb : PE X (.BoolOp .And (y :: zs) pos) (tE Γ R G b)) : PE X (.BoolOp .And (x :: y :: zs) pos) (tE Γ R G (.andn a b)) := by
  refine pe_imp (pe_andT ha hb) fun σ H Q ⟨Z, env, Q0, hR, hw, hq⟩ => ?_
  refine ⟨Z, env, _, hR, hw, fun r1 e1 v1 Z1 H1 R1 S1 V1 N1 w1 => ?_⟩
  obtain ⟨d, t, k, e, w⟩ := rd_ok R1 V1 w1
  have t' : RepT X.K Z1 H1 v1 d := by rw [hK]; exact t
  refine ⟨k, tru_of t' e, ?_⟩
  cases k with
  | false => rw [if_neg Bool.false_ne_true] at w ⊢; exact hq _ _ _ _ _ R1 S1 V1 N1 w
  | true =>
    rw [if_pos rfl] at w ⊢
    exact ⟨Z1, e1, _, R1, w, fun r2 e2 v2 Z2 H2 R2 S2 V2 N2 w2 => hq _ _ _ _ _ R2 (S1.trans S2) V2 (S1.repN N2) w2⟩
theorem s_or {a b : Ex} {x y : Expr} {zs : List Expr} {pos : Pos} (hK : X.K = G.K) (ha : PE X x (tE Γ R G a)) (hb : PE X (.BoolOp .Or (y :: zs) pos) (tE Γ R G b)) : PE X (.BoolOp .Or (x :: y :: zs) pos) (tE Γ R G (.orn a b)) := by
  refine pe_imp (pe_orT ha hb) fun σ H Q ⟨Z, env, Q0, hR, hw, hq⟩ => ?_
  refine ⟨Z, env, _, hR, hw, fun r1 e1 v1 Z1 H1 R1 S1 V1 N1 w1 => ?_⟩
  obtain ⟨d, t, k, e, w⟩ := rd_ok R1 V1 w1
  have t' : RepT X.K Z1 H1 v1 d := by rw [hK]; exact t
  refine ⟨k, tru_of t' e, ?_⟩
  cases k with
  | true => rw [if_pos rfl] at w ⊢; exact hq _ _ _ _ _ R1 S1 V1 N1 w
  | false =>
    rw [if_neg Bool.false_ne_true] at w ⊢
    exact ⟨Z1, e1, _, R1, w, fun r2 e2 v2 Z2 H2 R2 S2 V2 N2 w2 => hq _ _ _ _ _ R2 (S1.trans S2) V2 (S1.repN N2) w2⟩
theorem s_not {a : Ex} {x : Expr} {pos : Pos} (hK : X.K = G.K) (ha : PE X x (tE Γ R G a)) : PE X (.UnaryOp .Not x pos) (tE Γ R G (.notn a)) := by
  refine pe_imp (pe_notT ha) fun σ H Q ⟨Z, env, Q0, hR, hw, hq⟩ => ?_
  refine ⟨Z, env, _, hR, hw, fun r1 e1 v1 Z1 H1 R1 S1 V1 _ w1 => ?_⟩
  obtain ⟨d, t, k, e, w⟩ := rd_ok R1 V1 w1
  have t' : RepT X.K Z1 H1 v1 d := by rw [hK]; exact t
  exact ⟨k, tru_of t' e, hq (.im _) _ _ _ _ R1 S1 (Rep.bl _) trivial w⟩
theorem s_andT {a b : Ex} {x y : Expr} {zs : List Expr} {pos : Pos} (ha : PT X x (tT Γ R G a)) (hb : PW X (.BoolOp .And (y :: zs) pos) (tT Γ R G b)) : PW X (.BoolOp .And (x :: y :: zs) pos) (tT Γ R G (.andn a b)) := by
  refine pw_imp (pw_and ha hb) fun σ H Q ⟨Z, env, Q0, hR, hw, hq⟩ => ?_
  refine ⟨Z, env, _, hR, hw, fun k e1 Z1 H1 R1 S1 w => ?_⟩
  cases k with
  | false => rw [if_neg Bool.false_ne_true] at w ⊢; exact hq _ _ _ _ R1 S1 w
  | true =>
    rw [if_pos rfl] at w ⊢
    exact ⟨Z1, e1, _, R1, w, fun k e2 Z2 H2 R2 S2 w2 => hq _ _ _ _ R2 (S1.trans S2) w2⟩
theorem s_orT {a b : Ex} {x y : Expr} {zs : List Expr} {pos : Pos} (ha : PT X x (tT Γ R G a)) (hb : PW X (.BoolOp .Or (y :: zs) pos) (tT Γ R G b)) : PW X (.BoolOp .Or (x :: y :: zs) pos) (tT Γ R G (.orn a b)) := by
  refine pw_imp (pw_or ha hb) fun σ H Q ⟨Z, env, Q0, hR, hw, hq⟩ => ?_
  refine ⟨Z, env, _, hR, hw, fun k e1 Z1 H1 R1 S1 w => ?_⟩
  cases k with
  | true => rw [if_pos rfl] at w ⊢; exact hq _ _ _ _ R1 S1 w
  | false =>
    rw [if_neg Bool.false_ne_true] at w ⊢
    exact ⟨Z1, e1, _, R1, w, fun k e2 Z2 H2 R2 S2 w2 => hq _ _ _ _ R2 (S1.trans S2) w2⟩
theorem s_notT {a : Ex} {x : Expr} {pos : Pos} (ha : PT X x (tT Γ R G a)) : PT X (.UnaryOp .Not x pos) (tT Γ R G (.notn a)) :=
  pt_imp (pt_not ha) fun σ H Q ⟨Z, env, Q0, hR, hw, hq⟩ => ⟨Z, env, _, hR, hw, fun k e1 Z1 H1 R1 S1 w => hq _ _ _ _ R1 S1 w⟩
theorem s_ife {c a b : Ex} {x y z : Expr} {pos : Pos} (hc : PT X x (tT Γ R G c)) (ha : PE X y (tE Γ R G a)) (hb : PE X z (tE Γ R G b)) : PE X (.IfExp x y z pos) (tE Γ R G (.ife c a b)) := by
  refine pe_imp (pe_ifExp hc ha hb) fun σ H Q ⟨Z, env, Q0, hR, hw, hq⟩ => ?_
  refine ⟨Z, env, _, hR, hw, fun k e1 Z1 H1 R1 S1 w => ?_⟩
  cases k with
  | true =>
    rw [if_pos rfl] at w ⊢
    exact ⟨Z1, e1, _, R1, w, fun r2 e2 v2 Z2 H2 R2 S2 V2 N2 w2 => hq _ _ _ _ _ R2 (S1.trans S2) V2 (S1.repN N2) w2⟩
  | false =>
    rw [if_neg Bool.false_ne_true] at w ⊢
    exact ⟨Z1, e1, _, R1, w, fun r2 e2 v2 Z2 H2 R2 S2 V2 N2 w2 => hq _ _ _ _ _ R2 (S1.trans S2) V2 (S1.repN N2) w2⟩
theorem s_ifeT {c a b : Ex} {x y z : Expr} {pos : Pos} (hc : PT X x (tT Γ R G c)) (ha : PT X y (tT Γ R G a)) (hb : PT X z (tT Γ R G b)) : PT X (.IfExp x y z pos) (tT Γ R G (.ife c a b)) := by
  refine ⟨fun pins s σ H Q I ⟨Z, env, Q0, hR, hw, hq⟩ => ?_⟩
  refine isTrue_IfExp ?_
  refine thn (hc.run pins s σ H (fun k H1 => if k = true then tT Γ R G a σ H1 Q else tT Γ R G b σ H1 Q) I ⟨Z, env, _, hR, hw, fun k e1 Z1 H1 R1 S1 w => ?_⟩) fun k s1 ⟨H1, I1, q1⟩ => ?_
  · cases k with
    | true =>
      rw [if_pos rfl] at w ⊢
      exact ⟨Z1, e1, _, R1, w, fun r2 e2 Z2 H2 R2 S2 w2 => hq _ _ _ _ R2 (S1.trans S2) w2⟩
    | false =>
      rw [if_neg Bool.false_ne_true] at w ⊢
      exact ⟨Z1, e1, _, R1, w, fun r2 e2 Z2 H2 R2 S2 w2 => hq _ _ _ _ R2 (S1.trans S2) w2⟩
  · cases k with
    | true => rw [if_pos rfl] at q1 ⊢; exact ha.run pins s1 σ H1 Q I1 q1
    | false => rw [if_neg Bool.false_ne_true] at q1 ⊢; exact hb.run pins s1 σ H1 Q I1 q1
theorem s_idx {a i : Ex} {x y : Expr} {pos : Pos} (hu : X.A.units + 64 < cLine) (hK : X.K = G.K) (hs : PlainIx y) (ha : PE X x (tE Γ R G a)) (hb : PE X y (tE Γ R G i)) : PE X (.Subscript x y pos) (tE Γ R G (.idx a i)) := by
  obtain ⟨r, hr, sem⟩ := ix_ok (X := X) hu
  rw [hK] at sem
  refine pe_imp (pe_ix hr ha hb hs) fun σ H Q ⟨Z, env, Q0, hR, hw, hq⟩ => ?_
  refine ⟨Z, env, _, hR, hw, fun r1 e1 v1 Z1 H1 R1 S1 V1 _ w1 => ⟨Z1, e1, _, R1, w1, fun r2 e2 v2 Z2 H2 R2 S2 V2 _ w2 => ?_⟩⟩
  obtain ⟨dx, tx, k1⟩ := rd_ok R2 (S2.repR R1 V1) w2
  obtain ⟨dy, ty, k2⟩ := rd_ok R2 V2 k1
  exact sem Z2 H2 v1 v2 dx dy _ Q tx ty k2 fun d v kd rv => hq (.im _) e2 _ Z2 H2 R2 (S1.trans S2) rv trivial kd
theorem s_slc {a lo hi : Ex} {x : Expr} {l h : Option Expr} {pos p2 : Pos} (hK : X.K = G.K) (ha : PE X x (tE Γ R G a)) (hl : PO X l (tO Γ R G lo)) (hh : PO X h (tO Γ R G hi)) : PE X (.Subscript x (.Slice l h none p2) pos) (tE Γ R G (.slc a lo hi)) := by
  obtain ⟨r, hr, sem⟩ := slc_ok (X := X)
  rw [hK] at sem
  refine pe_imp (pe_slice hr ha hl hh) fun σ H Q ⟨Z, env, Q0, hR, hw, hq⟩ => ?_
  refine ⟨Z, env, _, hR, hw, fun r1 e1 v1 Z1 H1 R1 S1 V1 _ w1 => ⟨Z1, e1, _, R1, w1, fun o2 e2 Z2 H2 R2 S2 w2 => ⟨Z2, e2, _, R2, w2, fun o3 e3 Z3 H3 R3 S3 w3 => ?_⟩⟩⟩
  obtain ⟨dx, tx, k1⟩ := rd_ok R3 (S3.repR R2 (S2.repR R1 V1)) w3
  refine sem Z3 H3 v1 _ _ dx _ Q tx k1 fun z v H' kz o => ?_
  obtain ⟨Z4, R4, S4, V4, N4⟩ := o.run R3
  have S := (S1.trans S2).trans S3
  exact hq z e3 v Z4 H' R4 (S.trans S4) V4 (S.repN N4) kz
theorem s_pnone : PO X none (tO Γ R G .nil) := po_imp po_none fun σ H Q ⟨Z, env, Q0, hR, hw, hq⟩ => hq _ _ _ _ hR .refl hw
theorem s_psome {a : Ex} {x : Expr} (hne : ∀ env Q, wpO Γ R a env Q → wpE Γ R a env fun r e1 => rd r e1 fun x => ∃ i, x = .int i ∧ Q (some i) e1) (ha : PE X x (tE Γ R G a)) : PO X (some x) (tO Γ R G a) := by
  refine po_imp (po_some ha) fun σ H Q ⟨Z, env, Q0, hR, hw, hq⟩ => ?_
  refine ⟨Z, env, _, hR, hne _ _ hw, fun r1 e1 v1 Z1 H1 R1 S1 V1 _ w1 => ?_⟩
  obtain ⟨d, t, i, rfl, w⟩ := rd_ok R1 V1 w1
  exact ⟨i, t.int, hq _ _ _ _ R1 S1 w⟩
theorem s_anil : PA X [] (tA Γ R G .nil) := pa_imp pa_nil fun σ H Q ⟨Z, env, Q0, hR, hw, hq⟩ => hq _ _ _ _ _ hR .refl .nil hw
theorem s_acons {a as : Ex} {x : Expr} {xs : List Expr} (hs : starEach (x :: xs) X.env = (false, eval x X.env) :: starEach xs X.env) (ha : PE X x (tE Γ R G a)) (hb : PA X xs (tA Γ R G as)) : PA X (x :: xs) (tA Γ R G (.cons a as)) := by
  refine pa_imp (pa_cons ha hb hs) fun σ H Q ⟨Z, env, Q0, hR, hw, hq⟩ => ?_
  refine ⟨Z, env, _, hR, hw, fun r1 e1 v1 Z1 H1 R1 S1 V1 N1 w1 => ?_⟩
  obtain ⟨d, e2, Z2, R2, S2, r2, w2⟩ := fz_ok R1 S1 V1 N1 w1
  exact ⟨Z2, e2, _, R2, w2, fun ds e3 vs Z3 H3 R3 S3 r3 w3 => hq _ _ _ _ _ R3 (S2.trans S3) (.cons (S3.rep R2 r2) r3) w3⟩
theorem s_bnil : PA X [] (tB Γ R G .nil) := pa_imp pa_nil fun σ H Q ⟨Z, env, Q0, hR, hw, hq⟩ => hq _ _ _ _ _ hR .refl .nil hw
theorem RepRs.stp {Z' : Addr → Prop} {H' : Hp} {env' : Env} (s : Stp σ Z H env Z' H' env') (Rl : Rel G σ Z H env) {rs : List Rv} {vs : List V} (h : RepRs G σ Z H env rs vs) : RepRs G σ Z' H' env' rs vs := by
  induction h with
  | nil => exact .nil
  | cons h _ ih => exact .cons (s.repR Rl h) ih
theorem s_bcons {a as : Ex} {x : Expr} {xs : List Expr} (hs : starEach (x :: xs) X.env = (false, eval x X.env) :: starEach xs X.env) (ha : PE X x (tE Γ R G a)) (hb : PA X xs (tB Γ R G as)) : PA X (x :: xs) (tB Γ R G (.cons a as)) := by
  refine pa_imp (pa_cons ha hb hs) fun σ H Q ⟨Z, env, Q0, hR, hw, hq⟩ => ?_
  refine ⟨Z, env, _, hR, hw, fun r1 e1 v1 Z1 H1 R1 S1 V1 N1 w1 => ?_⟩
  exact ⟨Z1, e1, _, R1, w1, fun ds e3 vs Z3 H3 R3 S3 r3 w3 => hq _ _ _ _ _ R3 (S1.trans S3) (.cons (S3.repR R1 V1) r3) w3⟩
theorem Stp.repNs {Z' : Addr → Prop} {H' : Hp} {env' : Env} (s : Stp σ Z H env Z' H' env') {rs : List Rv} {vs : List V} (h : RepNs H' rs vs) : RepNs H rs vs := by
  induction h with
  | nil => exact .nil
  | cons h _ ih => exact .cons (s.repN h) ih
theorem s_cnil : PA X [] (tCl Γ R G [] .nil) := pa_imp pa_nil fun σ H Q ⟨Z, env, Q0, hR, hw, hq⟩ => hq _ _ _ _ _ hR .refl .nil .nil hw
theorem s_ccons {a as : Ex} {m : Bool} {ms : List Bool} {x : Expr} {xs : List Expr} (hs : starEach (x :: xs) X.env = (false, eval x X.env) :: starEach xs X.env) (ha : PE X x (tE Γ R G a)) (hb : PA X xs (tCl Γ R G ms as)) : PA X (x :: xs) (tCl Γ R G (m :: ms) (.cons a as)) := by
  refine pa_imp (pa_cons ha hb hs) fun σ H Q ⟨Z, env, Q0, hR, hw, hq⟩ => ?_
  cases m with
  | true =>
    refine ⟨Z, env, _, hR, hw, fun r1 e1 v1 Z1 H1 R1 S1 V1 N1 w1 => ?_⟩
    exact ⟨Z1, e1, _, R1, w1.2, fun ds e3 vs Z3 H3 R3 S3 r3 n3 w3 => hq _ _ _ _ _ R3 (S1.trans S3) (.cons (S3.repR R1 V1) r3) (.cons N1 (S1.repNs n3)) w3⟩
  | false =>
    refine ⟨Z, env, _, hR, hw, fun r1 e1 v1 Z1 H1 R1 S1 V1 N1 w1 => ?_⟩
    obtain ⟨d, e2, Z2, R2, S2, r2, w2⟩ := fz_ok R1 S1 V1 N1 w1
    exact ⟨Z2, e2, _, R2, w2, fun ds e3 vs Z3 H3 R3 S3 r3 n3 w3 => hq _ _ _ _ _ R3 (S2.trans S3) (.cons (r := .im d) (S3.rep R2 r2) r3) (.cons (r := .im d) trivial (S2.repNs n3)) w3⟩
theorem s_tup {as : Ex} {xs : List Expr} {k : Nat} {pos : Pos} (ha : PA X xs (tA Γ R G as)) : PE X (.Tuple xs k pos) (tE Γ R G (.tupn as)) := by
  refine pe_imp (pe_tup ha) fun σ H Q ⟨Z, env, Q0, hR, hw, hq⟩ => ?_
  refine ⟨Z, env, _, hR, hw, fun ds e1 vs Z1 H1 R1 S1 r1 w1 => ⟨by rw [r1.length]; exact w1.1, fun p hp => ?_⟩⟩
  obtain ⟨Z2, R2, S2, V2, N2⟩ := (Out.tup hp r1).run R1
  exact hq _ _ _ _ _ R2 (S1.trans S2) V2 (S1.repN N2) w1.2
theorem s_lst {as : Ex} {xs : List Expr} {pos : Pos} (ha : PA X xs (tA Γ R G as)) : PE X (.List xs pos) (tE Γ R G (.lstn as)) := by
  refine pe_imp (pe_lst ha) fun σ H Q ⟨Z, env, Q0, hR, hw, hq⟩ => ?_
  refine ⟨Z, env, _, hR, hw, fun ds e1 vs Z1 H1 R1 S1 r1 w1 => ⟨by rw [r1.length]; exact w1.1, fun p hp => ?_⟩⟩
  obtain ⟨Z2, R2, S2, V2, N2⟩ := (Out.lst hp r1).run R1
  exact hq _ _ _ _ _ R2 (S1.trans S2) V2 (S1.repN N2) w1.2
theorem s_dnew {t : Bool} {pos : Pos} : PE X (.Dict [] [] pos) (tE Γ R G (.dnew t)) := by
  cases t with
  | false =>
    refine pe_imp pe_dnewK fun σ H Q ⟨Z, env, Q0, hR, hw, hq⟩ p hp => ?_
    obtain ⟨Z2, R2, S2, V2, N2⟩ := (Out.dct (vs := []) (ds := []) hp .nil).run hR
    exact hq _ _ _ _ _ R2 S2 V2 N2 hw
  | true =>
    refine pe_imp pe_dnewT fun σ H Q ⟨Z, env, Q0, hR, hw, hq⟩ p hp => ?_
    obtain ⟨Z2, R2, S2, V2, N2⟩ := (Out.dtt hp).run hR
    exact hq _ _ _ _ _ R2 S2 V2 N2 hw
end
end TG
end
section
namespace TG
open PySem PySem.Spec PyProof.Rows L2

section
variable {X : Cx} {pins : List (Addr × Obj)} {σ : L2.St} {H : Hp} {s : Shared} {a : Addr} {xs : List V}
def SqX (K : PySem.W.Frag) (k : Bool) (H : Hp) (a : Addr) (xs : List V) : Prop := match k with
  | true => SqL K H a xs
  | false => SqT K H a xs
def itAt (k : Bool) (h : Heap) (it a : Addr) (i : Nat) : Prop := match k with
  | true => h.IsListIter it a i
  | false => h.IsTupleIter it a i
def sqAt (k : Bool) (h : Heap) (a : Addr) (items : Array Value) : Prop := match k with
  | true => h.IsList a items
  | false => h.IsTuple a items
def objIt (k : Bool) (a : Addr) : Obj := match k with
  | true => { cls := .type "list_iterator", data := .fields #[.ref a, .int 0 0] }
  | false => { cls := .type "tuple_iterator", data := .fields #[.ref a, .int 0 0] }
theorem inv_sq {k : Bool} (I : Inv X pins σ H s) (h : SqX X.K k H a xs) : ∃ its : List Value, Vals xs its ∧ sqAt k s.heap a its.toArray ∧ xs.length ≤ sizeLine := by
  cases k with
  | true => obtain ⟨its, r, p, z⟩ := I.list h; exact ⟨its, r, p.isList, z⟩
  | false => obtain ⟨its, r, p, z⟩ := I.tuple h; exact ⟨its, r, p, z⟩
theorem sq_inj {k : Bool} {ys : List V} (I : Inv X pins σ H s) (h : SqX X.K k H a xs) (h' : SqX X.K k H a ys) : xs = ys := by
  cases k with
  | true => exact I.list_inj h h'
  | false => exact I.tuple_inj h h'
theorem draws_k {prog : Program} {w : World} {A : Around} (k : Bool) (hh : A.handled = none) (it l : Addr) (hne : l ≠ it) (items : Array Value) :
    Draws prog w A it [it, l] items.size (fun i v => items[i]? = some v) (fun i h => itAt k h it l i ∧ sqAt k h l items) := by
  cases k with
  | true => exact Draws.list hh it l hne items
  | false => exact Draws.tuple hh it l hne items
theorem begins_k (k : Bool) (l : Addr) (items : Array Value) : Begins (.ref l) (objIt k l) fun h => sqAt k h l items := by
  cases k with
  | true => exact begins_list l items
  | false => exact begins_tuple l items
theorem objIt_at {k : Bool} {h : Heap} {it l : Addr} (e : h.get? it = some (objIt k l)) : itAt k h it l 0 := by
  cases k with
  | true => exact ⟨_, e, rfl, rfl⟩
  | false => exact ⟨_, e, rfl, rfl⟩
theorem itAt.obj {k : Bool} {h : Heap} {it l : Addr} {i : Nat} (e : itAt k h it l i) : ∃ o, h.get? it = some o ∧ ∀ v, o.data ≠ .cell v := by
  cases k with
  | true => obtain ⟨o, e1, _, d1⟩ := e; exact ⟨o, e1, fun v q => by rw [d1] at q; cases q⟩
  | false => obtain ⟨o, e1, _, d1⟩ := e; exact ⟨o, e1, fun v q => by rw [d1] at q; cases q⟩
theorem itAt.at {k : Bool} {h h' : Heap} {it l : Addr} {i : Nat} (e : itAt k h it l i) (hk : ∀ o, h.get? it = some o → h'.get? it = some o) : itAt k h' it l i := by
  cases k with
  | true => exact Heap.IsListIter.at e hk
  | false => exact Heap.IsTupleIter.at e hk
theorem sqAt.lt {k : Bool} {h : Heap} {l : Addr} {items : Array Value} (e : sqAt k h l items) : l < h.objs.size := by
  cases k with
  | true => obtain ⟨o, e1, _⟩ := e; exact Heap.lt_size e1
  | false => obtain ⟨o, e1, _⟩ := e; exact Heap.lt_size e1
end

/-- a walk that hands out new tuples, its sources as they stand at each turn -/
theorem turnW {P : Program} {w : World} {K : PySem.W.Frag} {elts : List Expr} {kk : Nat} {tpos : Pos} {J : It} {z : Addr} {fp wr : List Addr} {tn : Nat → Heap → Prop} {ι : Type} {n : ι → Nat} {Pt : ι → Nat → Array Value → Prop} {Sc : ι → Heap → Prop} {fpx : ι → List Addr}
    {Mid : ι → Nat → Addr → Heap → Prop} {St : ι → Nat → Heap → Prop}
    (W : ∀ (A : Around), A.handled = none → ∀ x : ι, WalksT P w A z (fpx x) wr (n x) (Pt x) (St x) (Mid x))
    (mk : ∀ x i h, tn i h → Sc x h → St x i h) (un : ∀ x i h, St x i h → tn i h)
    (hmem : z ∈ fp) (hwr : ∀ b ∈ wr, b ∈ fp) (hobj : ∀ i h, tn i h → ∀ b ∈ fp, ∃ o, h.get? b = some o ∧ ∀ v, o.data ≠ .cell v)
    (hkeep : ∀ i h h', tn i h → (∀ b ∈ fp, ∀ o, h.get? b = some o → h'.get? b = some o) → tn i h')
    (hself : ∀ (A : Around) (i : Nat) (s : Shared) (Q : Value → Shared → Prop) (E : Value → Shared → Prop), tn i s.heap → Q (.ref z) s → wpAny (model P w) A (pyIter (.ref z)) Q E s)
    (hitem : ∀ (X : Cx), X.K = K → ∀ (i : Nat) (pins : List (Addr × Obj)) (s : Shared) (σ : L2.St) (H : Hp), Inv X pins σ H s → J.go i H → ∃ x, Sc x s.heap ∧ i < n x ∧ ∀ vals, Pt x i vals →
      ∃ vs, Vals vs vals.toList ∧ vs.length ≤ 8 ∧ ∀ T, H T = none → J.yld i H (.ref T) (upd H T (.tup vs)))
    (hdone : ∀ (X : Cx), X.K = K → ∀ (i : Nat) (pins : List (Addr × Obj)) (s : Shared) (σ : L2.St) (H : Hp), Inv X pins σ H s → J.stop i H → ∃ x, Sc x s.heap ∧ i = n x) :
    Turn P w K (.Tuple elts kk tpos) J fp z tn where
  mem := hmem
  obj := hobj
  keep := hkeep
  item := by
    intro X hP hw hK hc i pins s σ H E I hf st hg
    subst hP hw
    obtain ⟨x, sc, hi, hy⟩ := hitem X hK i pins s σ H I hg
    refine (W X.A (I.ok.hd hc) x).item i s _ E hi (mk x i _ st sc) fun T vals h' tk hP hT hTup hm hk => ⟨.ref T, rfl, ?_⟩
    refine (W X.A (I.ok.hd hc) x).go elts kk tpos i T { s with heap := h', toks := tk } _ _ hm fun h'' st'' hk'' => ?_
    obtain ⟨vs, rv, hl, y⟩ := hy vals hP
    have hn : H T = none := I.hok.fresh hT
    have hTup2 : h''.IsTuple T vals := hTup.at fun o e => hk'' T o ((W X.A (I.ok.hd hc) x).apart i T h' hm) e
    have new : ObjOk X.prog X.w (upd H T (.tup vs)) h'' T (.tup vs) := ⟨Nat.le_trans hl (by rw [sizeLine_eq]; decide), vals.toList, rv, by
      obtain ⟨o, h1, h2, m, h3⟩ := hTup2
      exact ⟨o, h1, h2, m, by rw [h3, Array.toArray_toList]⟩⟩
    have I1 : Inv X pins σ (upd H T (.tup vs)) { s with heap := h'', toks := tk } :=
      I.turnedNew (t' := tk) (ch := wr) (fun c o hb q => hk'' c o hb (hk c o hb q)) (fun b hb => hf b (hwr b hb)) hT new
    refine ⟨.ref T, _, I1, rfl, y T hn, un x _ _ st'', fun c hcm => ?_⟩
    obtain ⟨o, ho, _⟩ := hobj i _ st c hcm
    rw [upd_ne (Nat.ne_of_lt (Nat.lt_of_lt_of_le (Heap.lt_size ho) hT))]
    exact (hf c hcm).1
  done := by
    intro X hP hw hK hc i pins s σ H E I hf st hg
    subst hP hw
    obtain ⟨x, sc, rfl⟩ := hdone X hK i pins s σ H I hg
    exact (W X.A (I.ok.hd hc) x).done s _ E (mk x _ _ st sc) fun h' tk hk => ⟨rfl, I.turnedL (t' := tk) (ch := wr) (fun c o hb q => hk c o hb q) fun b hb => hf b (hwr b hb)⟩
  self := hself

/-- zip of two -/
def Itz2 (K : PySem.W.Frag) (k1 k2 : Bool) (a b : Addr) : It :=
  ⟨fun i H => ∃ xs ys, SqX K k1 H a xs ∧ SqX K k2 H b ys ∧ i < xs.length ∧ i < ys.length,
    fun i H v H' => ∃ T x y, v = .ref T ∧ H T = none ∧ H' = upd H T (.tup [x, y]) ∧ ∀ xs ys, SqX K k1 H a xs → SqX K k2 H b ys → xs[i]? = some x ∧ ys[i]? = some y,
    fun i H => ∃ xs ys, SqX K k1 H a xs ∧ SqX K k2 H b ys ∧ i = min xs.length ys.length⟩
theorem turn_z2 {P : Program} {w : World} {K : PySem.W.Frag} {elts : List Expr} {kk : Nat} {tpos : Pos} {k1 k2 : Bool} {a b z TI TO i1 i2 : Addr} (D : ZipSep2 z TI TO i1 i2 [i1, a] [i2, b]) (n1 : a ≠ i1) (n2 : b ≠ i2) :
    Turn P w K (.Tuple elts kk tpos) (Itz2 K k1 k2 a b) [z, TI, TO, i1, i2] z (fun i h => IsZip h z TI TO .none ∧ IsTupOf2 h TI (.ref i1) (.ref i2) ∧ (∃ x y, IsTupOf2 h TO x y) ∧ itAt k1 h i1 a i ∧ itAt k2 h i2 b i) := by
  refine turnW (ι := Array Value × Array Value) (Sc := fun x h => sqAt k1 h a x.1 ∧ sqAt k2 h b x.2)
    (fun A hh x => WalksT.zipD2 D (draws_k (A := A.in1) k1 hh i1 a n1 x.1) (draws_k (A := A.in1) k2 hh i2 b n2 x.2))
    (fun x i h st sc => ⟨st.1, st.2.1, st.2.2.1, ⟨st.2.2.2.1, sc.1⟩, ⟨st.2.2.2.2, sc.2⟩⟩) (fun x i h st => ⟨st.1, st.2.1, st.2.2.1, st.2.2.2.1.1, st.2.2.2.2.1⟩)
    (by simp) (fun c hc => ?_) (fun i h st c hc => ?_) (fun i h h' st k => ?_) (fun A i s Q E st h => wpAny_pyIter_zip st.1 h) (fun X hK i pins s σ H I hg => ?_) (fun X hK i pins s σ H I hg => ?_)
  · have e' : c = z ∨ c = TO ∨ c = i1 ∨ c = i2 := by simpa using hc
    rcases e' with q | q | q | q <;> simp [q]
  · obtain ⟨hz, hTI, ⟨x, y, hTO⟩, h1, h2⟩ := st
    have e' : c = z ∨ c = TI ∨ c = TO ∨ c = i1 ∨ c = i2 := by simpa using hc
    rcases e' with q | q | q | q | q
    · rw [q]; exact ⟨_, hz, fun v q => nomatch q⟩
    · rw [q]; exact ⟨_, hTI, fun v q => nomatch q⟩
    · rw [q]; exact ⟨_, hTO, fun v q => nomatch q⟩
    · rw [q]; exact h1.obj
    · rw [q]; exact h2.obj
  · obtain ⟨hz, hTI, ⟨x, y, hTO⟩, h1, h2⟩ := st
    exact ⟨k z (by simp) _ hz, k TI (by simp) _ hTI, ⟨x, y, k TO (by simp) _ hTO⟩, h1.at fun o q => k i1 (by simp) o q, h2.at fun o q => k i2 (by simp) o q⟩
  · subst hK
    obtain ⟨xs, ys, hx, hy, lx, ly⟩ := hg
    obtain ⟨its, rv, p, _⟩ := inv_sq I hx
    obtain ⟨its2, rv2, p2, _⟩ := inv_sq I hy
    have l1 := rv.length
    have l2 := rv2.length
    refine ⟨(its.toArray, its2.toArray), ⟨p, p2⟩, by simp; omega, fun vals hP => ?_⟩
    obtain ⟨x1, x2, e1, e2, rfl⟩ := hP
    obtain ⟨u1, hu1, r1⟩ := rv.get (List.getElem?_eq_getElem lx)
    obtain ⟨u2, hu2, r2⟩ := rv2.get (List.getElem?_eq_getElem ly)
    have q1 : its[i]? = some x1 := by simpa using e1
    have q2 : its2[i]? = some x2 := by simpa using e2
    rw [hu1] at q1; cases q1
    rw [hu2] at q2; cases q2
    exact ⟨[xs[i], ys[i]], .cons r1 (.cons r2 .nil), by simp, fun T hT => ⟨T, _, _, rfl, hT, rfl, fun xs' ys' hx' hy' => by rw [sq_inj I hx' hx, sq_inj I hy' hy]; exact ⟨List.getElem?_eq_getElem lx, List.getElem?_eq_getElem ly⟩⟩⟩
  · subst hK
    obtain ⟨xs, ys, hx, hy, e⟩ := hg
    obtain ⟨its, rv, p, _⟩ := inv_sq I hx
    obtain ⟨its2, rv2, p2, _⟩ := inv_sq I hy
    have l1 := rv.length
    have l2 := rv2.length
    exact ⟨(its.toArray, its2.toArray), ⟨p, p2⟩, by simp; omega⟩
/-- zip of three -/
def Itz3 (K : PySem.W.Frag) (k1 k2 k3 : Bool) (a b c : Addr) : It :=
  ⟨fun i H => ∃ xs ys zs, SqX K k1 H a xs ∧ SqX K k2 H b ys ∧ SqX K k3 H c zs ∧ i < xs.length ∧ i < ys.length ∧ i < zs.length,
    fun i H v H' => ∃ T x y z, v = .ref T ∧ H T = none ∧ H' = upd H T (.tup [x, y, z]) ∧ ∀ xs ys zs, SqX K k1 H a xs → SqX K k2 H b ys → SqX K k3 H c zs → xs[i]? = some x ∧ ys[i]? = some y ∧ zs[i]? = some z,
    fun i H => ∃ xs ys zs, SqX K k1 H a xs ∧ SqX K k2 H b ys ∧ SqX K k3 H c zs ∧ i = min (min xs.length ys.length) zs.length⟩
theorem turn_z3 {P : Program} {w : World} {K : PySem.W.Frag} {elts : List Expr} {kk : Nat} {tpos : Pos} {k1 k2 k3 : Bool} {a b d z TI TO i1 i2 i3 : Addr} (D : ZipSep3 z TI TO i1 i2 i3 [i1, a] [i2, b] [i3, d]) (n1 : a ≠ i1) (n2 : b ≠ i2) (n3 : d ≠ i3) :
    Turn P w K (.Tuple elts kk tpos) (Itz3 K k1 k2 k3 a b d) [z, TI, TO, i1, i2, i3] z (fun i h => IsZip h z TI TO .none ∧ IsTupOf3 h TI (.ref i1) (.ref i2) (.ref i3) ∧ (∃ x y u, IsTupOf3 h TO x y u) ∧ itAt k1 h i1 a i ∧ itAt k2 h i2 b i ∧ itAt k3 h i3 d i) := by
  refine turnW (ι := Array Value × Array Value × Array Value) (Sc := fun x h => sqAt k1 h a x.1 ∧ sqAt k2 h b x.2.1 ∧ sqAt k3 h d x.2.2)
    (fun A hh x => WalksT.zipD3 D (draws_k (A := A.in1) k1 hh i1 a n1 x.1) (draws_k (A := A.in1) k2 hh i2 b n2 x.2.1) (draws_k (A := A.in1) k3 hh i3 d n3 x.2.2))
    (fun x i h st sc => ⟨st.1, st.2.1, st.2.2.1, ⟨st.2.2.2.1, sc.1⟩, ⟨st.2.2.2.2.1, sc.2.1⟩, ⟨st.2.2.2.2.2, sc.2.2⟩⟩) (fun x i h st => ⟨st.1, st.2.1, st.2.2.1, st.2.2.2.1.1, st.2.2.2.2.1.1, st.2.2.2.2.2.1⟩)
    (by simp) (fun c hc => ?_) (fun i h st c hc => ?_) (fun i h h' st k => ?_) (fun A i s Q E st h => wpAny_pyIter_zip st.1 h) (fun X hK i pins s σ H I hg => ?_) (fun X hK i pins s σ H I hg => ?_)
  · have e' : c = z ∨ c = TO ∨ c = i1 ∨ c = i2 ∨ c = i3 := by simpa using hc
    rcases e' with q | q | q | q | q <;> simp [q]
  · obtain ⟨hz, hTI, ⟨x, y, u, hTO⟩, h1, h2, h3⟩ := st
    have e' : c = z ∨ c = TI ∨ c = TO ∨ c = i1 ∨ c = i2 ∨ c = i3 := by simpa using hc
    rcases e' with q | q | q | q | q | q
    · rw [q]; exact ⟨_, hz, fun v q => nomatch q⟩
    · rw [q]; exact ⟨_, hTI, fun v q => nomatch q⟩
    · rw [q]; exact ⟨_, hTO, fun v q => nomatch q⟩
    · rw [q]; exact h1.obj
    · rw [q]; exact h2.obj
    · rw [q]; exact h3.obj
  · obtain ⟨hz, hTI, ⟨x, y, u, hTO⟩, h1, h2, h3⟩ := st
    exact ⟨k z (by simp) _ hz, k TI (by simp) _ hTI, ⟨x, y, u, k TO (by simp) _ hTO⟩, h1.at fun o q => k i1 (by simp) o q, h2.at fun o q => k i2 (by simp) o q, h3.at fun o q => k i3 (by simp) o q⟩
  · subst hK
    obtain ⟨xs, ys, zs, hx, hy, hz, lx, ly, lz⟩ := hg
    obtain ⟨its, rv, p, _⟩ := inv_sq I hx
    obtain ⟨its2, rv2, p2, _⟩ := inv_sq I hy
    obtain ⟨its3, rv3, p3, _⟩ := inv_sq I hz
    have l1 := rv.length
    have l2 := rv2.length
    have l3 := rv3.length
    refine ⟨(its.toArray, its2.toArray, its3.toArray), ⟨p, p2, p3⟩, by simp; omega, fun vals hP => ?_⟩
    obtain ⟨x1, x2, x3, e1, e2, e3, rfl⟩ := hP
    obtain ⟨u1, hu1, r1⟩ := rv.get (List.getElem?_eq_getElem lx)
    obtain ⟨u2, hu2, r2⟩ := rv2.get (List.getElem?_eq_getElem ly)
    obtain ⟨u3, hu3, r3⟩ := rv3.get (List.getElem?_eq_getElem lz)
    have q1 : its[i]? = some x1 := by simpa using e1
    have q2 : its2[i]? = some x2 := by simpa using e2
    have q3 : its3[i]? = some x3 := by simpa using e3
    rw [hu1] at q1; cases q1
    rw [hu2] at q2; cases q2
    rw [hu3] at q3; cases q3
    exact ⟨[xs[i], ys[i], zs[i]], .cons r1 (.cons r2 (.cons r3 .nil)), by simp, fun T hT => ⟨T, _, _, _, rfl, hT, rfl, fun xs' ys' zs' hx' hy' hz' => by rw [sq_inj I hx' hx, sq_inj I hy' hy, sq_inj I hz' hz]; exact ⟨List.getElem?_eq_getElem lx, List.getElem?_eq_getElem ly, List.getElem?_eq_getElem lz⟩⟩⟩
  · subst hK
    obtain ⟨xs, ys, zs, hx, hy, hz, e⟩ := hg
    obtain ⟨its, rv, p, _⟩ := inv_sq I hx
    obtain ⟨its2, rv2, p2, _⟩ := inv_sq I hy
    obtain ⟨its3, rv3, p3, _⟩ := inv_sq I hz
    have l1 := rv.length
    have l2 := rv2.length
    have l3 := rv3.length
    exact ⟨(its.toArray, its2.toArray, its3.toArray), ⟨p, p2, p3⟩, by simp; omega⟩
/-- enumerate -/
def Ite1 (K : PySem.W.Frag) (k1 : Bool) (a : Addr) : It :=
  ⟨fun i H => ∃ xs, SqX K k1 H a xs ∧ i < xs.length,
    fun i H v H' => ∃ T x, v = .ref T ∧ H T = none ∧ H' = upd H T (.tup [.int (i : Nat), x]) ∧ ∀ xs, SqX K k1 H a xs → xs[i]? = some x,
    fun i H => ∃ xs, SqX K k1 H a xs ∧ i = xs.length⟩
theorem turn_en {P : Program} {w : World} {K : PySem.W.Frag} {elts : List Expr} {kk : Nat} {tpos : Pos} {k1 : Bool} {a e it : Addr} (n1 : a ≠ it) (n2 : e ≠ it) (n3 : e ≠ a) :
    Turn P w K (.Tuple elts kk tpos) (Ite1 K k1 a) [e, it] e (fun i h => (∃ old, IsEnum h e it (0 + (i : Int)) old) ∧ itAt k1 h it a i) := by
  refine turnW (ι := Array Value) (Sc := fun x h => sqAt k1 h a x)
    (fun A hh x => WalksT.enumFrom 0 (draws_k (A := A.in1) k1 hh it a n1 x) e n2 (by simp [n2, n3]) (by simp))
    (fun x i h st sc => ⟨st.1, st.2, sc⟩) (fun x i h st => ⟨st.1, st.2.1⟩)
    (by simp) (fun c hc => hc) (fun i h st c hc => ?_) (fun i h h' st k => ?_) (fun A i s Q E st h => by obtain ⟨⟨_, he⟩, _⟩ := st; exact wpAny_pyIter_enum he h) (fun X hK i pins s σ H I hg => ?_) (fun X hK i pins s σ H I hg => ?_)
  · obtain ⟨⟨old, he⟩, h1⟩ := st
    have e' : c = e ∨ c = it := by simpa using hc
    rcases e' with q | q
    · rw [q]; exact ⟨_, he, fun v q => nomatch q⟩
    · rw [q]; exact h1.obj
  · obtain ⟨⟨old, he⟩, h1⟩ := st
    exact ⟨⟨old, k e (by simp) _ he⟩, h1.at fun o q => k it (by simp) o q⟩
  · subst hK
    obtain ⟨xs, hx, lx⟩ := hg
    obtain ⟨its, rv, p, _⟩ := inv_sq I hx
    have l1 := rv.length
    refine ⟨its.toArray, p, by simp; omega, fun vals hP => ?_⟩
    obtain ⟨t, x1, e1, rfl⟩ := hP
    obtain ⟨u1, hu1, r1⟩ := rv.get (List.getElem?_eq_getElem lx)
    have q1 : its[i]? = some x1 := by simpa using e1
    rw [hu1] at q1; cases q1
    exact ⟨[.int (i : Nat), xs[i]], .cons ⟨t, by simp⟩ (.cons r1 .nil), by simp, fun T hT => ⟨T, _, rfl, hT, rfl, fun xs' hx' => by rw [sq_inj I hx' hx]; exact List.getElem?_eq_getElem lx⟩⟩
  · subst hK
    obtain ⟨xs, hx, e⟩ := hg
    obtain ⟨its, rv, p, _⟩ := inv_sq I hx
    have l1 := rv.length
    exact ⟨its.toArray, p, by simp; omega⟩

section
variable {X : Cx}
theorem enum_newB {v : Value} {o : Obj} {H : Heap → Prop} (B : Begins v o H) :
    Meets (Builtin.«enumerate.__new__» ⟨[.type "enumerate", v], []⟩) (fun _ R s => H s.heap ∧
      R (.ok (.ret (.ref (s.heap.push o).objs.size))) { s with heap := (s.heap.push o).push { cls := .type "enumerate", data := .fields #[.none, .bool false, .ref s.heap.objs.size, rawInt 0, .none, .none] } }) :=
  .of_wp fun prog w A R s h => by
    obtain ⟨hp, g, d, tk, os⟩ := s; obtain ⟨h1, h⟩ := h
    have hsub := sub_enumerate
    have q1 : ∀ {A' : Around} {E : Value → Shared → Prop} {Q : Value → Shared → Prop}, Q (.ref hp.objs.size) ⟨hp.push o, g, d, tk, os⟩ → wpAny (model prog w) A' (pyIter v) Q E ⟨hp, g, d, tk, os⟩ :=
      fun q => B.iter prog w _ _ ⟨hp, g, d, tk, os⟩ _ h1 q
    wp_walk using q1
    refine wpAny_stack_any fun st => wpAny_pure ?_
    split
    · rename_i c _ _ _ _ _
      cases (c == Value.type "enumerate")
      · wp_walk using q1
        exact ⟨_, rfl, h⟩
      · wp_walk using q1
        exact ⟨_, rfl, h⟩
    · wp_walk using q1
      exact ⟨_, rfl, h⟩
theorem enum_begin {prog : Program} {w : World} {A : Around} {E : Value → Shared → Prop} {s : Shared} {v : Value} {o : Obj} {H : Heap → Prop} {Q : Value → Shared → Prop} (B : Begins v o H) (h1 : H s.heap)
    (h : ∀ h', IsEnum h' (s.heap.objs.size + 1) s.heap.objs.size 0 .none → h'.get? s.heap.objs.size = some o → h'.objs.size = s.heap.objs.size + 2 →
      (∀ b o, s.heap.get? b = some o → h'.get? b = some o) → Q (.ref (s.heap.objs.size + 1)) { s with heap := h' }) :
    wpAny (model prog w) A (call (.type "enumerate") [v]) Q E s := by
  refine callType_new F.called_enumerate (by decide) (F.typeCall_enumerate_1 _) (F.newCall_enumerate_1 _) (fun obj => F.args_object_init_2 obj _) F.entry_enumerate_new
    (enum_newB B) ⟨h1, ?_⟩
  have hz : (s.heap.push o).objs.size = s.heap.objs.size + 1 := Heap.size_push ..
  show _ ∧ _
  rw [hz]
  have he : IsEnum ((s.heap.push o).push { cls := .type "enumerate", data := .fields #[.none, .bool false, .ref s.heap.objs.size, rawInt 0, .none, .none] }) (s.heap.objs.size + 1) s.heap.objs.size 0 .none := by
    have := Heap.get?_push_size (s.heap.push o) (o := { cls := .type "enumerate", data := .fields #[.none, .bool false, .ref s.heap.objs.size, rawInt 0, .none, .none] }) rfl
    rw [hz] at this; exact this
  exact ⟨⟨_, he, rfl⟩, h _ he (Heap.get?_push_of_some _ (Heap.get?_push_size _ B.free)) (by rw [Heap.size_push, hz]) fun b o x => Heap.get?_push_of_some _ (Heap.get?_push_of_some _ x)⟩
def iEn (K : PySem.W.Frag) (ta : TA) : TI := fun σ H R => ta σ H fun vs H1 => ∃ a k xs, vs = [.ref a] ∧ SqX K k H1 a xs ∧ R (Ite1 K k a) H1
def iZ2 (K : PySem.W.Frag) (ta : TA) : TI := fun σ H R => ta σ H fun vs H1 => ∃ a b k1 k2 xs ys, vs = [.ref a, .ref b] ∧ SqX K k1 H1 a xs ∧ SqX K k2 H1 b ys ∧ R (Itz2 K k1 k2 a b) H1
def iZ3 (K : PySem.W.Frag) (ta : TA) : TI := fun σ H R => ta σ H fun vs H1 => ∃ a b c k1 k2 k3 xs ys zs, vs = [.ref a, .ref b, .ref c] ∧ SqX K k1 H1 a xs ∧ SqX K k2 H1 b ys ∧ SqX K k3 H1 c zs ∧ R (Itz3 K k1 k2 k3 a b c) H1
theorem pi_en {e : Expr} {ta : TA} {p pos tpos : Pos} {elts : List Expr} {kk : Nat} (hg : Gl X "enumerate") (hm : X.mg "enumerate" = none) (ha : PA X [e] ta) (hs : starEach [e] X.env = [(false, eval e X.env)]) :
    PI X (.Tuple elts kk tpos) (.Call (.Name "enumerate" p) [e] [] pos) (iEn X.K ta) := by
  refine ⟨fun pins s σ H R I h => ?_⟩
  refine Call_ (ld_blt I hg hm boot_enumerate (PyProof.Rows.callWith_type1 (thn (ha.run pos pins s σ H _ I h) fun us s1 ⟨vs, H1, I1, r1, q1⟩ => ?_) hs rfl))
  obtain ⟨a, k, xs, ex, hq, q⟩ := q1
  subst ex
  cases r1 with
  | cons r rr =>
    cases rr
    cases r
    obtain ⟨its, rv, p', hz⟩ := inv_sq I1 hq
    have lt := p'.lt
    refine enum_begin (begins_k k a its.toArray) p' fun h' he hit hsz hk => wpAny_pyIter_enum he ?_
    have I2 : Inv X pins σ H1 { s1 with heap := h' } := I1.kept (t' := s1.toks) hk
    refine ⟨s1.heap.objs.size + 1, [s1.heap.objs.size + 1, s1.heap.objs.size], _, _, H1, rfl, I2, turn_en (Nat.ne_of_lt lt) (Nat.succ_ne_self _) (Nat.ne_of_gt (Nat.lt_succ_of_lt lt)), ⟨⟨.none, he⟩, objIt_at hit⟩, fun b hb => ?_, q⟩
    have e' : b = s1.heap.objs.size + 1 ∨ b = s1.heap.objs.size := by simpa using hb
    have hle : s1.heap.objs.size ≤ b := by
      rcases e' with z | z
      · rw [z]; exact Nat.le_add_right _ _
      · rw [z]; exact Nat.le_refl _
    exact I1.fpOk hle (I1.hok.fresh hle)
theorem pi_z2 {e e2 : Expr} {ta : TA} {p pos tpos : Pos} {elts : List Expr} {kk : Nat} (hg : Gl X "zip") (hm : X.mg "zip" = none) (ha : PA X [e, e2] ta)
    (hs : starEach [e, e2] X.env = (false, eval e X.env) :: starEach [e2] X.env) (hpl : (backTo pos (starEach [e2] X.env)).any (·.1) = false) :
    PI X (.Tuple elts kk tpos) (.Call (.Name "zip" p) [e, e2] [] pos) (iZ2 X.K ta) := by
  refine ⟨fun pins s σ H R I h => ?_⟩
  refine Call_ (ld_blt I hg hm PyProof.Rows.boot_zip (PyProof.Rows.callWith_type1 (thn (ha.run pos pins s σ H _ I h) fun us s1 ⟨vs, H1, I1, r1, q1⟩ => ?_) hs hpl))
  obtain ⟨a, b, k1, k2, xs, ys, ex, hx, hy, q⟩ := q1
  subst ex
  cases r1 with
  | cons r rr =>
    cases rr with
    | cons r' rr =>
      cases rr
      cases r
      cases r'
      obtain ⟨its, rv, p1, _⟩ := inv_sq I1 hx
      obtain ⟨its2, rv2, p2, _⟩ := inv_sq I1 hy
      have l1 := p1.lt
      have l2 := p2.lt
      refine zip_begins2 (begins_k k1 a its.toArray) (begins_k k2 b its2.toArray) p1 p2 fun h' hz hTI hTO h1 h2 hsz hk => wpAny_pyIter_zip hz ?_
      have I2 : Inv X pins σ H1 { s1 with heap := h' } := I1.kept (t' := s1.toks) hk
      refine ⟨s1.heap.objs.size + 4, [s1.heap.objs.size + 4, s1.heap.objs.size + 2, s1.heap.objs.size + 3, s1.heap.objs.size, s1.heap.objs.size + 1], _, _, H1, rfl, I2,
        turn_z2 (zip_sep2 (fp1 := [a]) (fp2 := [b]) (by simpa using l1) (by simpa using l2)) (Nat.ne_of_lt l1) (Nat.ne_of_lt (Nat.lt_succ_of_lt l2)), ⟨hz, hTI, ⟨_, _, hTO⟩, objIt_at h1, objIt_at h2⟩, fun c hcm => ?_, q⟩
      have e' : c = s1.heap.objs.size + 4 ∨ c = s1.heap.objs.size + 2 ∨ c = s1.heap.objs.size + 3 ∨ c = s1.heap.objs.size ∨ c = s1.heap.objs.size + 1 := by simpa using hcm
      have hle : s1.heap.objs.size ≤ c := by
        rcases e' with z | z | z | z | z <;> rw [z] <;> first | exact Nat.le_add_right _ _ | exact Nat.le_refl _
      exact I1.fpOk hle (I1.hok.fresh hle)
theorem pi_z3 {e e2 e3 : Expr} {ta : TA} {p pos tpos : Pos} {elts : List Expr} {kk : Nat} (hg : Gl X "zip") (hm : X.mg "zip" = none) (ha : PA X [e, e2, e3] ta)
    (hs : starEach [e, e2, e3] X.env = (false, eval e X.env) :: starEach [e2, e3] X.env) (hpl : (backTo pos (starEach [e2, e3] X.env)).any (·.1) = false) :
    PI X (.Tuple elts kk tpos) (.Call (.Name "zip" p) [e, e2, e3] [] pos) (iZ3 X.K ta) := by
  refine ⟨fun pins s σ H R I h => ?_⟩
  refine Call_ (ld_blt I hg hm PyProof.Rows.boot_zip (PyProof.Rows.callWith_type1 (thn (ha.run pos pins s σ H _ I h) fun us s1 ⟨vs, H1, I1, r1, q1⟩ => ?_) hs hpl))
  obtain ⟨a, b, d, k1, k2, k3, xs, ys, zs, ex, hx, hy, hw, q⟩ := q1
  subst ex
  cases r1 with
  | cons r rr =>
    cases rr with
    | cons r' rr =>
      cases rr with
      | cons r'' rr =>
        cases rr
        cases r
        cases r'
        cases r''
        obtain ⟨its, rv, p1, _⟩ := inv_sq I1 hx
        obtain ⟨its2, rv2, p2, _⟩ := inv_sq I1 hy
        obtain ⟨its3, rv3, p3, _⟩ := inv_sq I1 hw
        have l1 := p1.lt
        have l2 := p2.lt
        have l3 := p3.lt
        refine zip_begins3 (begins_k k1 a its.toArray) (begins_k k2 b its2.toArray) (begins_k k3 d its3.toArray) p1 p2 p3 fun h' hz hTI hTO h1 h2 h3 hsz hk => wpAny_pyIter_zip hz ?_
        have I2 : Inv X pins σ H1 { s1 with heap := h' } := I1.kept (t' := s1.toks) hk
        refine ⟨s1.heap.objs.size + 5, [s1.heap.objs.size + 5, s1.heap.objs.size + 3, s1.heap.objs.size + 4, s1.heap.objs.size, s1.heap.objs.size + 1, s1.heap.objs.size + 2], _, _, H1, rfl, I2,
          turn_z3 (zip_sep3 (fp1 := [a]) (fp2 := [b]) (fp3 := [d]) (by simpa using l1) (by simpa using l2) (by simpa using l3)) (Nat.ne_of_lt l1) (Nat.ne_of_lt (Nat.lt_succ_of_lt l2)) (Nat.ne_of_lt (Nat.lt_succ_of_lt (Nat.lt_succ_of_lt l3))), ⟨hz, hTI, ⟨_, _, _, hTO⟩, objIt_at h1, objIt_at h2, objIt_at h3⟩, fun c hcm => ?_, q⟩
        have e' : c = s1.heap.objs.size + 5 ∨ c = s1.heap.objs.size + 3 ∨ c = s1.heap.objs.size + 4 ∨ c = s1.heap.objs.size ∨ c = s1.heap.objs.size + 1 ∨ c = s1.heap.objs.size + 2 := by simpa using hcm
        have hle : s1.heap.objs.size ≤ c := by
          rcases e' with z | z | z | z | z | z <;> rw [z] <;> first | exact Nat.le_add_right _ _ | exact Nat.le_refl _
        exact I1.fpOk hle (I1.hok.fresh hle)
/-- a list, a tuple or a text -/
def iAny (K : PySem.W.Frag) (tl : TE) : TI := fun σ H R => tl σ H fun x H1 => (∃ a xs, x = .ref a ∧ SqL K H1 a xs ∧ R (Itl K a) H1) ∨ (∃ a xs, x = .ref a ∧ SqT K H1 a xs ∧ R (Itt K a) H1) ∨ ∃ z, x = .str z ∧ R (Its z) H1
theorem pi_any {tg l : Expr} {tl : TE} (hl : PE X l tl) : PI X tg l (iAny X.K tl) := by
  refine ⟨fun pins s σ H R I h => ?_⟩
  have hc : PE X l tl := hl
  refine thn (hl.run pins s σ H _ I h) fun v s1 ⟨x, H1, I1, r1, q1⟩ => ?_
  rcases q1 with ⟨a, xs, e, hq, q⟩ | ⟨a, xs, e, hq, q⟩ | ⟨z, e, q⟩
  · subst e
    cases r1
    obtain ⟨its, rv, p, hz⟩ := I1.list hq
    refine wpAny_pyIter_list p.isList ?_
    refine ⟨s1.heap.objs.size, [s1.heap.objs.size], _, _, H1, rfl, I1.kept (t' := s1.toks) fun b o e => Heap.get?_push_of_some _ e, turn_list a _, ⟨_, Heap.get?_push_size _ rfl, rfl, rfl⟩, fun b hb => ?_, q⟩
    have e : b = s1.heap.objs.size := by simpa using hb
    subst e
    exact I1.fpOk (Nat.le_refl _) (I1.hok.fresh (Nat.le_refl _))
  · subst e
    cases r1
    obtain ⟨its, rv, p, hz⟩ := I1.tuple hq
    refine wpAny_pyIter_tuple (show s1.heap.IsTuple a its.toArray from p) ?_
    refine ⟨s1.heap.objs.size, [s1.heap.objs.size], _, _, H1, rfl, I1.kept (t' := s1.toks) fun b o e => Heap.get?_push_of_some _ e, turn_tuple a _, ⟨_, Heap.get?_push_size _ rfl, rfl, rfl⟩, fun b hb => ?_, q⟩
    have e : b = s1.heap.objs.size := by simpa using hb
    subst e
    exact I1.fpOk (Nat.le_refl _) (I1.hok.fresh (Nat.le_refl _))
  · subst e
    obtain ⟨t, rfl⟩ := r1
    cases ha : z.cps.all (· < 128)
    · exact wpAny_pyIter_wide ha (pi_one (tk := s1.toks) I1 _ (turn_str _ z t "str_iterator" (.inr rfl)) ⟨_, Heap.get?_push_size _ rfl, rfl, rfl⟩ q)
    · exact wpAny_pyIter_ascii ha (pi_one (tk := s1.toks) I1 _ (turn_str _ z t "str_ascii_iterator" (.inl rfl)) ⟨_, Heap.get?_push_size _ rfl, rfl, rfl⟩ q)
end
end TG
end
section
namespace TG
open PySem PySem.Spec PyProof.Rows L2

section
variable {Γ : Ga} {R : XP} {G : Gh} {X : Cx} {σ : L2.St} {Z : Addr → Prop} {H : Hp} {env : Env} {N bl : List Str} {sc : Scope}
theorem s_var {i : Nat} {x : Str} {pos : Pos} (hN : X.N[i]? = some x) (hv : Vis X.env.scope x) (hd : (x == ("__debug__" : Str)) = false) (hcd : (x == ("__classdict__" : Str)) = false) : PE X (.Name x pos) (tE Γ R G (.var i)) := by
  refine pe_imp (pe_var hN hv hd hcd) fun σ H Q ⟨Z, env, Q0, hR, hw, hq⟩ => ?_
  have hw : (match env[i]? with
    | some (Sl.im d) => Q0 (.im d) env
    | some .un => False
    | some _ => Q0 (.bo i) env
    | none => False) := hw
  split at hw
  · next d h =>
    obtain ⟨v, e, r⟩ := hR.im i d h
    exact ⟨v, e, hq (.im d) env v Z H hR .refl r trivial hw⟩
  · exact hw.elim
  · next s h1 h2 h =>
    cases s with
    | un => exact (h2 rfl).elim
    | im d => exact (h1 d rfl).elim
    | ow d =>
      obtain ⟨a, e, _⟩ := hR.ow i d h
      exact ⟨_, e, hq (.bo i) env _ Z H hR .refl e trivial hw⟩
    | io d =>
      obtain ⟨e, _⟩ := hR.io i d h
      exact ⟨_, e, hq (.bo i) env _ Z H hR .refl e trivial hw⟩
    | lk d =>
      obtain ⟨a, e, _⟩ := hR.lk i d h
      exact ⟨_, e, hq (.bo i) env _ Z H hR .refl e trivial hw⟩
  · exact hw.elim
theorem s_int {i : Int} {j pos} : PE X (.Constant (.int i) j pos) (tE Γ R G (.cint i)) := pe_imp pe_int fun σ H Q ⟨Z, env, Q0, hR, hw, hq⟩ => hq (.im _) env _ Z H hR .refl (Rep.int _) trivial hw
theorem s_str {i : Str} {j pos} : PE X (.Constant (.str i) j pos) (tE Γ R G (.cstr i)) := pe_imp pe_str fun σ H Q ⟨Z, env, Q0, hR, hw, hq⟩ => hq (.im _) env _ Z H hR .refl (Rep.str _) trivial hw
theorem s_bl {i : Bool} {j pos} : PE X (.Constant (.bool i) j pos) (tE Γ R G (.cbl i)) := pe_imp pe_bl fun σ H Q ⟨Z, env, Q0, hR, hw, hq⟩ => hq (.im _) env _ Z H hR .refl (Rep.bl _) trivial hw
theorem s_non {j pos} : PE X (.Constant .none j pos) (tE Γ R G .cnon) := pe_imp pe_non fun σ H Q ⟨Z, env, Q0, hR, hw, hq⟩ => hq (.im _) env _ Z H hR .refl Rep.non trivial hw
theorem s_glob {x : Str} {pos : Pos} (hcs : ∀ x d, Γ.cs x = some d → ∃ v u, X.mg x = some u ∧ RelV v u ∧ ∀ Z H, Rep G.K Z H v d) (hg : Gl X x) (hd : (x == ("__debug__" : Str)) = false) : PE X (.Name x pos) (tE Γ R G (.glob x)) := by
  by_cases h : ∃ d, Γ.cs x = some d
  · obtain ⟨d, h⟩ := h
    obtain ⟨v, u, h1, h2, h3⟩ := hcs x d h
    refine pe_imp (pe_glob hg h1 h2 hd) fun σ H Q ⟨Z, env, Q0, hR, hw, hq⟩ => ?_
    obtain ⟨d', e, hw⟩ := (show ∃ d, Γ.cs x = some d ∧ Q0 (.im d) env from hw)
    rw [h] at e; cases e
    exact hq (.im _) env _ Z H hR .refl (h3 Z H) trivial hw
  · refine pe_no fun σ H Q ⟨Z, env, Q0, hR, hw, hq⟩ => ?_
    obtain ⟨d', e, hw⟩ := (show ∃ d, Γ.cs x = some d ∧ Q0 (.im d) env from hw)
    exact h ⟨d', e⟩

theorem rds_ok (Rl : Rel G σ Z H env) : ∀ {rs : List Rv} {vs : List V} {K : List D → Prop}, RepRs G σ Z H env rs vs → rds rs env K → ∃ ds, RepTL G.K Z H vs ds ∧ K ds
  | _, _, _, .nil, w => ⟨[], .nil, w⟩
  | _, _, _, .cons h t, w => by
    obtain ⟨d, r, w⟩ := rd_ok Rl h w
    obtain ⟨ds, rr, w⟩ := rds_ok Rl t w
    exact ⟨d :: ds, .cons r rr, w⟩
theorem s_blt {b : Bt} {as : Ex} {e : Expr} {es : List Expr} {p pos : Pos} (hu : X.A.units + 64 < cLine) (hc : X.calm = true) (hK : X.K = G.K) (hg : Gl X b.nm) (hm : X.mg b.nm = none) (ha : PA X (e :: es) (tB Γ R G as))
    (he : starEach (e :: es) X.env = (false, eval e X.env) :: starEach es X.env) (hpl : (backTo pos (starEach es X.env)).any (·.1) = false) : PE X (.Call (.Name b.nm p) (e :: es) [] pos) (tE Γ R G (.blt b as)) := by
  obtain ⟨r, hr, sem⟩ := blt_ok (X := X) hu hc b
  rw [hK] at sem
  obtain ⟨hv, hn, hdb⟩ := bt_boot b
  have base : PE X (.Call (.Name b.nm p) (e :: es) [] pos) (tCB r (tB Γ R G as)) := by
    unfold Bt.val at hr hv
    cases ht : b.ty with
    | none => rw [ht] at hr hv; exact pe_callB hr hg hm hv ha hn hdb he hpl
    | some T => rw [ht] at hr hv; exact pe_callTy hr hg hm hv ha hn hdb he hpl
  refine pe_imp base fun σ H Q ⟨Z, env, Q0, hR, hw, hq⟩ => ?_
  refine ⟨Z, env, _, hR, hw, fun rs e1 vs Z1 H1 R1 S1 r1 w1 => ?_⟩
  obtain ⟨ds, rr, w⟩ := rds_ok R1 r1 w1
  refine sem Z1 H1 vs ds _ Q rr w fun z v H' kz o => ?_
  obtain ⟨Z3, R3, S3, V3, N3⟩ := o.run R1
  exact hq z e1 v Z3 H' R3 (S1.trans S3) V3 (S1.repN N3) kz
def Tn.val (t : Tn) : Value := .type t.nm
theorem tn_boot (t : Tn) : bootBuiltins t.nm = some (.type t.nm) ∧ (t.nm : Str) ≠ "__name__" ∧ ((t.nm : Str) == ("__debug__" : Str)) = false := by
  cases t
  all_goals refine ⟨?_, by decide +kernel, by decide +kernel⟩
  · exact PyProof.Rows.boot_int
  · exact PyProof.Rows.boot_bool
  · exact PyProof.Rows.boot_str
  · exact PyProof.Rows.boot_tuple
  · exact PyProof.Rows.boot_list
  · exact PyProof.Rows.boot_dict
def tyD : D → String
  | .non => "NoneType" | .bl _ => "bool" | .int _ => "int" | .str _ => "str" | .tup _ => "tuple" | .lst _ => "list" | .scr _ => "list" | .dct _ => "dict" | .dtt _ => "dict"
theorem kit_d (d : D) (t : Tn) : kitB (tyD d) t.nm = some (dIsi d t) := by
  cases d <;> cases t <;> (simp only [tyD, dIsi, Tn.nm]; decide +kernel)
theorem RepT.ty {K : PySem.W.Frag} {v : V} {d : D} (h : RepT K Z H v d) : TyX K H v (.type (tyD d)) := by
  rcases h with h | ⟨a, rfl, h | h⟩
  · cases h with
    | non => exact .base .non
    | bl b => exact .base (.bl b)
    | int b => exact .base (.int b)
    | str b => exact .base (.str b)
    | tup h r =>
      rcases h with ⟨_, h⟩ | ⟨o, its, n, h1, h2, _⟩
      · exact .base (.tup h)
      · exact .kTuple h1 h2
    | lst h r => exact .base (.lst h.2)
    | scr h r =>
      rcases h with ⟨_, o, h⟩ | ⟨o, its, n, h1, h2, _⟩
      · exact .base (.frz h)
      · exact .kList h1 h2
    | dct z h r => exact .base (.dK h)
    | dtt z h r => exact .base (.dT h)
  · cases h with
    | lst h r => exact .base (.lst h)
    | dct h r => exact .base (.dK h)
    | dtt h r => exact .base (.dT h)
  · cases h with
    | dct h r => exact .fDict h
theorem s_isi {a : Ex} {t : Tn} {e : Expr} {p p2 pos : Pos} (hK : X.K = G.K) (hg : Gl X "isinstance") (hm : X.mg "isinstance" = none) (hg2 : Gl X t.nm) (hm2 : X.mg t.nm = none) (ha : PE X e (tE Γ R G a))
    (he : starEach [e, .Name t.nm p2] X.env = (false, eval e X.env) :: starEach [.Name t.nm p2] X.env) (hpl : (backTo pos (starEach [.Name t.nm p2] X.env)).any (·.1) = false) :
    PE X (.Call (.Name "isinstance" p) [e, .Name t.nm p2] [] pos) (tE Γ R G (.isi a t)) := by
  obtain ⟨hv, hn, hdb⟩ := tn_boot t
  refine pe_imp (pe_callB (r := rIsi X.K) call_isi hg hm PyProof.Rows.boot_isinstance (pa_cons ha (pa_cons (pe_bltn (v := .ty t.nm) hg2 hm2 hv rfl hn hdb) pa_nil rfl) he) (by decide) (by decide) he hpl) fun σ H Q ⟨Z, env, Q0, hR, hw, hq⟩ => ?_
  refine ⟨Z, env, _, hR, hw, fun r1 e1 v1 Z1 H1 R1 S1 V1 _ w1 => ?_⟩
  obtain ⟨d, tr, w⟩ := rd_ok R1 V1 w1
  rw [← hK] at tr
  exact ⟨v1, .ty t.nm, _, _, dIsi d t, rfl, .ty _, tr.ty, kit_ty (kit_d d t), hq (.im _) e1 _ Z1 H1 R1 S1 (Rep.bl _) trivial w⟩

def Mt.nm : Mt → Str
  | .get => "get" | .index => "index" | .count => "count" | .join => "join" | .split => "split" | .startswith => "startswith" | .endswith => "endswith" | .replace => "replace" | .upper => "upper"
def Mm.nm : Mm → Str
  | .append => "append" | .extend => "extend" | .pop => "pop" | .remove => "remove" | .insert => "insert" | .clear => "clear" | .reverse => "reverse"
def tyG (K : PySem.W.Frag) (T : String) (x : V) (H : Hp) : Prop := tyV K T x H ∨ (T = "dict" ∧ ∃ p o kvs, x = .ref p ∧ H p = some (.frz o (.dK kvs)))
theorem tyG_is {pins : List (Addr × Obj)} {s : Shared} {T : String} {x : V} {v : Value} (I : Inv X pins σ H s) (r : RelV x v) (ty : tyG X.K T x H) : s.TypeIs v T ∧ ∀ a, v = .ref a → ∃ ob, s.heap.get? a = some ob ∧ ob.dict = none := by
  rcases ty with ty | ⟨rfl, p, ob, kvs, rfl, h⟩
  · exact tyV_is I r ty
  · cases (show v = Value.ref p from r)
    obtain ⟨_, _, _, vs, _, o, es, ep, h1, h2, _⟩ := (show ObjOk X.prog X.w H s.heap p (.frz ob (.dK kvs)) from I.hok p _ h)
    exact ⟨⟨o, h1, h2.1⟩, fun a e => by cases e; exact ⟨o, h1, h2.2.1⟩⟩
def tBG (K : PySem.W.Frag) (T : String) (r : V → List V → Hp → VK → Prop) (to : TE) (t : TA) : TE := fun σ H Q => to σ H fun x H1 => tyG K T x H1 ∧ t σ H1 fun xs H2 => r x xs H2 Q
theorem pe_bmG {o e : Expr} {es : List Expr} {to : TE} {t : TA} {name : Str} {apos cpos : Pos} {T id : String} {r : V → List V → Hp → VK → Prop} (pa : PlainAttrs T) (slot : Slot T name id) (hty : typeOf (.builtin id) = pure (.type "method_descriptor")) (hm : MtR X id r) (ho : PE X o to) (ha : PA X (e :: es) t)
    (hbase : attributeBase o name X.env (eval o X.env) = eval o X.env)
    (hfew : ((backTo cpos (starEach (e :: es) X.env)).all (fun x => !x.1) && (backToKw cpos (keywordEach [] X.env)).all (fun x => x.1.isSome)
      && decide ((e :: es).length + ([] : List Keyword).length + (if ([] : List Keyword).isEmpty then 0 else 1) < 30)) = true)
    (hline : (apos.endLine == cpos.line) = true) (hs : starEach (e :: es) X.env = (false, eval e X.env) :: starEach es X.env) (hplain : (backTo cpos (starEach es X.env)).any (·.1) = false) :
    PE X (.Call (.Attribute o name apos) (e :: es) [] cpos) (tBG X.K T r to t) := by
  refine ⟨fun pins s σ H Q I h => ?_⟩
  refine wpAny_Call_method_late hbase hfew hline rfl (thn (ho.run pins s σ H _ I h) fun v s1 ⟨x, H1, I1, r1, ty, q1⟩ => ?_)
  obtain ⟨h1, h2⟩ := tyG_is I1 r1 ty
  refine ⟨T, id, pa, slot, hty, h1, h2, ?_⟩
  have hA := ha.run cpos pins s1 σ H1 _ I1 q1
  rw [hs] at hA ⊢
  refine Calls.callWith_builtin (by show (false || (backTo cpos (starEach es X.env)).any (·.1)) = false; rw [hplain] <;> rfl) (Calls.evalArgs_plain ?_)
  exact thn hA fun us s2 ⟨vs, H2, I2, r2, q2⟩ => hm pins s2 σ H2 x vs v us Q I2 r1 r2 q2
def Mt.typ : Mt → String
  | .get => "dict" | .index => "list" | .count => "list" | _ => "str"
def Mt.bid : Mt → String
  | .get => "dict.get" | .index => "list.index" | .count => "list.count" | .join => "str.join" | .split => "str.split" | .startswith => "str.startswith" | .endswith => "str.endswith" | .replace => "str.replace" | .upper => "str.upper"
def MtOk (X : Cx) (m : Mt) : Prop := ∃ T id, PlainAttrs T ∧ Slot T m.nm id ∧ typeOf (.builtin id) = pure (.type "method_descriptor") ∧ ∃ r : V → List V → Hp → VK → Prop, MtR X id r ∧
  (∀ (Z : Addr → Prop) (H : Hp) (x : V) (d : D), RepT X.K Z H x d → tyM m d = true → tyG X.K T x H) ∧ ∀ (d : D) (ds : List D) (Kp : Rv → Prop), dMt m d ds Kp → ∀ (Z' : Addr → Prop) (H' : Hp) (x : V) (xs : List V) (Q : VK), RepT X.K Z' H' x d → RepTL X.K Z' H' xs ds →
    (∀ z v H2, Kp z → Out X.K Z' H' z v H2 → Q v H2) → r x xs H' Q
theorem mt_none {id : String} : MtR X id (fun _ _ _ _ => False) := fun _ _ _ _ _ _ _ _ _ _ _ _ h => h.elim
theorem mt_get (hu : X.A.units + 64 < cLine) : MtR X "dict.get" (fun x xs H Q => ∃ a, x = .ref a ∧ ((∃ y o, xs = [y] ∧ DGe X.K H a y o ∧ Q (o.getD .non) H) ∨ ∃ y d o, xs = [y, d] ∧ DGe X.K H a y o ∧ Q (o.getD d) H)) := by
  intro pins s σ H x xs v us Q I rx rs h
  obtain ⟨a, rfl, h⟩ := h
  cases rx
  rcases h with ⟨y, o, rfl, g, q⟩ | ⟨y, d, o, rfl, g, q⟩
  · obtain ⟨u, rfl, ru⟩ := rs.one
    exact e_get1 (by omega) I g ru fun w' s' I' r' => ⟨_, H, I', r', q⟩
  · obtain ⟨u, w, rfl, ru, rw'⟩ := rs.two
    exact e_get2 (by omega) I g ru rw' fun w' s' I' r' => ⟨_, H, I', r', q⟩
theorem RepT.tyD {v : V} {kvs : List (Key × D)} (h : RepT X.K Z H v (.dct kvs)) : tyG X.K "dict" v H := by
  rcases h with h | ⟨a, rfl, h | h⟩
  · cases h with
    | dct z h r => exact .inl (.inr (.inr (.inl ⟨rfl, .inl ⟨_, h⟩⟩)))
  · cases h with
    | dct h r => exact .inl (.inr (.inr (.inl ⟨rfl, .inl ⟨_, h⟩⟩)))
  · cases h with
    | dct h r => exact .inr ⟨rfl, _, _, _, rfl, h⟩
theorem RepT.tyDT {v : V} {kvs : List (List Key × D)} (h : RepT X.K Z H v (.dtt kvs)) : tyG X.K "dict" v H := by
  obtain ⟨a, kvs, rfl, h, r⟩ := h.dtt
  exact .inl (.inr (.inr (.inl ⟨rfl, .inr ⟨_, h⟩⟩)))
theorem mtok_get (hu : X.A.units + 64 < cLine) : MtOk X .get := by
  refine ⟨"dict", "dict.get", F.plainAttrs_dict, F.slot_dict_get, F.type_dict_get, _, mt_get hu, fun Z H x d hx ht => ?_, fun d ds Kp hd Z' H' x xs Q hx' hxs q => ?_⟩
  · cases d <;> first | exact hx.tyD | exact hx.tyDT | cases ht
  cases d <;> try exact hd.elim
  · obtain ⟨a, kvs, rfl, h1, r1⟩ := hx'.dct
    cases hxs with
    | nil => exact hd.elim
    | cons h2 r2 =>
      cases r2 with
      | nil =>
        obtain ⟨k, ek, hd⟩ := hd
        cases h2.key ek
        refine ⟨a, rfl, .inl ?_⟩
        rcases RepKs.dget (k := k) h1 r1 with ⟨e, g⟩ | ⟨v, d, e, g, rv⟩
        · rw [e] at hd; exact ⟨_, _, rfl, .inl g, q _ _ _ hd (.same .non)⟩
        · rw [e] at hd; exact ⟨_, _, rfl, .inl g, q _ _ _ hd (.same rv)⟩
      | cons h3 r3 =>
        cases r3 with
        | cons _ _ => exact hd.elim
        | nil =>
          obtain ⟨fl, k, ek, hd⟩ := hd
          cases h2.key ek
          refine ⟨a, rfl, .inr ?_⟩
          rcases RepKs.dget (k := k) h1 r1 with ⟨e, g⟩ | ⟨v, d, e, g, rv⟩
          · rw [e] at hd; exact ⟨_, _, _, rfl, .inl g, q _ _ _ hd (.same (h3.flat fl).2)⟩
          · rw [e] at hd; exact ⟨_, _, _, rfl, .inl g, q _ _ _ hd (.same rv)⟩
  · obtain ⟨a, kvs, rfl, h1, r1⟩ := hx'.dtt
    cases hxs with
    | nil => exact hd.elim
    | @cons v2 d2 _ _ h2 r2 =>
      cases r2 with
      | nil =>
        cases d2 <;> try exact hd.elim
        obtain ⟨k, ek, hd⟩ := hd
        obtain ⟨b, ws, rfl, hb, rb⟩ := h2.tup
        refine ⟨a, rfl, .inl ?_⟩
        rcases RepTs.dget h1 hb.sq (rb.keys ek) r1 with ⟨e, g⟩ | ⟨v, d, e, g, rv⟩
        · rw [e] at hd; exact ⟨_, _, rfl, g, q _ _ _ hd (.same .non)⟩
        · rw [e] at hd; exact ⟨_, _, rfl, g, q _ _ _ hd (.same rv)⟩
      | cons h3 r3 =>
        cases r3 with
        | cons _ _ => cases d2 <;> exact hd.elim
        | nil =>
          cases d2 <;> try exact hd.elim
          obtain ⟨fl, k, ek, hd⟩ := hd
          obtain ⟨b, ws, rfl, hb, rb⟩ := h2.tup
          refine ⟨a, rfl, .inr ?_⟩
          rcases RepTs.dget h1 hb.sq (rb.keys ek) r1 with ⟨e, g⟩ | ⟨v, d, e, g, rv⟩
          · rw [e] at hd; exact ⟨_, _, _, rfl, g, q _ _ _ hd (.same (h3.flat fl).2)⟩
          · rw [e] at hd; exact ⟨_, _, _, rfl, g, q _ _ _ hd (.same rv)⟩
theorem mtok_join : MtOk X .join := by
  refine ⟨"str", "str.join", F.plainAttrs_str, F.slot_str_join, F.type_str_join, _, mt_join, fun Z H x d hx ht => ?_, fun d ds Kp hd Z' H' x xs Q hx' hxs q => ?_⟩
  · cases d <;> first | (cases hx.str; exact .inl rfl) | cases ht
  cases d <;> try exact hd.elim
  cases hx'.str
  cases hxs with
  | nil => exact hd.elim
  | @cons v2 d2 _ _ h2 r2 =>
    cases r2 with
    | cons _ _ => cases d2 <;> exact hd.elim
    | nil =>
      cases d2 <;> try exact hd.elim
      obtain ⟨ys, ey, hz, hk⟩ := hd
      obtain ⟨b, ws, rfl, hb, rb⟩ := h2.lst
      obtain ⟨e1, e2⟩ := strs_of rb ey
      subst e1
      exact ⟨_, b, ys, rfl, rfl, .inl (SqL.of hb), hz, q _ _ _ hk (.same (.str _))⟩
theorem mt_no {m : Mt} (h0 : ∀ d, tyM m d = false) (h : ∀ d ds Kp, ¬ dMt m d ds Kp) (sl : ∃ T id, PlainAttrs T ∧ Slot T m.nm id ∧ typeOf (.builtin id) = pure (.type "method_descriptor")) : MtOk X m := by
  obtain ⟨T, id, h1, h2, h3⟩ := sl
  exact ⟨T, id, h1, h2, h3, _, mt_none, fun Z H x d _ ht => by (rw [h0 d] at ht; cases ht), fun d ds Kp hd => (h d ds Kp hd).elim⟩
theorem s_meth {m : Mt} {o as : Ex} {x e : Expr} {es : List Expr} {apos cpos : Pos} (hK : X.K = G.K) (hm : MtOk X m) (ho : PE X x (tE Γ R G o)) (ha : PA X (e :: es) (tB Γ R G as))
    (hbase : attributeBase x m.nm X.env (eval x X.env) = eval x X.env)
    (hfew : ((backTo cpos (starEach (e :: es) X.env)).all (fun x => !x.1) && (backToKw cpos (keywordEach [] X.env)).all (fun x => x.1.isSome)
      && decide ((e :: es).length + ([] : List Keyword).length + (if ([] : List Keyword).isEmpty then 0 else 1) < 30)) = true)
    (hline : (apos.endLine == cpos.line) = true) (hs : starEach (e :: es) X.env = (false, eval e X.env) :: starEach es X.env) (hplain : (backTo cpos (starEach es X.env)).any (·.1) = false) :
    PE X (.Call (.Attribute x m.nm apos) (e :: es) [] cpos) (tE Γ R G (.meth m o as)) := by
  obtain ⟨T, id, h1, h2, h3, r, hr, ty, sem⟩ := hm
  rw [hK] at sem ty
  refine pe_imp (pe_bmG h1 h2 h3 hr ho ha hbase hfew hline hs hplain) fun σ H Q ⟨Z, env, Q0, hR, hw, hq⟩ => ?_
  refine ⟨Z, env, _, hR, hw, fun r1 e1 v1 Z1 H1 R1 S1 V1 _ w1 => ?_⟩
  obtain ⟨d0, t0, ht, w⟩ := rd_ok R1 V1 w1
  refine ⟨by rw [hK]; exact ty _ _ _ _ t0 ht, ?_⟩
  refine ⟨Z1, e1, _, R1, w, fun rs e2 vs Z2 H2 R2 S2 r2 w2 => ?_⟩
  obtain ⟨dx, tx, k1⟩ := rd_ok R2 (S2.repR R1 V1) w2
  obtain ⟨ds, rr, k2⟩ := rds_ok R2 r2 k1
  refine sem _ _ _ k2 Z2 H2 _ _ _ tx rr fun z v H' kz o => ?_
  obtain ⟨Z3, R3, S3, V3, N3⟩ := o.run R2
  have S := S1.trans S2
  exact hq z e2 v Z3 H' R3 (S.trans S3) V3 (S.repN N3) kz
/-- a changing method of a slot's own thing -/
def MmOk (X : Cx) (m : Mm) : Prop := ∃ T id, PlainAttrs T ∧ Slot T m.nm id ∧ typeOf (.builtin id) = pure (.type "method_descriptor") ∧ ∃ r : V → List V → Hp → VK → Prop, MtR X id r ∧
  (∀ (Z : Addr → Prop) (H : Hp) (a : Addr) (d : D), Top X.K Z H a d → tyMm m d = true → tyG X.K T (.ref a) H) ∧ ∀ (d : D) (ds : List D) (Kp : D → D → Prop), dMm m d ds Kp → ∀ (Z : Addr → Prop) (H : Hp) (a : Addr) (xs : List V) (Q : VK), Top X.K Z H a d → Reps X.K Z H xs ds →
    (∀ d' y v o, Kp d' y → (∀ Z' H', Rep X.K Z' H' v y) → (∀ H', (∀ b u, b ≠ a → H b = some u → H' b = some u) → H' a = some o → (∀ b, Z b → b ≠ a) → Top X.K Z H' a d') → Q v (upd H a o)) → r (.ref a) xs H Q
theorem mm_none {m : Mm} (h : ∀ d ds Kp, ¬ dMm m d ds Kp) (sl : ∃ id, Slot "list" m.nm id ∧ typeOf (.builtin id) = pure (.type "method_descriptor")) : MmOk X m := by
  obtain ⟨id, h2, h3⟩ := sl
  refine ⟨"list", id, F.plainAttrs_list, h2, h3, _, mt_none, fun Z H a d hx ht => ?_, fun d ds Kp hd => (h d ds Kp hd).elim⟩
  cases hx with
  | lst h r => exact .inl (.inl ⟨rfl, _, SqL.of h⟩)
  | dct h r => cases m <;> cases ht
  | dtt h r => cases m <;> cases ht
theorem mmok_append : MmOk X .append := by
  refine ⟨"list", "list.append", F.plainAttrs_list, F.slot_list_append, F.type_list_append, _, mt_append, fun Z H a d hx ht => ?_, fun d ds Kp hd Z H a xs Q hx hxs q => ?_⟩
  · cases hx with
    | lst h r => exact .inl (.inl ⟨rfl, _, SqL.of h⟩)
    | dct h r => cases ht
    | dtt h r => cases ht
  cases hx with
  | dct h r => exact hd.elim
  | dtt h r => exact hd.elim
  | lst h r =>
    cases hxs with
    | nil => exact hd.elim
    | cons h2 r2 =>
      cases r2 with
      | cons _ _ => exact hd.elim
      | nil =>
        exact ⟨a, _, _, rfl, rfl, h, by rw [r.length]; exact hd.1, q _ _ _ _ hd.2 (fun _ _ => .non) fun H' k e z => .lst e (by
          have zk : ∀ b u, Z b → H b = some u → H' b = some u := fun b u zb hb => k b u (z b zb) hb
          exact (r.mono (fun _ z => z) zk).append (.cons (h2.mono (fun _ z => z) zk) .nil))⟩
theorem mmok_remove : MmOk X .remove := by
  refine ⟨"list", "list.remove", F.plainAttrs_list, F.slot_list_remove, F.type_list_remove, _, mt_remove, fun Z H a d hx ht => ?_, fun d ds Kp hd Z H a xs Q hx hxs q => ?_⟩
  · cases hx with
    | lst h r => exact .inl (.inl ⟨rfl, _, SqL.of h⟩)
    | dct h r => cases ht
    | dtt h r => cases ht
  cases hx with
  | dct h r => exact hd.elim
  | dtt h r => exact hd.elim
  | lst h r =>
    cases hxs with
    | nil => exact hd.elim
    | @cons v2 d2 _ _ h2 r2 =>
      cases r2 with
      | cons _ _ => cases d2 <;> exact hd.elim
      | nil =>
        cases d2 <;> try exact hd.elim
        cases (RepT.of h2).int
        obtain ⟨ns, j, e, e1, e2, hk⟩ := hd
        obtain ⟨q1, q2⟩ := ints_of r e
        subst q1
        refine ⟨a, ns, _, j, rfl, rfl, h, e1, e2, q _ _ _ _ hk (fun _ _ => .non) fun H' k e z => .lst e (by
          have zk : ∀ b u, Z b → H b = some u → H' b = some u := fun b u zb hb => k b u (z b zb) hb
          rw [← erase_mapI]
          exact (r.mono (fun _ z => z) zk).eraseIdx j)⟩
theorem s_mut {m : Mm} {i : Nat} {as : Ex} {x : Str} {e : Expr} {es : List Expr} {apos cpos npos : Pos} (hK : X.K = G.K) (hm : MmOk X m) (hN : X.N[i]? = some x) (hv : Vis X.env.scope x) (hd : (x == ("__debug__" : Str)) = false) (hcd : (x == ("__classdict__" : Str)) = false) (ha : PA X (e :: es) (tA Γ R G as))
    (hbase : attributeBase (.Name x npos) m.nm X.env (eval (.Name x npos) X.env) = eval (.Name x npos) X.env)
    (hfew : ((backTo cpos (starEach (e :: es) X.env)).all (fun x => !x.1) && (backToKw cpos (keywordEach [] X.env)).all (fun x => x.1.isSome)
      && decide ((e :: es).length + ([] : List Keyword).length + (if ([] : List Keyword).isEmpty then 0 else 1) < 30)) = true)
    (hline : (apos.endLine == cpos.line) = true) (hs : starEach (e :: es) X.env = (false, eval e X.env) :: starEach es X.env) (hplain : (backTo cpos (starEach es X.env)).any (·.1) = false) :
    PE X (.Call (.Attribute (.Name x npos) m.nm apos) (e :: es) [] cpos) (tE Γ R G (.mut m i as)) := by
  obtain ⟨T, id, h1, h2, h3, r, hr, ty, sem⟩ := hm
  rw [hK] at sem ty
  refine pe_imp (pe_bmG h1 h2 h3 hr (pe_var hN hv hd hcd) ha hbase hfew hline hs hplain) fun σ H Q ⟨Z, env, Q0, hR, hw, hq⟩ => ?_
  obtain ⟨hw1, hw2⟩ := (show _ ∧ _ from hw)
  have own1 : ∃ d a, (env[i]? = some (Sl.ow d) ∨ env[i]? = some (Sl.io d)) ∧ σ[i]? = some (some (V.ref a)) ∧ Top G.K Z H a d ∧ tyMm m d = true := by
    split at hw1
    · next d h => obtain ⟨a, e, _, _, t⟩ := hR.ow i d h; exact ⟨d, a, .inl h, e, t, hw1⟩
    · next d h => obtain ⟨e, _, _, t⟩ := hR.io i d h; exact ⟨d, _, .inr h, e, t, hw1⟩
    · exact hw1.elim
  obtain ⟨d0, a, _, e1, t1, ht⟩ := own1
  refine ⟨_, e1, by rw [hK]; exact ty _ _ _ _ t1 ht, Z, env, _, hR, hw2, fun ds e2 vs Z1 H1 R1 S1 r1 w1 => ?_⟩
  have fin : ∀ {s : Sl} {s' : D → Sl} {d : D}, e2[i]? = some s → Top G.K Z1 H1 a d → (∀ d', (s = .ow d ∧ s' d' = .ow d') ∨ (s = .io d ∧ s' d' = .io d')) → dMm m d ds (fun d' x => Q0 (.im x) (e2.set i (s' d'))) → r (.ref a) vs H1 Q := fun {s s' d} h2 t hs hd => by
    have oi : Ow σ e2 a := ⟨i, ⟨d, by rcases hs d with ⟨q, _⟩ | ⟨q, _⟩ <;> rw [h2, q] <;> simp⟩, e1⟩
    refine sem d ds _ hd Z1 H1 a vs Q t r1 fun d' y v o k ry tp => ?_
    obtain ⟨R2, S2⟩ := R1.write (a := a) (o := o) h2 (hs d') e1 fun H' hk ho => tp H' hk ho fun b zb q => R1.nO zb (by rw [q]; exact oi)
    exact hq (.im y) _ v Z1 _ R2 (S1.trans S2) (ry _ _) trivial k
  have w1 : (match e2[i]? with
    | some (Sl.ow d) => dMm m d ds fun d' x => Q0 (.im x) (e2.set i (.ow d'))
    | some (.io d) => dMm m d ds fun d' x => Q0 (.im x) (e2.set i (.io d'))
    | _ => False) := w1
  split at w1
  · next d h =>
    obtain ⟨b, e, _, _, t⟩ := R1.ow i d h
    rw [e1] at e; cases e
    exact fin (s' := .ow) h t (fun d' => .inl ⟨rfl, rfl⟩) w1
  · next d h =>
    obtain ⟨e, _, _, t⟩ := R1.io i d h
    rw [e1] at e; cases e
    exact fin (s' := .io) h t (fun d' => .inr ⟨rfl, rfl⟩) w1
  · exact w1.elim
end
end TG
end
section
namespace TG
open PySem PySem.Spec PyProof.Rows L2

section
variable {Γ : Ga} {R : XP} {G : Gh} {X : Cx} {σ : L2.St} {Z Z' Zs : Addr → Prop} {H H' Hs : Hp} {env env2 envs : Env} {N bl : List Str} {sc : Scope}
theorem FinOk.there {K : PySem.W.Frag} : ∀ {as : List Addr} {ds : List D}, FinOk K Z H as ds → ∀ a ∈ as, ∃ o, H a = some o
  | _, _, .nil, a, h => by cases h
  | _, _, .cons t r, a, h => by
    rcases List.mem_cons.mp h with rfl | h
    · exact t.there
    · exact FinOk.there r a h
/-- behind a call -/
theorem Rel.called {as : List Addr} (Rl : Rel G σ Z H env) (A : Aft Z H as Z' H') (S : Stp σ Zs Hs envs Z H env)
    (has : ∀ a ∈ as, Ow σ env a ∨ (¬ Z a ∧ G.H0 a = none ∧ Hs a = none ∧ ¬ Ow σ env a ∧ ∃ o, H a = some o ∧ Mut (some o))) (thr : ∀ a ∈ as, ∃ o, H' a = some o)
    (hl : env2.length = env.length)
    (h2 : ∀ i, (env2[i]? = env[i]? ∧ (own env i → ∀ a ∈ as, σ[i]? ≠ some (some (V.ref a)))) ∨ ∃ a d d', a ∈ as ∧ σ[i]? = some (some (V.ref a)) ∧ Top G.K Z' H' a d' ∧ ((env[i]? = some (Sl.ow d) ∧ env2[i]? = some (Sl.ow d')) ∨ (env[i]? = some (Sl.io d) ∧ env2[i]? = some (Sl.io d')))) :
    Rel G σ Z' H' env2 ∧ Stp σ Zs Hs envs Z' H' env2 := by
  have muts : ∀ a ∈ as, ∃ o, H a = some o ∧ Mut (some o) := fun a h => (has a h).elim (fun o => let ⟨u, e, m, _⟩ := Rl.ownT o; ⟨u, e, m⟩) fun q => q.2.2.2.2
  have nz : ∀ a ∈ as, ¬ Z a := fun a h => (has a h).elim (fun o z => Rl.nO z o) fun q => q.1
  have nz' : ∀ a o, H a = some o → ¬ Z a → ¬ Z' a := fun a o e n z => (A.zn a z).elim n fun q => by rw [e] at q; cases q
  have zk : ∀ b u, Z b → H b = some u → H' b = some u := fun b u z e => A.hk b u e fun q => nz b q z
  have sub : ∀ i, own env2 i → own env i := fun i h => by
    rcases h2 i with ⟨e, _⟩ | ⟨a, d, d', _, _, _, q | q⟩
    · obtain ⟨d, h⟩ := h; rw [e] at h; exact ⟨d, h⟩
    · exact ⟨d, .inl q.1⟩
    · exact ⟨d, .inr q.1⟩
  have subk : ∀ i, ownk env2 i → ownk env i := fun i h => by
    rcases h with h | ⟨c, h⟩
    · exact .inl (sub i h)
    · rcases h2 i with ⟨e, _⟩ | ⟨a, d, d', _, _, _, q | q⟩
      · rw [e] at h; exact .inr ⟨c, h⟩
      · rw [q.2] at h; cases h
      · rw [q.2] at h; cases h
  refine ⟨⟨hl.trans Rl.len, fun i d h => ?_, fun i d h => ?_, fun i d h => ?_, fun i d h => ?_, fun i j a hi hj => Rl.inj i j a (subk i hi) (subk j hj), fun b z => A.zz b (Rl.z0 b z), fun b z => ?_, A.zt, fun b o e n => ?_, fun b o e => ?_⟩, ⟨⟨fun b z => A.zz b (S.grow.zz b z), fun b z => ?_, fun b o e n => ?_, fun b o e => ?_⟩, fun i h => S.sub i (sub i h)⟩⟩
  · rcases h2 i with ⟨e, _⟩ | ⟨a, d, d', _, _, _, q | q⟩
    · rw [e] at h
      obtain ⟨v, e, r⟩ := Rl.im i d h
      exact ⟨v, e, r.mono A.zz zk⟩
    · rw [q.2] at h; cases h
    · rw [q.2] at h; cases h
  · rcases h2 i with ⟨e, ne⟩ | ⟨a, c, d', ha, es, t, q | q⟩
    · rw [e] at h
      obtain ⟨a, e, nza, h0, t⟩ := Rl.ow i d h
      obtain ⟨o, ho⟩ := t.there
      have na : a ∉ as := fun ha => ne ⟨d, .inl h⟩ a ha e
      exact ⟨a, e, nz' a o ho nza, h0, t.mono A.zz zk fun o e => A.hk a o e na⟩
    · rw [q.2] at h; cases h
      obtain ⟨b, e, nza, h0, t2⟩ := Rl.ow i c q.1
      rw [es] at e; cases e
      obtain ⟨o, ho⟩ := t2.there
      exact ⟨a, es, nz' a o ho nza, h0, t⟩
    · rw [q.2] at h; cases h
  · rcases h2 i with ⟨e, ne⟩ | ⟨a, c, d', ha, es, t, q | q⟩
    · rw [e] at h
      obtain ⟨e, nza, h0, t⟩ := Rl.io i d h
      obtain ⟨o, ho⟩ := t.there
      have na : G.ad i ∉ as := fun ha => ne ⟨d, .inr h⟩ _ ha e
      exact ⟨e, nz' _ o ho nza, h0, t.mono A.zz zk fun o e => A.hk _ o e na⟩
    · rw [q.2] at h; cases h
    · rw [q.2] at h; cases h
      obtain ⟨e, nza, h0, t2⟩ := Rl.io i c q.1
      rw [es] at e; cases e
      obtain ⟨o, ho⟩ := t2.there
      exact ⟨es, nz' _ o ho nza, h0, t⟩
  · rcases h2 i with ⟨e, ne⟩ | ⟨a, c, d', ha, es, t, q | q⟩
    · rw [e] at h
      obtain ⟨a, e, nza, l⟩ := Rl.lk i d h
      obtain ⟨o, ho⟩ := l.there
      have na : a ∉ as := fun ha => by
        obtain ⟨o, h1, m⟩ := muts a ha
        cases l with
        | dct hh r => rw [hh] at h1; cases h1; exact m
      exact ⟨a, e, nz' a o ho nza, l.mono A.zz zk fun o e => A.hk a o e na⟩
    · rw [q.2] at h; cases h
    · rw [q.2] at h; cases h
  · rcases A.zn b z with z | z
    · exact Rl.z1 b z
    · exact .inr (Rl.h0n z)
  · have q := Rl.keep b o e n
    refine A.hk b o q fun hb => ?_
    rcases has b hb with ⟨i, ⟨d, h | h⟩, es⟩ | ⟨_, h0, _⟩
    · obtain ⟨a, e2, _, h0, _⟩ := Rl.ow i d h
      rw [es] at e2; cases e2
      rw [h0] at e; cases e
    · obtain ⟨e2, _, hs, _⟩ := Rl.io i d h
      rw [es] at e2; cases e2
      exact n hs
    · rw [h0] at e; cases e
  · obtain ⟨u, h⟩ := Rl.tr b o e
    by_cases hb : b ∈ as
    · exact thr b hb
    · exact ⟨u, A.hk b u h hb⟩
  · rcases A.zn b z with z | z
    · exact S.grow.zn b z
    · exact .inr (.inr (S.nn z))
  · refine A.hk b o (S.grow.hk b o e n) fun hb => ?_
    rcases has b hb with ⟨i, h, es⟩ | ⟨_, _, h, _⟩
    · exact n ⟨i, S.sub i h, es⟩
    · rw [h] at e; cases e
  · obtain ⟨u, h⟩ := S.grow.tr b o e
    by_cases hb : b ∈ as
    · exact thr b hb
    · exact ⟨u, A.hk b u h hb⟩
theorem putS_len (e : Env) (i : Nat) (d : D) : (putS e i d).length = e.length := by
  unfold putS
  split <;> first | exact List.length_set | rfl
theorem putB_len : ∀ (ms : List Bool) (rs : List Rv) (ds : List D) (e : Env), (putB ms rs ds e).length = e.length
  | true :: ms, .bo i :: rs, d :: ds, e => by rw [putB, putB_len ms rs ds, putS_len]
  | true :: ms, .im _ :: rs, _ :: ds, e => by rw [putB, putB_len ms rs ds] <;> (intros; simp_all)
  | true :: ms, .fr _ :: rs, _ :: ds, e => by rw [putB, putB_len ms rs ds] <;> (intros; simp_all)
  | false :: ms, _ :: rs, ds, e => by rw [putB, putB_len ms rs ds]
  | [], _, _, e => by rw [putB] <;> (intros; simp_all)
  | _ :: _, [], _, e => by rw [putB] <;> (intros; simp_all)
  | true :: ms, r :: rs, [], e => by rw [putB] <;> (intros; simp_all)
theorem putB_ne : ∀ (ms : List Bool) (rs : List Rv) (ds : List D) (e : Env) (j : Nat), j ∉ bos rs → (putB ms rs ds e)[j]? = e[j]?
  | true :: ms, .bo i :: rs, d :: ds, e, j, h => by
    rw [putB, putB_ne ms rs ds _ j fun q => h (by simp [bos, q])]
    unfold putS
    have n : i ≠ j := fun q => h (by simp [bos, q])
    split <;> first | exact List.getElem?_set_ne n | rfl
  | true :: ms, .im _ :: rs, _ :: ds, e, j, h => by rw [putB, putB_ne ms rs ds e j fun q => h (by simpa [bos] using q)] <;> (intros; simp_all)
  | true :: ms, .fr _ :: rs, _ :: ds, e, j, h => by rw [putB, putB_ne ms rs ds e j fun q => h (by simpa [bos] using q)] <;> (intros; simp_all)
  | false :: ms, r :: rs, ds, e, j, h => by
    rw [putB, putB_ne ms rs ds e j fun q => h (by cases r <;> simp [bos, q])]
  | [], _, _, e, j, _ => by rw [putB] <;> (intros; simp_all)
  | _ :: _, [], _, e, j, _ => by rw [putB] <;> (intros; simp_all)
  | true :: ms, r :: rs, [], e, j, _ => by rw [putB] <;> (intros; simp_all)
/-- the arguments -/
def ArgsC (G : Gh) (Hs : Hp) (σ : L2.St) (Z : Addr → Prop) (H : Hp) (env : Env) (ms : List Bool) (rs : List Rv) (vs : List V) (K : List D → Prop) : Prop :=
    ∃ ds as, ArgsOk G.K Z H ms vs ds as ∧ K ds ∧ (∀ a ∈ as, (∃ i, i ∈ bos rs ∧ own env i ∧ σ[i]? = some (some (V.ref a))) ∨ (¬ noFr rs = true ∧ ¬ Z a ∧ G.H0 a = none ∧ Hs a = none ∧ ¬ Ow σ env a ∧ ∃ o, H a = some o ∧ Mut (some o))) ∧
      ∀ (Z' : Addr → Prop) (H' : Hp) (fins : List D), FinOk G.K Z' H' as fins → ∀ e : Env, (∀ i ∈ bos rs, e[i]? = env[i]?) → ∀ i ∈ bos rs, ∃ a d d', a ∈ as ∧ σ[i]? = some (some (V.ref a)) ∧ Top G.K Z' H' a d' ∧ ((env[i]? = some (Sl.ow d) ∧ (putB ms rs fins e)[i]? = some (Sl.ow d')) ∨ (env[i]? = some (Sl.io d) ∧ (putB ms rs fins e)[i]? = some (Sl.io d')))
theorem args_ok (Rl : Rel G σ Z H env) : ∀ {rs : List Rv} {vs : List V} {ms : List Bool} {K : List D → Prop}, RepRs G σ Z H env rs vs → RepNs Hs rs vs → (bos rs).Nodup → rdC ms rs env K →
    ArgsC G Hs σ Z H env ms rs vs K
  | _, _, [], _, .nil, _, _, w => ⟨[], [], .nil, w, fun a h => (by cases h), fun _ _ _ _ _ _ i h => (by cases h)⟩
  | _, _, true :: _, _, .nil, _, _, w => False.elim w
  | _, _, false :: _, _, .nil, _, _, w => False.elim w
  | _, _, [], _, .cons (r := r) _ _, _, _, w => by cases r <;> exact False.elim w
  | _, _, false :: ms, _, .cons (r := r) h t, .cons _ nn, nd, w => by
    cases r with
    | fr d => exact False.elim w
    | bo i => exact False.elim w
    | im d =>
      obtain ⟨ds, as, q1, q2, q3, q4⟩ := args_ok Rl t nn nd w
      exact ⟨d :: ds, as, .im h q1, q2, fun a ha => (q3 a ha).imp id fun q => q, fun Z' H' fins f e he i hi => q4 Z' H' fins f e he i hi⟩
  | _, _, true :: ms, K, .cons (r := r) (rs := rs) (v := v) h t, .cons n nn, nd, w => by
    cases r with
    | im d => exact False.elim w
    | fr d =>
      obtain ⟨nf, w⟩ := (show noFr rs = true ∧ _ from w)
      obtain ⟨ds, as, q1, q2, q3, q4⟩ := args_ok Rl t nn nd w
      obtain ⟨a, rfl, nz, no, h0, tp⟩ := h
      have na : a ∉ as := fun ha => by
        rcases q3 a ha with ⟨i, _, oi, es⟩ | ⟨q, _⟩
        · exact no ⟨i, oi, es⟩
        · exact q nf
      refine ⟨d :: ds, a :: as, .io nz na tp q1, q2, fun b hb => ?_, fun Z' H' fins f e he i hi => ?_⟩
      · rcases List.mem_cons.mp hb with rfl | hb
        · exact .inr ⟨by simp [noFr], nz, h0, n b rfl, no, tp.mut⟩
        · rcases q3 b hb with q | ⟨q, _⟩
          · exact .inl q
          · exact (q nf).elim
      · cases f with
        | cons ft fr =>
          obtain ⟨a', c, d', ha, es, tt, q⟩ := q4 Z' H' _ fr e he i hi
          exact ⟨a', c, d', List.mem_cons_of_mem _ ha, es, tt, q⟩
    | bo j =>
      have hj : σ[j]? = some (some v) := h
      have nd' : j ∉ bos rs ∧ (bos rs).Nodup := by simpa [bos] using nd
      have key : ∀ (d : D) (a : Addr) (s : Sl), σ[j]? = some (some (V.ref a)) → env[j]? = some s → ((s = .ow d) ∨ s = .io d) → ¬ Z a → Top G.K Z H a d → rdC ms rs env (fun ds => K (d :: ds)) → ArgsC G Hs σ Z H env (true :: ms) (.bo j :: rs) (v :: _) K := fun d a s es ej hs nz tp w => by
        obtain ⟨ds, as, q1, q2, q3, q4⟩ := args_ok Rl t nn nd'.2 w
        have oj : own env j := ⟨d, by rcases hs with rfl | rfl; exact .inl ej; exact .inr ej⟩
        have na : a ∉ as := fun ha => by
          rcases q3 a ha with ⟨i, hi, oi, es2⟩ | ⟨_, _, _, _, no, _⟩
          · have := Rl.inj i j a (.inl oi) (.inl oj) es2 es
            subst this; exact nd'.1 hi
          · exact no ⟨j, oj, es⟩
        rw [es] at hj; cases hj
        exact ⟨d :: ds, a :: as, .io nz na tp q1, q2, fun b hb => by
          rcases List.mem_cons.mp hb with rfl | hb
          · exact .inl ⟨j, by simp [bos], oj, es⟩
          · rcases q3 b hb with ⟨i, hi, q⟩ | ⟨q, q'⟩
            · exact .inl ⟨i, by simp [bos, hi], q⟩
            · exact .inr ⟨fun z => q (by simpa [noFr] using z), q'⟩, fun Z' H' fins f e he i hi => by
          cases f with
          | @cons _ d2 _ ds2 ft fr =>
            have he' : ∀ i ∈ bos rs, (putS e j d2)[i]? = env[i]? := fun i hi => by
              rw [← he i (by simp [bos, hi])]
              have n : j ≠ i := fun q => nd'.1 (by rw [q]; exact hi)
              unfold putS
              split <;> first | exact List.getElem?_set_ne n | rfl
            have hi' : i = j ∨ i ∈ bos rs := by simpa [bos] using hi
            rcases hi' with rfl | hi'
            · refine ⟨a, d, d2, List.mem_cons_self, es, ft, ?_⟩
              have ee : (putB (true :: ms) (.bo i :: rs) (d2 :: ds2) e)[i]? = (putS e i d2)[i]? := by rw [putB, putB_ne _ _ _ _ _ nd'.1]
              have e0 := he i (by simp [bos])
              rw [ej] at e0
              have il : i < e.length := by
                by_cases l : i < e.length
                · exact l
                · rw [List.getElem?_eq_none (by omega)] at e0; cases e0
              rw [ee]
              unfold putS
              rcases hs with rfl | rfl
              · rw [e0]; exact .inl ⟨ej, List.getElem?_set_self il⟩
              · rw [e0]; exact .inr ⟨ej, List.getElem?_set_self il⟩
            · obtain ⟨a', c, d', ha, es', tt, q⟩ := q4 Z' H' ds2 fr (putS e j d2) he' i hi'
              exact ⟨a', c, d', List.mem_cons_of_mem _ ha, es', tt, q⟩⟩
      have w : (match env[j]? with
        | some (Sl.ow d) => rdC ms rs env fun ds => K (d :: ds)
        | some (.io d) => rdC ms rs env fun ds => K (d :: ds)
        | _ => False) := w
      split at w
      · next d hh =>
        obtain ⟨a, es, nz, _, tp⟩ := Rl.ow j d hh
        have e2 := hj; rw [es] at e2; cases e2
        exact key d a _ es hh (.inl rfl) nz tp w
      · next d hh =>
        obtain ⟨es, nz, _, tp⟩ := Rl.io j d hh
        have e2 := hj; rw [es] at e2; cases e2
        exact key d _ _ es hh (.inr rfl) nz tp w
      · exact w.elim
theorem ArgsOk.zt {K : PySem.W.Frag} : ∀ {ms : List Bool} {vs : List V} {ds : List D} {as : List Addr}, ArgsOk K Z H ms vs ds as → ds.length = vs.length
  | _, _, _, _, .nil => rfl
  | _, _, _, _, .im h r => by rw [List.length_cons, List.length_cons, r.zt]
  | _, _, _, _, .io _ _ _ r => by rw [List.length_cons, List.length_cons, r.zt]
/-- what a call comes to -/
theorem call_sem {fi : FI} {rs : List Rv} {vs : List V} {Q0 : Rv → Env → Prop} {Q : VK} (hK : X.K = G.K) (Rl : Rel G σ Z H env) (S : Stp σ Zs Hs envs Z H env) (hr : RepRs G σ Z H env rs vs) (hn : RepNs Hs rs vs) (nd : (bos rs).Nodup)
    (w : rdC fi.io rs env fun ds => fi.sp ds (fun r fins => Q0 r (putB fi.io rs fins env)) (fun x fins => R x (putB fi.io rs fins env)))
    (hq : ∀ r env' v Z' H', Rel G σ Z' H' env' → Stp σ Zs Hs envs Z' H' env' → RepR G σ Z' H' env' r v → RepN Hs r v → Q0 r env' → Q v H') : lift X.mg X.K fi vs H Q (WR X.mg G R σ) := by
  obtain ⟨ds, as, a1, a2, a3, a4⟩ := args_ok Rl hr hn nd w
  have mk : ∀ (fins : List D) (H' : Hp) (Z' : Addr → Prop), Aft Z H as Z' H' → FinOk G.K Z' H' as fins → Rel G σ Z' H' (putB fi.io rs fins env) ∧ Stp σ Zs Hs envs Z' H' (putB fi.io rs fins env) := fun fins H' Z' A F => by
    refine Rl.called A S (fun a ha => (a3 a ha).elim (fun ⟨i, _, oi, es⟩ => .inl ⟨i, oi, es⟩) fun q => .inr q.2) F.there (putB_len ..) fun i => ?_
    by_cases hi : i ∈ bos rs
    · obtain ⟨a, d, d', q⟩ := a4 Z' H' fins F env (fun _ _ => rfl) i hi
      exact .inr ⟨a, d, d', q⟩
    · refine .inl ⟨putB_ne _ _ _ _ _ hi, fun oi a ha es => ?_⟩
      rcases a3 a ha with ⟨j, hj, oj, es2⟩ | ⟨_, _, _, _, no, _⟩
      · have := Rl.inj i j a (.inl oi) (.inl oj) es es2
        subst this; exact hi hj
      · exact no ⟨i, oi, es⟩
  rw [hK]
  refine ⟨Z, ds, as, _, _, a1, Rl.zt, a2, fun r fins v H' Z' A F V1 q => ?_, fun x fins cls dd H' Z' A F V1 q => ?_⟩
  · obtain ⟨R2, S2⟩ := mk fins H' Z' A F
    cases r with
    | bo i => exact V1.elim
    | im d => exact hq (.im d) _ v Z' H' R2 S2 V1 trivial q
    | fr d =>
      obtain ⟨a, rfl, nz, hn, tp⟩ := V1
      refine hq (.fr d) _ _ Z' H' R2 S2 ⟨a, rfl, nz, fun ⟨i, oi, es⟩ => ?_, Rl.h0n hn, tp⟩ (fun b e => by cases e; exact S.nn hn) q
      obtain ⟨o, ho, _⟩ := R2.ownT ⟨i, oi, es⟩
      rcases Classical.em (i ∈ bos rs) with hi | hi
      · obtain ⟨b, d, d', hb, es2, _, q⟩ := a4 Z' H' fins F env (fun _ _ => rfl) i hi
        rw [es] at es2; cases es2
        rcases a3 _ hb with ⟨j, _, oj, es3⟩ | ⟨_, _, _, _, _, o, ho, _⟩
        · obtain ⟨u, hu, _⟩ := Rl.ownT ⟨j, oj, es3⟩
          rw [hn] at hu; cases hu
        · rw [hn] at ho; cases ho
      · obtain ⟨d, oi⟩ := oi
        rw [putB_ne _ _ _ _ _ hi] at oi
        obtain ⟨u, hu, _⟩ := Rl.ownT ⟨i, ⟨d, oi⟩, es⟩
        rw [hn] at hu; cases hu
  · obtain ⟨R2, S2⟩ := mk fins H' Z' A F
    exact ⟨Z', _, x, R2, V1, q⟩
theorem s_call {f : Str} {as : Ex} {e : Expr} {es : List Expr} {p pos : Pos} (hK : X.K = G.K) (hf : ∀ f fi, Γ.fn f = some fi → ∃ k, Room k X.A ∧ FnIs X.prog X.w X.K X.mg X.base k f fi) (px : ∀ σ, PassesAt (L2.CX X.prog X.w) X σ (WR X.mg G R σ)) (hg : Gl X f) (hd : (f == ("__debug__" : Str)) = false)
    (ha : ∀ ms, PA X (e :: es) (tCl Γ R G ms as)) (he : starEach (e :: es) X.env = (false, eval e X.env) :: starEach es X.env) (hpl : (backTo pos (starEach es X.env)).any (·.1) = false) : PE X (.Call (.Name f p) (e :: es) [] pos) (tE Γ R G (.call f as)) := by
  by_cases h : ∃ fi, Γ.fn f = some fi
  · obtain ⟨fi, h⟩ := h
    obtain ⟨k, hr, ⟨adr, fd, ps, F, hm, hk, hb⟩⟩ := hf f fi h
    refine pe_imp (pe_callS F hr hg hm hk hb px (ha fi.io) hd he hpl) fun σ H Q ⟨Z, env, Q0, hR, hw, hq⟩ => ?_
    obtain ⟨fi', e, hw⟩ := (show ∃ fi, Γ.fn f = some fi ∧ _ from hw)
    rw [h] at e; cases e
    exact ⟨Z, env, _, hR, hw, fun rs e1 vs Z1 H1 R1 S1 r1 n1 w1 => call_sem hK R1 S1 r1 n1 w1.1 w1.2 hq⟩
  · refine pe_no fun σ H Q ⟨Z, env, Q0, hR, hw, hq⟩ => ?_
    obtain ⟨fi', e, hw⟩ := (show ∃ fi, Γ.fn f = some fi ∧ _ from hw)
    exact h ⟨fi', e⟩
theorem s_call0 {f : Str} {p pos : Pos} (hK : X.K = G.K) (hf : ∀ f fi, Γ.fn f = some fi → ∃ k, Room k X.A ∧ FnIs X.prog X.w X.K X.mg X.base k f fi) (px : ∀ σ, PassesAt (L2.CX X.prog X.w) X σ (WR X.mg G R σ)) (hg : Gl X f) (hd : (f == ("__debug__" : Str)) = false) :
    PE X (.Call (.Name f p) [] [] pos) (tE Γ R G (.call f .nil)) := by
  by_cases h : ∃ fi, Γ.fn f = some fi
  · obtain ⟨fi, h⟩ := h
    obtain ⟨k, hr, ⟨adr, fd, ps, F, hm, hk, hb⟩⟩ := hf f fi h
    refine ⟨fun pins s σ H Q I ⟨Z, env, Q0, hR, hw, hq⟩ => ?_⟩
    obtain ⟨fi', e, hw⟩ := (show ∃ fi, Γ.fn f = some fi ∧ _ from hw)
    rw [h] at e; cases e
    refine wpAny_Call_Name_kw (ld_glob I hg hm ?_ hd)
    refine PySem.W.callWith_K0 I.kIn hk (run_fnS (us := []) F hr hb (px σ) I .nil ?_)
    have hw : (match fi.io with
        | [] => (fun (rs : List Rv) e1 => (bos rs).Nodup ∧ rdC fi.io rs e1 fun ds => fi.sp ds (fun r fins => Q0 r (putB fi.io rs fins e1)) (fun x fins => R x (putB fi.io rs fins e1))) [] env
        | _ => False) := hw
    split at hw
    · exact call_sem hK hR .refl .nil .nil hw.1 hw.2 hq
    · exact hw.elim
  · refine pe_no fun σ H Q ⟨Z, env, Q0, hR, hw, hq⟩ => ?_
    obtain ⟨fi', e, hw⟩ := (show ∃ fi, Γ.fn f = some fi ∧ _ from hw)
    exact h ⟨fi', e⟩
end
end TG
end
section
namespace TG
open PySem PySem.Spec PyProof.Rows L2

section
variable {Γ : Ga} {R : XP} {G : Gh} {X : Cx} {σ σ' : L2.St} {Z Z' Zs : Addr → Prop} {H H' Hs : Hp} {env env' env2 envs : Env} {N bl : List Str} {sc : Scope} {v : V} {a : Addr}
/-- a thing's new parts, wherever its heap goes -/
def NewTop (K : PySem.W.Frag) (Z : Addr → Prop) (H : Hp) (a : Addr) (o : HO) (d : D) : Prop := ∀ H', (∀ b u, b ≠ a → H b = some u → H' b = some u) → H' a = some o → (∀ b, Z b → b ≠ a) → Top K Z H' a d
theorem dset_ok (hu : X.A.units + 64 < cLine) : ∃ t : TSet, PSet X t ∧
    (∀ (Z : Addr → Prop) (H : Hp) (a : Addr) (d : D) (y v : V) (dy dv : D) (Kp : D → Prop) (Q : Hp → Prop), Top X.K Z H a d → RepT X.K Z H y dy → Rep X.K Z H v dv → d.isDtt = false → dSet d dy dv Kp → (∀ d' o, Kp d' → NewTop X.K Z H a o d' → Q (upd H a o)) → t (.ref a) y v H Q) ∧
    ∀ (Z : Addr → Prop) (H : Hp) (a b : Addr) (d : D) (v : V) (ws : List V) (ds : List D) (dv : D) (Kp : D → Prop) (Q : Hp → Prop), Top X.K Z H a d → H b = some (.tup ws) → Reps X.K Z H ws ds → Rep X.K Z H v dv → d.isDtt = true → dSet d (.tup ds) dv Kp → (∀ d' o, Kp d' → NewTop X.K Z H a o d' → Q (upd H a o)) → t (.ref a) (.ref b) v H Q := by
  refine ⟨fun o i v H Q => rSetL o i v H Q ∨ rSetD o i v H Q, fun pins s σ H o i v ov iv u Q I ro ri rv h => h.elim (fun h => set_list pins s σ H o i v ov iv u Q I ro ri rv h) fun h => set_dict (by omega) pins s σ H o i v ov iv u Q I ro ri rv h,
    fun Z H a d y v dy dv Kp Q ht hy hv hi hd q => ?_, fun Z H a b d v ws ds dv Kp Q ht hb hr hv hi hd q => ?_⟩
  · cases ht with
    | lst h r =>
      cases dy <;> try exact hd.elim
      cases hy.int
      obtain ⟨j, e, hk⟩ := hd
      refine .inl ⟨a, _, _, j, rfl, rfl, h, by rw [r.length]; exact e, q _ _ hk fun H' k e z => .lst e ?_⟩
      have zk : ∀ b u, Z b → H b = some u → H' b = some u := fun b u zb hb => k b u (z b zb) hb
      exact Reps.set (hv.mono (fun _ z => z) zk) j (r.mono (fun _ z => z) zk)
    | dct h r =>
      obtain ⟨k, ek, hl, hk⟩ := hd
      cases hy.key ek
      refine .inr ⟨a, _, rfl, DPut.k h (by rw [r.length]; exact hl), q _ _ hk fun H' kk e z => .dct e ?_⟩
      have zk : ∀ b u, Z b → H b = some u → H' b = some u := fun b u zb hb => kk b u (z b zb) hb
      exact RepKs.put (hv.mono (fun _ z => z) zk) (r.mono (fun _ z => z) zk)
    | dtt h r => cases hi
  · cases ht with
    | lst h r => cases hi
    | dct h r => cases hi
    | dtt h r =>
      obtain ⟨k, ek, hl, hk⟩ := hd
      obtain rfl := hr.keys ek
      refine .inr ⟨a, _, rfl, DPut.t h hb (by rw [r.length]; exact hl), q _ _ hk fun H' kk e z => .dtt e ?_⟩
      have zk : ∀ b u, Z b → H b = some u → H' b = some u := fun b u zb hb => kk b u (z b zb) hb
      exact RepTs.put (hv.mono (fun _ z => z) zk) (r.mono (fun _ z => z) zk)

mutual
def Tg.nms : Tg → List Nat
  | .nm i => [i]
  | .sub _ _ => []
  | .tp ts => ts.nms
  | .nil => []
  | .cons a b => a.nms ++ b.nms
end
structure TStp (vs : List Nat) (σ : L2.St) (Z : Addr → Prop) (H : Hp) (env : Env) (σ' : L2.St) (H' : Hp) (env' : Env) : Prop where
  stp : Stp σ Z H env Z H' env'
  off : ∀ i, i ∉ vs → σ'[i]? = σ[i]?
  own : ∀ i, own env' i → σ'[i]? = σ[i]?
  len : σ'.length = σ.length
theorem Stp.sig (h : ∀ i, own env i → σ'[i]? = σ[i]?) (s : Stp σ' Z H env Z' H' env') : Stp σ Z H env Z' H' env' := by
  have eq : ∀ b, Ow σ env b ↔ Ow σ' env b := fun b => ⟨fun ⟨i, o, e⟩ => ⟨i, o, by rw [h i o]; exact e⟩, fun ⟨i, o, e⟩ => ⟨i, o, by rw [← h i o]; exact e⟩⟩
  exact ⟨⟨s.grow.zz, fun b z => (s.grow.zn b z).imp id (Or.imp (eq b).mpr id), fun b o e n => s.grow.hk b o e fun q => n ((eq b).mpr q), s.grow.tr⟩, s.sub⟩
theorem TStp.trans {vs ws : List Nat} {σ2 : L2.St} {H2 : Hp} (s1 : TStp vs σ Z H env σ' H' env') (s2 : TStp ws σ' Z H' env' σ2 H2 env2) : TStp (vs ++ ws) σ Z H env σ2 H2 env2 :=
  ⟨s1.stp.trans (s2.stp.sig s1.own), fun i h => (s2.off i fun q => h (List.mem_append_right _ q)).trans (s1.off i fun q => h (List.mem_append_left _ q)), fun i o => (s2.own i o).trans (s1.own i (s2.stp.sub i o)), s2.len.trans s1.len⟩
theorem TStp.refl : TStp [] σ Z H env σ H env := ⟨.refl, fun _ _ => rfl, fun _ _ => rfl, rfl⟩
def tG (G : Gh) (tg : Tg) : TG := fun x σ H Q => ∃ Z env d Q0, Rel G σ Z H env ∧ Rep G.K Z H x d ∧ bindT tg d env Q0 ∧ ∀ env' σ' H', Rel G σ' Z H' env' → TStp tg.nms σ Z H env σ' H' env' → Q0 env' → Q σ' H'
def tGs (G : Gh) (tg : Tg) : TGs := fun xs σ H Q => ∃ Z env ds Q0, Rel G σ Z H env ∧ Reps G.K Z H xs ds ∧ bindTs tg ds env Q0 ∧ ∀ env' σ' H', Rel G σ' Z H' env' → TStp tg.nms σ Z H env σ' H' env' → Q0 env' → Q σ' H'
theorem pg_imp {e : Expr} {t t' : TG} (h : PG X e t) (i : ∀ x σ H Q, t' x σ H Q → t x σ H Q) : PG X e t' := ⟨fun pins s σ H v u Q I r hw => h.run pins s σ H v u Q I r (i v σ H Q hw)⟩
theorem pgs_imp {e : List Expr} {t t' : TGs} (h : PGs X e t) (i : ∀ x σ H Q, t' x σ H Q → t x σ H Q) : PGs X e t' := ⟨fun pins s σ H v u Q I r hw => h.run pins s σ H v u Q I r (i v σ H Q hw)⟩
theorem stS_im {j : Nat} {d : D} {Q0 : Env → Prop} (Rl : Rel G σ Z H env) (r : Rep G.K Z H v d) (w : stS j (.im d) env Q0) : Rel G (σ.set j (some v)) Z H (env.set j (.im d)) ∧ TStp [j] σ Z H env (σ.set j (some v)) H (env.set j (.im d)) ∧ Q0 (env.set j (.im d)) := by
  have sg : ∀ i, i ≠ j → (σ.set j (some v))[i]? = σ[i]? := fun i h => List.getElem?_set_ne (Ne.symm h)
  have ts : TStp [j] σ Z H env (σ.set j (some v)) H (env.set j (.im d)) := ⟨⟨Stp.refl.grow, fun i h => (own_set_im h).1⟩, fun i h => sg i (by simpa using h), fun i o => sg i (own_set_im o).2, List.length_set⟩
  have n : (∀ d, env[j]? ≠ some (Sl.io d)) ∧ Q0 (env.set j (.im d)) := by
    unfold stS at w
    split at w
    · exact w.elim
    · exact w.elim
    · exact w.elim
    · next h _ _ => exact ⟨fun d e => h d e, w⟩
  exact ⟨Rl.setIm n.1 r, ts, n.2⟩
theorem g_name {j : Nat} {x : Str} {pos : Pos} (hN : X.N.Nodup) (hi : X.N[j]? = some x) (hx : Loc X.env.scope x) (hf : X.fn x = true ∨ X.env.scope.names.lookup x = some .local) : PG X (.Name x pos) (tG G (.nm j)) := by
  refine pg_imp (pg_name hN hi hx hf) fun x σ H Q ⟨Z, env, d, Q0, hR, r, hw, hq⟩ => ?_
  obtain ⟨R1, t1, w1⟩ := stS_im hR r (by simpa only [bindT] using hw)
  exact hq _ _ _ R1 t1 w1
/-- a store into slot i's own thing -/
theorem wr_ok {i : Nat} {f : D → (D → Prop) → Prop} {K : Env → Prop} {Q : Hp → Prop} (Rl : Rel G σ Z H env) (w : wrS i env f K) :
    ∃ d a Kp, σ[i]? = some (some (V.ref a)) ∧ Top G.K Z H a d ∧ f d Kp ∧ ∀ d' o, Kp d' → NewTop G.K Z H a o d' → ∃ env', Rel G σ Z (upd H a o) env' ∧ Stp σ Z H env Z (upd H a o) env' ∧ K env' := by
  unfold wrS at w
  split at w
  · next d h =>
    obtain ⟨a, e, _, _, t⟩ := Rl.ow i d h
    have oa : Ow σ env a := ⟨i, ⟨d, .inl h⟩, e⟩
    refine ⟨d, a, _, e, t, w, fun d' o k n => ?_⟩
    obtain ⟨R1, S1⟩ := Rl.write (a := a) (o := o) h (.inl ⟨rfl, rfl⟩) e fun H' hk ho => n H' hk ho fun b zb q => Rl.nO zb (by rw [q]; exact oa)
    exact ⟨_, R1, S1, k⟩
  · next d h =>
    obtain ⟨e, _, _, t⟩ := Rl.io i d h
    have oa : Ow σ env (G.ad i) := ⟨i, ⟨d, .inr h⟩, e⟩
    refine ⟨d, _, _, e, t, w, fun d' o k n => ?_⟩
    obtain ⟨R1, S1⟩ := Rl.write (a := G.ad i) (o := o) h (.inr ⟨rfl, rfl⟩) e fun H' hk ho => n H' hk ho fun b zb q => Rl.nO zb (by rw [q]; exact oa)
    exact ⟨_, R1, S1, k⟩
  · exact w.elim
theorem g_sub {i : Nat} {k : Int} {x : Str} {pos p2 : Pos} {j p3} (hu : X.A.units + 64 < cLine) (hK : X.K = G.K) (hN : X.N[i]? = some x) (hv : Vis X.env.scope x) (hd : (x == ("__debug__" : Str)) = false) (hcd : (x == ("__classdict__" : Str)) = false) :
    PG X (.Subscript (.Name x p2) (.Constant (.int k) j p3) pos) (tG G (.sub i k)) := by
  obtain ⟨t, ht, s1, _⟩ := dset_ok (X := X) hu
  rw [hK] at s1
  refine pg_imp (pg_sub (pe_var hN hv hd hcd) pe_int ht) fun x σ H Q ⟨Z, env, d, Q0, hR, r, hw, hq⟩ => ?_
  have hw : wrS i env (fun x f => dSet x (.int k) d f) Q0 := by simpa only [bindT] using hw
  obtain ⟨c, a, Kp, es, tp, hf, fin⟩ := wr_ok (Q := fun _ => True) hR hw
  refine ⟨_, es, s1 Z H a c _ x (.int k) d Kp _ tp (.inl (.int k)) r ?_ hf fun d' o k n => ?_⟩
  · cases c <;> first | rfl | exact hf.elim
  · obtain ⟨env', R1, S1, w1⟩ := fin d' o k n
    exact hq _ _ _ R1 ⟨S1, fun _ _ => rfl, fun _ _ => rfl, rfl⟩ w1
theorem g_tup {ts : Tg} {es : List Expr} {k : Nat} {n : Nat} {pos : Pos} (hc : X.calm = true) (hK : X.K = G.K) (hl : ts.len = n) (h : PGs X es (tGs G ts)) (hn : (assignEach es X.env).length = n) (hst : (assignEach es X.env).findIdx? (·.1) = none) : PG X (.Tuple es k pos) (tG G (.tp ts)) := by
  refine pg_imp (pg_tup hc h hn hst) fun x σ H Q ⟨Z, env, d, Q0, hR, r, hw, hq⟩ => ?_
  cases d <;> simp only [bindT] at hw
  · obtain ⟨a, vs, rfl, h1, r1⟩ := (RepT.of r).tup
    exact ⟨a, vs, rfl, by rw [hK]; exact h1.sq, by rw [r1.length]; exact hw.1.trans hl, Z, env, _, Q0, hR, r1, hw.2, hq⟩
theorem g_nil : PGs X [] (tGs G .nil) := by
  refine pgs_imp pgs_nil fun x σ H Q ⟨Z, env, ds, Q0, hR, r, hw, hq⟩ => ?_
  cases r with
  | nil => exact ⟨rfl, hq _ _ _ hR .refl (by simpa only [bindTs] using hw)⟩
  | cons _ _ => simp only [bindTs] at hw
theorem g_cons {a b : Tg} {e : Expr} {es : List Expr} (h1 : PG X e (tG G a)) (h2 : PGs X es (tGs G b)) (hs : (assignEach (e :: es) X.env).map (·.2) = assign e X.env :: (assignEach es X.env).map (·.2)) : PGs X (e :: es) (tGs G (.cons a b)) := by
  refine pgs_imp (pgs_cons h1 h2 hs) fun x σ H Q ⟨Z, env, ds, Q0, hR, r, hw, hq⟩ => ?_
  cases r with
  | nil => simp only [bindTs] at hw
  | cons r1 rr =>
    simp only [bindTs] at hw
    refine ⟨_, _, rfl, Z, env, _, _, hR, r1, hw, fun env1 σ1 H1 R1 t1 w1 => ⟨Z, env1, _, _, R1, t1.stp.reps hR rr, w1, fun env2 σ2 H2 R2 t2 w2 => hq _ _ _ R2 ?_ w2⟩⟩
    have := t1.trans t2
    simpa only [Tg.nms] using this
def isLoc (sc : Scope) (ow : Str → Bool) (x : Str) : Bool := match sc.names.lookup x with
  | some .local => true
  | some .cell => ow x
  | _ => false
def isVis (sc : Scope) (x : Str) : Bool := match sc.names.lookup x with
  | some .local => true
  | some .cell => true
  | some .free => true
  | _ => false
def okN (x : Str) : Bool := !(x == ("__debug__" : Str)) && !(x == ("__classdict__" : Str))
theorem isLoc_of {x : Str} {ow : Str → Bool} (h : isLoc sc ow x = true) : sc.names.lookup x = some .local ∨ (sc.names.lookup x = some .cell ∧ ow x = true) := by
  unfold isLoc at h
  split at h
  · exact .inl (by assumption)
  · exact .inr ⟨by assumption, h⟩
  · cases h
theorem isVis_of {x : Str} (h : isVis sc x = true) : Vis sc x := by
  unfold isVis at h
  split at h
  · exact .inl (by assumption)
  · exact .inr (.inl (by assumption))
  · exact .inr (.inr (by assumption))
  · cases h
theorem okN_of {x : Str} (h : okN x = true) : (x == ("__debug__" : Str)) = false ∧ (x == ("__classdict__" : Str)) = false := by
  unfold okN at h
  simpa using h
mutual
/-- the target as written -/
def mT (N : List Str) (sc : Scope) (ow : Str → Bool) : Tg → Expr → Bool
  | .nm i, .Name x _ => decide (N[i]? = some x) && isLoc sc ow x
  | .sub i k, .Subscript (.Name x _) (.Constant (.int k') _ _) _ => decide (N[i]? = some x) && isVis sc x && okN x && decide (k = k')
  | .tp ts, .Tuple es _ _ => mTs N sc ow ts es
  | _, _ => false
def mTs (N : List Str) (sc : Scope) (ow : Str → Bool) : Tg → List Expr → Bool
  | .nil, [] => true
  | .cons a b, e :: es => mT N sc ow a e && mTs N sc ow b es
  | _, _ => false
end
theorem mT_star {N : List Str} {sc : Scope} {ow : Str → Bool} {a : Tg} {e : Expr} {es : List Expr} {E : PySem.Env} (h : mT N sc ow a e = true) : assignEach (e :: es) E = (false, assign e E) :: assignEach es E := by
  cases e <;> first | rfl | (cases a <;> simp [mT] at h)
theorem mTs_star {E : PySem.Env} {N : List Str} {sc : Scope} {ow : Str → Bool} : ∀ {ts : Tg} {es : List Expr}, mTs N sc ow ts es = true → (assignEach es E).length = es.length ∧ (assignEach es E).findIdx? (·.1) = none ∧ ts.len = es.length
  | .nil, [], _ => ⟨rfl, rfl, rfl⟩
  | .cons a b, e :: es, h => by
    simp only [mTs, Bool.and_eq_true] at h
    obtain ⟨h1, h2, h3⟩ := mTs_star (E := E) h.2
    rw [mT_star h.1]
    exact ⟨by rw [List.length_cons, List.length_cons, h1], by rw [List.findIdx?_cons, h2]; rfl, by rw [Tg.len, List.length_cons, h3]⟩
  | .nil, _ :: _, h => by simp [mTs] at h
  | .cons _ _, [], h => by simp [mTs] at h
  | .nm _, _, h => by simp [mTs] at h
  | .sub _ _, _, h => by simp [mTs] at h
  | .tp _, _, h => by simp [mTs] at h
/-- what targets need of the context -/
structure TOk (N : List Str) (sc : Scope) (ow : Str → Bool) (G : Gh) (X : Cx) : Prop where
  hN : X.N = N
  nd : N.Nodup
  hsc : X.env.scope = sc
  calm : X.calm = true
  hK : X.K = G.K
  un : X.A.units + 64 < cLine
  cell : ∀ x, ow x = true → X.fn x = true
mutual
theorem tg_ok {ow : Str → Bool} (h : TOk N sc ow G X) : ∀ (t : Tg) (e : Expr), mT N sc ow t e = true → PG X e (tG G t)
  | .nm i, .Name x _, m => by
    simp only [mT, Bool.and_eq_true, decide_eq_true_eq] at m
    have l := isLoc_of m.2
    refine g_name (by rw [h.hN]; exact h.nd) (by rw [h.hN]; exact m.1) (by rw [h.hsc]; exact l.imp id And.left) ?_
    rcases l with l | l
    · exact .inr (by rw [h.hsc]; exact l)
    · exact .inl (h.cell _ l.2)
  | .sub i k, .Subscript (.Name x _) (.Constant (.int k') _ _) _, m => by
    simp only [mT, Bool.and_eq_true, decide_eq_true_eq] at m
    obtain ⟨⟨⟨m1, m2⟩, m3⟩, m4⟩ := m
    subst m4
    obtain ⟨d1, d2⟩ := okN_of m3
    exact g_sub h.un h.hK (by rw [h.hN]; exact m1) (by rw [h.hsc]; exact isVis_of m2) d1 d2
  | .tp ts, .Tuple es _ _, m => by
    have m : mTs N sc ow ts es = true := by simpa only [mT] using m
    obtain ⟨h1, h2, h3⟩ := mTs_star (E := X.env) m
    exact g_tup h.calm h.hK h3 (tgs_ok h ts es m) h1 h2
  | .nil, e, m => by cases e <;> simp [mT] at m
  | .cons _ _, e, m => by cases e <;> simp [mT] at m
theorem tgs_ok {ow : Str → Bool} (h : TOk N sc ow G X) : ∀ (t : Tg) (es : List Expr), mTs N sc ow t es = true → PGs X es (tGs G t)
  | .nil, [], _ => g_nil
  | .cons a b, e :: es, m => by
    simp only [mTs, Bool.and_eq_true] at m
    exact g_cons (tg_ok h a e m.1) (tgs_ok h b es m.2) (by rw [mT_star m.1]; rfl)
  | .nil, _ :: _, m => by simp [mTs] at m
  | .cons _ _, [], m => by simp [mTs] at m
  | .nm _, _, m => by simp [mTs] at m
  | .sub _ _, _, m => by simp [mTs] at m
  | .tp _, _, m => by simp [mTs] at m
end
end
end TG
end
section
namespace TG
open PySem PySem.Spec PyProof.Rows L2

section
variable {Γ : Ga} {R : XP} {G : Gh} {X : Cx} {σ σ' : L2.St} {Z Z' Zs : Addr → Prop} {H H' Hs : Hp} {env env' env2 envs : Env} {v : V} {d : D} {a : Addr} {is js : List Nat}
def Src (G : Gh) (σ : L2.St) (Z : Addr → Prop) (H : Hp) (env : Env) (is : List Nat) (v : V) (d : D) : Prop :=
  Rep G.K Z H v d ∨ ∃ i ∈ is, σ[i]? = some (some v) ∧ (env[i]? = some (Sl.ow d) ∨ env[i]? = some (Sl.io d))
structure Ltr (G : Gh) (is : List Nat) (σ : L2.St) (Z : Addr → Prop) (H : Hp) (env : Env) (σ' : L2.St) (Z' : Addr → Prop) (H' : Hp) (env' : Env) : Prop where
  rel : Rel G σ' Z' H' env'
  zz : ∀ b, Z b → Z' b
  hk : ∀ b o, Z b → H b = some o → H' b = some o
  st : ∀ i ∈ is, ∀ d, (env[i]? = some (Sl.ow d) ∨ env[i]? = some (Sl.io d)) → (env'[i]? = env[i]? ∧ σ'[i]? = σ[i]?) ∨ ∃ v, env[i]? = some (Sl.ow d) ∧ σ[i]? = some (some v) ∧ Rep G.K Z' H' v d
theorem Src.later (s : Src G σ Z H env is v d) (l : Ltr G is σ Z H env σ' Z' H' env') : RepT G.K Z' H' v d := by
  rcases s with r | ⟨i, hi, e, h⟩
  · exact .inl (r.mono l.zz l.hk)
  · rcases l.st i hi d h with ⟨e1, e2⟩ | ⟨w, e1, e2, r⟩
    · rw [← e1] at h
      rcases h with h | h
      · obtain ⟨a, q, _, _, t⟩ := l.rel.ow i d h
        rw [e2, e] at q; cases q
        exact .inr ⟨a, rfl, .inl t⟩
      · obtain ⟨q, _, _, t⟩ := l.rel.io i d h
        rw [e2, e] at q; cases q
        exact .inr ⟨_, rfl, .inl t⟩
    · rw [e] at e2; cases e2
      exact .inl r
theorem Src.sub (s : Src G σ Z H env is v d) (h : ∀ i ∈ is, i ∈ js) : Src G σ Z H env js v d := s.imp id fun ⟨i, hi, q⟩ => ⟨i, h i hi, q⟩
/-- a value that is new is kept for good at once -/
theorem src_pre {Z0 : Addr → Prop} {H0 : Hp} {env0 : Env} (Rl : Rel G σ Z H env) {r : Rv} {v : V} (S : Stp σ Z0 H0 env0 Z H env) (V1 : RepR G σ Z H env r v) (nw : RepN H0 r v) :
    ∃ Z' r', Rel G σ Z' H env ∧ Stp σ Z0 H0 env0 Z' H env ∧ RepR G σ Z' H env r' v ∧ ∀ {e2 : Env} {Z2 : Addr → Prop} {H2 : Hp} {K : List Nat → D → Prop}, Rel G σ Z2 H2 e2 → RepR G σ Z2 H2 e2 r' v → srcR r e2 K → ∃ is d, Src G σ Z2 H2 e2 is v d ∧ K is d := by
  cases r with
  | im d => exact ⟨Z, .im d, Rl, S, V1, fun R2 V2 w => ⟨_, d, .inl V2, w⟩⟩
  | fr d =>
    obtain ⟨a, rfl, nz, no, h0, t⟩ := V1
    exact ⟨Zi Z a, .im d, Rl.freeze no h0 t.mut, ⟨⟨fun b z => .inl (S.grow.zz b z), fun b z => z.elim (S.grow.zn b) fun q => .inr (.inr (by rw [q]; exact nw a rfl)), S.grow.hk, S.grow.tr⟩, S.sub⟩, t.rep (fun _ z => .inl z) (.inr rfl), fun R2 V2 w => ⟨_, d, .inl V2, w⟩⟩
  | bo i =>
    refine ⟨Z, .bo i, Rl, S, V1, fun {e2 Z2 H2 K} R2 V2 w => ?_⟩
    have V1 : σ[i]? = some (some v) := V2
    unfold srcR at w
    simp only at w
    split at w
    · next d h => exact ⟨_, d, .inr ⟨i, by simp, V1, .inl h⟩, w⟩
    · next d h => exact ⟨_, d, .inr ⟨i, by simp, V1, .inr h⟩, w⟩
    · next d h =>
      obtain ⟨u, e, t⟩ := R2.im i d h
      rw [V1] at e; cases e
      exact ⟨_, d, .inl t, w⟩
    · exact w.elim
def WalkOk (G : Gh) (is : List Nat) (its : List D) (J : It) (σ : L2.St) (Z : Addr → Prop) (H : Hp) (env : Env) : Prop := ∀ σ' Z' H' env', Ltr G is σ Z H env σ' Z' H' env' →
  (∀ i d, its[i]? = some d → J.go i H' ∧ ∀ x H'', J.yld i H' x H'' → ∃ Z'', Rel G σ' Z'' H'' env' ∧ Stp σ' Z' H' env' Z'' H'' env' ∧ Rep G.K Z'' H'' x d) ∧ J.stop its.length H'
def tI (Γ : Ga) (R : XP) (G : Gh) (ex : Ex) : TI := fun σ H Rz => ∃ Z env Q0, Rel G σ Z H env ∧ wpI Γ R ex env Q0 ∧ ∀ is its env' J Z' H', Rel G σ Z' H' env' → Stp σ Z H env Z' H' env' → WalkOk G is its J σ Z' H' env' → Q0 is its env' → Rz J H'
theorem pi_imp {tg e : Expr} {t t' : TI} (h : PI X tg e t) (i : ∀ σ H Q, t' σ H Q → t σ H Q) : PI X tg e t' := ⟨fun pins s σ H Q I hw => h.run pins s σ H Q I (i σ H Q hw)⟩
theorem RepT.seq {ds : List D} (h : RepT G.K Z H v d) (e : seqD d = some ds) : ∃ k a vs, v = .ref a ∧ SqX G.K k H a vs ∧ Reps G.K Z H vs ds ∧ (k = true ↔ d = .lst ds) := by
  cases d <;> simp [seqD] at e
  · subst e
    obtain ⟨a, vs, rfl, h1, r⟩ := h.tup
    exact ⟨false, a, vs, rfl, h1.sq, r, by simp⟩
  · subst e
    obtain ⟨a, vs, rfl, h1, r⟩ := h.lst
    exact ⟨true, a, vs, rfl, SqL.of h1, r, by simp⟩
theorem sqx_of {ds : List D} {k : Bool} (hk : k = true ↔ d = .lst ds) (e : seqD d = some ds) (h : RepT G.K Z H (.ref a) d) : ∃ vs, SqX G.K k H a vs ∧ Reps G.K Z H vs ds := by
  obtain ⟨k', b, vs, e1, h1, r, hk'⟩ := h.seq e
  cases e1
  have : k = k' := by
    cases k <;> cases k' <;> simp_all
  subst this
  exact ⟨vs, h1, r⟩

theorem s_iany {b : Ex} {tg e : Expr} (hK : X.K = G.K) (hne : ∀ env Q, wpI Γ R b env Q → wpE Γ R b env fun r e1 => srcR r e1 fun is x => ∃ xs, itD x = some xs ∧ Q is xs e1) (ha : PE X e (tE Γ R G b)) : PI X tg e (tI Γ R G b) := by
  refine pi_imp (pi_any ha) fun σ H Q ⟨Z, env, Q0, hR, hw, hq⟩ => ?_
  rw [hK]
  refine ⟨Z, env, _, hR, hne _ _ hw, fun r e1 v Z1 H1 R1 S1 V1 N1 w1 => ?_⟩
  obtain ⟨Z2, r', R2, S2, V2, pre⟩ := src_pre R1 S1 V1 N1
  obtain ⟨is, d, sr, xs, ed, w⟩ := pre R2 V2 w1
  have now : Ltr G is σ Z2 H1 e1 σ Z2 H1 e1 := ⟨R2, fun _ z => z, fun _ _ _ h => h, fun _ _ _ _ => .inl ⟨rfl, rfl⟩⟩
  have t0 := sr.later now
  have lst : ∀ {a}, (∀ {σ' Z' H' env'}, Ltr G is σ Z2 H1 e1 σ' Z' H' env' → ∃ vs, SqL G.K H' a vs ∧ Reps G.K Z' H' vs xs) → WalkOk G is xs (Itl G.K a) σ Z2 H1 e1 := fun {a} f σ' Z' H' env' l => by
    obtain ⟨vs, h, r⟩ := f l
    refine ⟨fun i d e => ?_, vs, h, by rw [r.length]; exact Nat.le_refl _⟩
    obtain ⟨x, e1, rx⟩ := r.get e
    refine ⟨⟨vs, x, h, e1⟩, fun y H'' ⟨q1, q2⟩ => ?_⟩
    have q := q2 vs h
    rw [e1] at q; cases q
    subst q1
    exact ⟨Z', l.rel, .refl, rx⟩
  cases d <;> simp [itD] at ed
  · subst ed
    rename_i z
    cases t0.str
    refine .inr (.inr ⟨z, rfl, hq is _ e1 _ Z2 H1 R2 S2 (fun σ' Z' H' env' l => ?_) w⟩)
    refine ⟨fun i d e => ?_, by show z.cps.size ≤ _; simp⟩
    have e : (z.cps.toList.map fun c => D.str ⟨#[c]⟩)[i]? = some d := e
    rw [List.getElem?_map] at e
    obtain ⟨c, ec, rfl⟩ := Option.map_eq_some_iff.mp e
    have ec : z.cps[i]? = some c := by simpa using ec
    refine ⟨(Array.getElem?_eq_some_iff.mp ec).1, fun x H'' ⟨q1, c', q2, q3⟩ => ?_⟩
    rw [ec] at q2; cases q2
    subst q1 q3
    exact ⟨Z', l.rel, .refl, .str _⟩
  · subst ed
    obtain ⟨a, vs, rfl, h1, r⟩ := t0.tup
    refine .inr (.inl ⟨a, vs, rfl, h1.sq, hq is _ e1 _ Z2 H1 R2 S2 (fun σ' Z' H' env' l => ?_) w⟩)
    obtain ⟨a', vs, e, h1, r⟩ := (sr.later l).tup
    cases e
    refine ⟨fun i d e => ?_, vs, h1.sq, by rw [r.length]; exact Nat.le_refl _⟩
    obtain ⟨x, e1, rx⟩ := r.get e
    refine ⟨⟨vs, x, h1.sq, e1⟩, fun y H'' ⟨q1, q2⟩ => ?_⟩
    have q := q2 vs h1.sq
    rw [e1] at q; cases q
    subst q1
    exact ⟨Z', l.rel, .refl, rx⟩
  · subst ed
    obtain ⟨a, vs, rfl, h1, r⟩ := t0.lst
    refine .inl ⟨a, vs, rfl, SqL.of h1, hq is _ e1 _ Z2 H1 R2 S2 (lst fun l => ?_) w⟩
    obtain ⟨a', vs, e, h1, r⟩ := (sr.later l).lst
    cases e
    exact ⟨vs, SqL.of h1, r⟩
  · subst ed
    obtain ⟨a, vs, rfl, h1, r⟩ := t0.scr
    refine .inl ⟨a, vs, rfl, h1, hq is _ e1 _ Z2 H1 R2 S2 (lst fun l => ?_) w⟩
    obtain ⟨a', vs, e, h1, r⟩ := (sr.later l).scr
    cases e
    exact ⟨vs, h1, r⟩
theorem zipD_len : ∀ (xs ys : List D), (zipD xs ys).length = min xs.length ys.length
  | [], ys => by simp [zipD]
  | x :: xs, [] => by simp [zipD]
  | x :: xs, y :: ys => by rw [zipD, List.length_cons, List.length_cons, List.length_cons, zipD_len xs ys]; omega
theorem zipD_get : ∀ {xs ys : List D} {i : Nat} {d : D}, (zipD xs ys)[i]? = some d → ∃ x y, xs[i]? = some x ∧ ys[i]? = some y ∧ d = .tup [x, y]
  | x :: xs, y :: ys, 0, d, e => by simp [zipD] at e; exact ⟨x, y, rfl, rfl, e.symm⟩
  | x :: xs, y :: ys, i + 1, d, e => by
    obtain ⟨u, w, h1, h2, h3⟩ := zipD_get (xs := xs) (ys := ys) (i := i) (d := d) (by simpa [zipD] using e)
    exact ⟨u, w, by simpa using h1, by simpa using h2, h3⟩
  | [], ys, i, d, e => by simp [zipD] at e
  | x :: xs, [], i, d, e => by simp [zipD] at e
theorem zipD3_len : ∀ (xs ys zs : List D), (zipD3 xs ys zs).length = min (min xs.length ys.length) zs.length
  | [], ys, zs => by simp [zipD3]
  | x :: xs, [], zs => by simp [zipD3]
  | x :: xs, y :: ys, [] => by simp [zipD3]
  | x :: xs, y :: ys, z :: zs => by rw [zipD3, List.length_cons, List.length_cons, List.length_cons, List.length_cons, zipD3_len xs ys zs]; omega
theorem zipD3_get : ∀ {xs ys zs : List D} {i : Nat} {d : D}, (zipD3 xs ys zs)[i]? = some d → ∃ x y z, xs[i]? = some x ∧ ys[i]? = some y ∧ zs[i]? = some z ∧ d = .tup [x, y, z]
  | x :: xs, y :: ys, z :: zs, 0, d, e => by simp [zipD3] at e; exact ⟨x, y, z, rfl, rfl, rfl, e.symm⟩
  | x :: xs, y :: ys, z :: zs, i + 1, d, e => by
    obtain ⟨u, w, t, h1, h2, h3, h4⟩ := zipD3_get (xs := xs) (ys := ys) (zs := zs) (i := i) (d := d) (by simpa [zipD3] using e)
    exact ⟨u, w, t, by simpa using h1, by simpa using h2, by simpa using h3, h4⟩
  | [], ys, zs, i, d, e => by simp [zipD3] at e
  | x :: xs, [], zs, i, d, e => by simp [zipD3] at e
  | x :: xs, y :: ys, [], i, d, e => by simp [zipD3] at e
theorem enumD_len : ∀ (n : Nat) (xs : List D), (enumD n xs).length = xs.length
  | n, [] => rfl
  | n, x :: xs => by rw [enumD, List.length_cons, List.length_cons, enumD_len]
theorem enumD_get : ∀ {n : Nat} {xs : List D} {i : Nat} {d : D}, (enumD n xs)[i]? = some d → ∃ x, xs[i]? = some x ∧ d = .tup [.int ((n + i : Nat) : Int), x]
  | n, x :: xs, 0, d, e => by simp [enumD] at e; exact ⟨x, rfl, by rw [← e]; rfl⟩
  | n, x :: xs, i + 1, d, e => by
    obtain ⟨u, h1, h2⟩ := enumD_get (n := n + 1) (xs := xs) (i := i) (d := d) (by simpa [enumD] using e)
    exact ⟨u, by simpa using h1, by rw [h2, show n + 1 + i = n + (i + 1) by omega]⟩
  | n, [], i, d, e => by simp [enumD] at e
theorem s_z2 {b b2 : Ex} {e e2 : Expr} {p pos tpos : Pos} {elts : List Expr} {kk : Nat} (hK : X.K = G.K) (hg : Gl X "zip") (hm : X.mg "zip" = none) (ha : PE X e (tE Γ R G b)) (hb : PE X e2 (tE Γ R G b2))
    (hs : starEach [e, e2] X.env = (false, eval e X.env) :: starEach [e2] X.env) (hs2 : starEach [e2] X.env = (false, eval e2 X.env) :: starEach [] X.env) (hpl : (backTo pos (starEach [e2] X.env)).any (·.1) = false) :
    PI X (.Tuple elts kk tpos) (.Call (.Name "zip" p) [e, e2] [] pos) (tI Γ R G (.zip2 b b2)) := by
  refine pi_imp (pi_z2 hg hm (pa_cons ha (pa_cons hb pa_nil hs2) hs) hs hpl) fun σ H Q ⟨Z, env, Q0, hR, hw, hq⟩ => ?_
  rw [hK]
  refine ⟨Z, env, _, hR, hw, fun r e1 v Z1 H1 R1 S1 V1 N1 w1 => ?_⟩
  obtain ⟨Y1, r', R1, S1, V1, pre1⟩ := src_pre R1 S1 V1 N1
  refine ⟨Y1, e1, _, R1, w1, fun r2 e2 v2 Z2 H2 R2 S2 V2 N2 w2 => ?_⟩
  obtain ⟨Y2, r2', R2, S2, V2, pre2⟩ := src_pre R2 S2 V2 N2
  obtain ⟨is, d, sr, w2⟩ := pre1 R2 (S2.repR R1 V1) w2
  obtain ⟨js, d2, sr2, xs, ys, ex, ey, w2⟩ := pre2 R2 V2 w2
  have sr := sr.sub (js := is ++ js) fun i h => List.mem_append_left _ h
  have sr2 := sr2.sub (js := is ++ js) fun i h => List.mem_append_right _ h
  have now : Ltr G (is ++ js) σ Y2 H2 e2 σ Y2 H2 e2 := ⟨R2, fun _ z => z, fun _ _ _ h => h, fun _ _ _ _ => .inl ⟨rfl, rfl⟩⟩
  obtain ⟨k1, a1, vs1, rfl, q1, rr1, hk1⟩ := (sr.later now).seq ex
  obtain ⟨k2, a2, vs2, rfl, q2, rr2, hk2⟩ := (sr2.later now).seq ey
  refine ⟨a1, a2, k1, k2, vs1, vs2, rfl, q1, q2, hq _ _ e2 _ Y2 H2 R2 (S1.trans S2) (fun σ' Z' H' env' l => ?_) w2⟩
  obtain ⟨us1, p1, t1⟩ := sqx_of hk1 ex (sr.later l)
  obtain ⟨us2, p2, t2⟩ := sqx_of hk2 ey (sr2.later l)
  have l1 := t1.length
  have l2 := t2.length
  refine ⟨fun i d e => ?_, us1, us2, p1, p2, by rw [zipD_len]; omega⟩
  obtain ⟨x, y, g1, g2, rfl⟩ := zipD_get e
  obtain ⟨u1, f1, c1⟩ := t1.get g1
  obtain ⟨u2, f2, c2⟩ := t2.get g2
  refine ⟨⟨us1, us2, p1, p2, (List.getElem?_eq_some_iff.mp f1).1, (List.getElem?_eq_some_iff.mp f2).1⟩, fun z H'' hy => ?_⟩
  obtain ⟨T, x', y', rfl, hT, rfl, hy⟩ := hy
  obtain ⟨o1, o2⟩ := hy us1 us2 p1 p2
  rw [f1] at o1; cases o1
  rw [f2] at o2; cases o2
  obtain ⟨Z3, R3, S3, V3, N3⟩ := (Out.tup hT (.cons c1 (.cons c2 .nil))).run l.rel
  exact ⟨Z3, R3, S3, V3⟩
theorem s_z3 {b b2 b3 : Ex} {e e2 e3 : Expr} {p pos tpos : Pos} {elts : List Expr} {kk : Nat} (hK : X.K = G.K) (hg : Gl X "zip") (hm : X.mg "zip" = none) (ha : PE X e (tE Γ R G b)) (hb : PE X e2 (tE Γ R G b2)) (hb3 : PE X e3 (tE Γ R G b3))
    (hs : starEach [e, e2, e3] X.env = (false, eval e X.env) :: starEach [e2, e3] X.env) (hs2 : starEach [e2, e3] X.env = (false, eval e2 X.env) :: starEach [e3] X.env) (hs3 : starEach [e3] X.env = (false, eval e3 X.env) :: starEach [] X.env) (hpl : (backTo pos (starEach [e2, e3] X.env)).any (·.1) = false) :
    PI X (.Tuple elts kk tpos) (.Call (.Name "zip" p) [e, e2, e3] [] pos) (tI Γ R G (.zip3 b b2 b3)) := by
  refine pi_imp (pi_z3 hg hm (pa_cons ha (pa_cons hb (pa_cons hb3 pa_nil hs3) hs2) hs) hs hpl) fun σ H Q ⟨Z, env, Q0, hR, hw, hq⟩ => ?_
  rw [hK]
  refine ⟨Z, env, _, hR, hw, fun r e1 v Z1 H1 R1 S1 V1 N1 w1 => ?_⟩
  obtain ⟨Y1, r', R1, S1, V1, pre1⟩ := src_pre R1 S1 V1 N1
  refine ⟨Y1, e1, _, R1, w1, fun r2 e2 v2 Z2 H2 R2 S2 V2 N2 w2 => ?_⟩
  obtain ⟨Y2, r2', R2, S2, V2, pre2⟩ := src_pre R2 S2 V2 N2
  refine ⟨Y2, e2, _, R2, w2, fun r3 e3 v3 Z3 H3 R3 S3 V3 N3 w3 => ?_⟩
  obtain ⟨Y3, r3', R3, S3, V3, pre3⟩ := src_pre R3 S3 V3 N3
  obtain ⟨is, d, sr, w3⟩ := pre1 R3 (S3.repR R2 (S2.repR R1 V1)) w3
  obtain ⟨js, d2, sr2, w3⟩ := pre2 R3 (S3.repR R2 V2) w3
  obtain ⟨ks, d3, sr3, xs, ys, zs, ex, ey, ez, w2⟩ := pre3 R3 V3 w3
  have sr := sr.sub (js := is ++ js ++ ks) fun i h => by simp [h]
  have sr2 := sr2.sub (js := is ++ js ++ ks) fun i h => by simp [h]
  have sr3 := sr3.sub (js := is ++ js ++ ks) fun i h => by simp [h]
  have now : Ltr G (is ++ js ++ ks) σ Y3 H3 e3 σ Y3 H3 e3 := ⟨R3, fun _ z => z, fun _ _ _ h => h, fun _ _ _ _ => .inl ⟨rfl, rfl⟩⟩
  obtain ⟨k1, a1, vs1, rfl, q1, rr1, hk1⟩ := (sr.later now).seq ex
  obtain ⟨k2, a2, vs2, rfl, q2, rr2, hk2⟩ := (sr2.later now).seq ey
  obtain ⟨k3, a3, vs3, rfl, q3, rr3, hk3⟩ := (sr3.later now).seq ez
  refine ⟨a1, a2, a3, k1, k2, k3, vs1, vs2, vs3, rfl, q1, q2, q3, hq _ _ e3 _ Y3 H3 R3 ((S1.trans S2).trans S3) (fun σ' Z' H' env' l => ?_) w2⟩
  obtain ⟨us1, p1, t1⟩ := sqx_of hk1 ex (sr.later l)
  obtain ⟨us2, p2, t2⟩ := sqx_of hk2 ey (sr2.later l)
  obtain ⟨us3, p3, t3⟩ := sqx_of hk3 ez (sr3.later l)
  have l1 := t1.length
  have l2 := t2.length
  have l3 := t3.length
  refine ⟨fun i d e => ?_, us1, us2, us3, p1, p2, p3, by rw [zipD3_len]; omega⟩
  obtain ⟨x, y, z, g1, g2, g3, rfl⟩ := zipD3_get e
  obtain ⟨u1, f1, c1⟩ := t1.get g1
  obtain ⟨u2, f2, c2⟩ := t2.get g2
  obtain ⟨u3, f3, c3⟩ := t3.get g3
  refine ⟨⟨us1, us2, us3, p1, p2, p3, (List.getElem?_eq_some_iff.mp f1).1, (List.getElem?_eq_some_iff.mp f2).1, (List.getElem?_eq_some_iff.mp f3).1⟩, fun z H'' hy => ?_⟩
  obtain ⟨T, x', y', z', rfl, hT, rfl, hy⟩ := hy
  obtain ⟨o1, o2, o3⟩ := hy us1 us2 us3 p1 p2 p3
  rw [f1] at o1; cases o1
  rw [f2] at o2; cases o2
  rw [f3] at o3; cases o3
  obtain ⟨Z3, R3, S3, V3, N3⟩ := (Out.tup hT (.cons c1 (.cons c2 (.cons c3 .nil)))).run l.rel
  exact ⟨Z3, R3, S3, V3⟩
theorem s_en {b : Ex} {e : Expr} {p pos tpos : Pos} {elts : List Expr} {kk : Nat} (hK : X.K = G.K) (hg : Gl X "enumerate") (hm : X.mg "enumerate" = none) (ha : PE X e (tE Γ R G b))
    (hs : starEach [e] X.env = [(false, eval e X.env)]) : PI X (.Tuple elts kk tpos) (.Call (.Name "enumerate" p) [e] [] pos) (tI Γ R G (.enum b)) := by
  refine pi_imp (pi_en hg hm (pa_cons ha pa_nil hs) hs) fun σ H Q ⟨Z, env, Q0, hR, hw, hq⟩ => ?_
  rw [hK]
  refine ⟨Z, env, _, hR, hw, fun r e1 v Z1 H1 R1 S1 V1 N1 w1 => ?_⟩
  obtain ⟨Y1, r', R1, S1, V1, pre1⟩ := src_pre R1 S1 V1 N1
  obtain ⟨is, d, sr, xs, ex, w2⟩ := pre1 R1 V1 w1
  have now : Ltr G is σ Y1 H1 e1 σ Y1 H1 e1 := ⟨R1, fun _ z => z, fun _ _ _ h => h, fun _ _ _ _ => .inl ⟨rfl, rfl⟩⟩
  obtain ⟨k1, a1, vs1, rfl, q1, rr1, hk1⟩ := (sr.later now).seq ex
  refine ⟨a1, k1, vs1, rfl, q1, hq _ _ e1 _ Y1 H1 R1 S1 (fun σ' Z' H' env' l => ?_) w2⟩
  obtain ⟨us1, p1, t1⟩ := sqx_of hk1 ex (sr.later l)
  have l1 := t1.length
  refine ⟨fun i d e => ?_, us1, p1, by rw [enumD_len]; omega⟩
  obtain ⟨x, g1, rfl⟩ := enumD_get e
  obtain ⟨u1, f1, c1⟩ := t1.get g1
  refine ⟨⟨us1, p1, (List.getElem?_eq_some_iff.mp f1).1⟩, fun z H'' hy => ?_⟩
  obtain ⟨T, x', rfl, hT, rfl, hy⟩ := hy
  have o1 := hy us1 p1
  rw [f1] at o1; cases o1
  rw [Nat.zero_add]
  obtain ⟨Z3, R3, S3, V3, N3⟩ := (Out.tup hT (.cons (.int _) (.cons c1 .nil))).run l.rel
  exact ⟨Z3, R3, S3, V3⟩
theorem rng_ok (m : Int) (n : Nat) : WalkOk G [] ((List.range n).map fun (k : Nat) => D.int (m + k)) (Itr m n) σ Z H env := fun σ' Z' H' env' l => by
  refine ⟨fun i d e => ?_, by show n ≤ _; simp⟩
  rw [List.getElem?_map] at e
  obtain ⟨k, ek, rfl⟩ := Option.map_eq_some_iff.mp e
  obtain ⟨h1, h2⟩ := List.getElem?_eq_some_iff.mp ek
  rw [List.getElem_range] at h2
  subst h2
  refine ⟨by show i < n; simpa using h1, fun x H'' ⟨q1, q2⟩ => ?_⟩
  subst q1 q2
  exact ⟨Z', l.rel, .refl, .int _⟩
theorem s_r1 {b : Ex} {tg e : Expr} {p pos : Pos} (hg : Gl X "range") (hm : X.mg "range" = none) (ha : PE X e (tE Γ R G b)) (hs : starEach [e] X.env = [(false, eval e X.env)]) : PI X tg (.Call (.Name "range" p) [e] [] pos) (tI Γ R G (.rng1 b)) := by
  refine pi_imp (pi_range1 hg hm (pa_cons ha pa_nil hs) hs) fun σ H Q ⟨Z, env, Q0, hR, hw, hq⟩ => ?_
  refine ⟨Z, env, _, hR, hw, fun r e1 v Z1 H1 R1 S1 V1 N1 w1 => ?_⟩
  obtain ⟨d, t, n, rfl, ⟨h1, h2⟩, w⟩ := rd_ok R1 V1 w1
  cases t.int
  refine ⟨n, rfl, h1, h2, hq _ _ e1 _ Z1 H1 R1 S1 ?_ w⟩
  have := rng_ok (G := G) (σ := σ) (Z := Z1) (H := H1) (env := e1) 0 n.toNat
  simpa using this
theorem s_r2 {b b2 : Ex} {tg e e2 : Expr} {p pos : Pos} (hg : Gl X "range") (hm : X.mg "range" = none) (ha : PE X e (tE Γ R G b)) (hb : PE X e2 (tE Γ R G b2)) (hs : starEach [e, e2] X.env = [(false, eval e X.env), (false, eval e2 X.env)]) (hs2 : starEach [e2] X.env = [(false, eval e2 X.env)]) :
    PI X tg (.Call (.Name "range" p) [e, e2] [] pos) (tI Γ R G (.rng2 b b2)) := by
  refine pi_imp (pi_range2 hg hm (pa_cons ha (pa_cons hb pa_nil hs2) (by rw [hs, hs2])) hs hs2) fun σ H Q ⟨Z, env, Q0, hR, hw, hq⟩ => ?_
  refine ⟨Z, env, _, hR, hw, fun r e1 v Z1 H1 R1 S1 V1 N1 w1 => ⟨Z1, e1, _, R1, w1, fun r2 e2 v2 Z2 H2 R2 S2 V2 N2 w2 => ?_⟩⟩
  obtain ⟨d, t, w2⟩ := rd_ok R2 (S2.repR R1 V1) w2
  obtain ⟨d2, t2, m, n, rfl, rfl, hb, w⟩ := rd_ok R2 V2 w2
  cases t.int
  cases t2.int
  exact ⟨m, n, rfl, hb, hq _ _ e2 _ Z2 H2 R2 (S1.trans S2) (rng_ok m _) w⟩
end
end TG
end
section
namespace TG
open PySem PySem.Spec PyProof.Rows L2

section
variable {Γ : Ga} {R : XP} {G : Gh} {X : Cx} {σ σ' : L2.St} {Z Z' Zs : Addr → Prop} {H H' Hs : Hp} {env env' env2 envs : Env} {v : V} {d : D} {a : Addr} {is js vs : List Nat}
theorem Rel.part (Rl : Rel G σ Z H env) (hl : env'.length = σ'.length) (h : ∀ (i : Nat) (s : Sl), env'[i]? = some s → s = .un ∨ (env[i]? = some s ∧ σ'[i]? = σ[i]?)) : Rel G σ' Z H env' := by
  have hk : ∀ i, ownk env' i → ownk env i ∧ σ'[i]? = σ[i]? := fun i q => by
    rcases q with ⟨d, q | q⟩ | ⟨d, q⟩
    · rcases h i _ q with q' | ⟨q', e⟩
      · cases q'
      · exact ⟨.inl ⟨d, .inl q'⟩, e⟩
    · rcases h i _ q with q' | ⟨q', e⟩
      · cases q'
      · exact ⟨.inl ⟨d, .inr q'⟩, e⟩
    · rcases h i _ q with q' | ⟨q', e⟩
      · cases q'
      · exact ⟨.inr ⟨d, q'⟩, e⟩
  refine ⟨hl, fun i d q => ?_, fun i d q => ?_, fun i d q => ?_, fun i d q => ?_, fun i j a hi hj e1 e2 => ?_, Rl.z0, Rl.z1, Rl.zt, Rl.keep, Rl.tr⟩
  · rcases h i _ q with q' | ⟨q', e⟩
    · cases q'
    · rw [e]; exact Rl.im i d q'
  · rcases h i _ q with q' | ⟨q', e⟩
    · cases q'
    · rw [e]; exact Rl.ow i d q'
  · rcases h i _ q with q' | ⟨q', e⟩
    · cases q'
    · rw [e]; exact Rl.io i d q'
  · rcases h i _ q with q' | ⟨q', e⟩
    · cases q'
    · rw [e]; exact Rl.lk i d q'
  · rw [(hk i hi).2] at e1
    rw [(hk j hj).2] at e2
    exact Rl.inj i j a (hk i hi).1 (hk j hj).1 e1 e2
theorem wipeE_len (env : Env) : ∀ vs : List Nat, (wipeE env vs).length = env.length
  | [] => rfl
  | v :: vs => by rw [wipeE, List.length_set, wipeE_len env vs]
theorem wipeE_in (env : Env) {i : Nat} : ∀ {vs : List Nat}, i ∈ vs → ∀ s, (wipeE env vs)[i]? = some s → s = .un
  | v :: vs, h, s, e => by
    rw [wipeE] at e
    by_cases q : v = i
    · subst q
      by_cases l : v < (wipeE env vs).length
      · rw [List.getElem?_set_self l] at e; cases e; rfl
      · rw [List.getElem?_eq_none (by rw [List.length_set]; omega)] at e; cases e
    · rw [List.getElem?_set_ne q] at e
      exact wipeE_in env ((List.mem_cons.mp h).elim (fun z => absurd z.symm q) id) s e
theorem wipeE_out (env : Env) {i : Nat} : ∀ {vs : List Nat}, i ∉ vs → (wipeE env vs)[i]? = env[i]?
  | [], _ => rfl
  | v :: vs, h => by
    rw [wipeE, List.getElem?_set_ne (fun q => h (by simp [q])), wipeE_out env fun q => h (by simp [q])]
theorem wipe_in {i : Nat} : ∀ {vs : List Nat}, i ∈ vs → (wipe σ vs)[i]? = if i < σ.length then some none else none
  | v :: vs, h => by
    unfold wipe
    by_cases q : v = i
    · subst q
      by_cases l : v < σ.length
      · rw [List.getElem?_set_self (by rw [wipe_length]; exact l), if_pos l]
      · rw [List.getElem?_eq_none (by rw [List.length_set, wipe_length]; omega), if_neg l]
    · rw [List.getElem?_set_ne q]
      exact wipe_in ((List.mem_cons.mp h).elim (fun z => absurd z.symm q) id)
theorem wipe_ext {σ2 : L2.St} (hl : σ2.length = σ.length) (h : ∀ i, i ∉ vs → σ2[i]? = σ[i]?) : wipe σ2 vs = wipe σ vs := by
  refine List.ext_getElem? fun i => ?_
  by_cases q : i ∈ vs
  · rw [wipe_in q, wipe_in q, hl]
  · rw [wipe_out q, wipe_out q, h i q]
theorem Rel.wipe (Rl : Rel G σ Z H env) (vs : List Nat) : Rel G (wipe σ vs) Z H (wipeE env vs) := by
  refine Rl.part (by rw [wipeE_len, wipe_length]; exact Rl.len) fun i s e => ?_
  by_cases q : i ∈ vs
  · exact .inl (wipeE_in env q s e)
  · exact .inr ⟨by rw [← wipeE_out env q]; exact e, wipe_out q⟩
theorem Rel.unwipe (Rl : Rel G (L2.wipe σ vs) Z H (wipeE env vs)) : Rel G σ Z H (wipeE env vs) := by
  refine Rl.part (by have := Rl.len; rw [wipe_length] at this; exact this) fun i s e => ?_
  by_cases q : i ∈ vs
  · exact .inl (wipeE_in env q s e)
  · exact .inr ⟨e, (wipe_out q).symm⟩
theorem own_wipe {i : Nat} (h : own (wipeE env vs) i) : own env i ∧ i ∉ vs := by
  obtain ⟨d, h⟩ := h
  by_cases q : i ∈ vs
  · rcases h with h | h
    · cases wipeE_in env q _ h
    · cases wipeE_in env q _ h
  · rw [wipeE_out env q] at h
    exact ⟨⟨d, h⟩, q⟩
theorem Stp.wipe (s : Stp σ Z H env Z' H' env') (vs : List Nat) : Stp σ Z H env Z' H' (wipeE env' vs) := ⟨s.grow, fun i h => s.sub i (own_wipe h).1⟩
/-- a thing of nobody is rewritten -/
theorem Rel.poke {o u : HO} (Rl : Rel G σ Z H env) (ha : H a = some u) (mu : Mut (some u)) (nz : ¬ Z a) (no : ¬ Ow σ env a) (h0 : G.H0 a = none) : Rel G σ Z (upd H a o) env := by
  have k : ∀ b w, b ≠ a → H b = some w → upd H a o b = some w := fun b w n h => by rw [upd_ne n]; exact h
  have zk : ∀ b w, Z b → H b = some w → upd H a o b = some w := fun b w z h => k b w (fun q => nz (by rw [← q]; exact z)) h
  refine ⟨Rl.len, fun i d h => ?_, fun i d h => ?_, fun i d h => ?_, fun i d h => ?_, Rl.inj, Rl.z0, Rl.z1, fun b z => ?_, fun b w h n => ?_, fun b w h => ?_⟩
  · obtain ⟨v, e, r⟩ := Rl.im i d h
    exact ⟨v, e, r.mono (fun b z => z) zk⟩
  · obtain ⟨b, e, nzb, hb, t⟩ := Rl.ow i d h
    exact ⟨b, e, nzb, hb, t.mono (fun b z => z) zk fun w => k b w fun q => no ⟨i, ⟨d, .inl h⟩, by rw [← q]; exact e⟩⟩
  · obtain ⟨e, nzb, hb, t⟩ := Rl.io i d h
    exact ⟨e, nzb, hb, t.mono (fun b z => z) zk fun w => k _ w fun q => no ⟨i, ⟨d, .inr h⟩, by rw [← q]; exact e⟩⟩
  · obtain ⟨b, e, nzb, t⟩ := Rl.lk i d h
    refine ⟨b, e, nzb, t.mono (fun b z => z) zk fun w => k b w fun q => ?_⟩
    subst q
    cases t with
    | dct hh r => rw [ha] at hh; cases hh; exact mu
  · obtain ⟨w, h⟩ := Rl.zt b z; exact ⟨w, zk b w z h⟩
  · exact k b w (fun q => by rw [q, h0] at h; cases h) (Rl.keep b w h n)
  · obtain ⟨x, e⟩ := Rl.tr b w h
    by_cases q : b = a
    · exact ⟨o, by rw [q]; exact upd_same⟩
    · exact ⟨x, k b x q e⟩
theorem Stp.poke {o : HO} (s : Stp σ Z H env Z' H' env') (ha : H a = none) : Stp σ Z H env Z' (upd H' a o) env' :=
  ⟨⟨s.grow.zz, s.grow.zn, fun b u h n => by rw [upd_ne (ne_of_none h ha)]; exact s.grow.hk b u h n, fun b u h => by rw [upd_ne (ne_of_none h ha)]; exact s.grow.tr b u h⟩, s.sub⟩
theorem comp_sem {tg : Tg} {it c e : Ex} {Q : VK} (hnm : ∀ i ∈ tg.nms, i ∈ vs) (hx : tE Γ R G (.comp vs tg it c e) σ H Q) : tLc (tI Γ R G it) (tG G tg) (tT Γ noX G c) (tE Γ noX G e) vs σ H Q := by
  obtain ⟨Z, env, Q0, hR, hw, hq⟩ := hx
  refine ⟨Z, env, _, hR, hw, fun is its e1 J Z1 H1 R1 S1 wk w1 D hD => ?_⟩
  obtain ⟨hlen, w1⟩ := w1
  generalize hturn : (fun (d : TG.D) (e2 : Env) (k : Option TG.D → Env → Prop) => bindT tg d (wipeE e2 vs) fun e3 => (sem Γ c).T noX e3 fun b e4 => if b = true then (sem Γ e).E noX e4 fun r e5 => fz r e5 fun y e6 => k (some y) e6 else k none e4) = turn at w1
  have hD0 : G.H0 D = none := R1.h0n hD
  let W : Nat → Nat → Hp → Prop := fun n m H' => m = its.length - n ∧ n ≤ its.length ∧ ∃ Z' ev acc ws, Rel G (wipe σ vs) Z' H' (wipeE ev vs) ∧ Stp σ Z1 H1 e1 Z' H' (wipeE ev vs) ∧ H' D = some (.lst ws) ∧ Reps G.K Z' H' ws acc ∧ ¬ Z' D ∧ ¬ Ow (wipe σ vs) (wipeE ev vs) D ∧ acc.length ≤ n ∧
    compW turn (fun e2 => stays is e1 (wipeE e2 vs)) (its.drop n) acc ev (fun acc e7 => Q0 (.fr (.lst acc)) (wipeE e7 vs))
  refine ⟨W, ⟨its.length, ?_⟩, ?_⟩
  · refine ⟨by simp, Nat.zero_le _, Z1, e1, [], [], (R1.fresh hD).wipe vs, (Stp.fresh hD).wipe vs, upd_same, .nil, R1.zn hD, fun ⟨i, oi, es⟩ => ?_, Nat.zero_le _, by simpa using w1⟩
    obtain ⟨o1, n1⟩ := own_wipe oi
    rw [wipe_out n1] at es
    exact R1.on hD ⟨i, o1, es⟩
  rintro n m H' ⟨rfl, hn, Z', ev, acc, ws, R2, S2, hl, rr, nz, no, ha, w2⟩
  have ltr : stays is e1 (wipeE ev vs) → Ltr G is σ Z1 H1 e1 (wipe σ vs) Z' H' (wipeE ev vs) := fun st => by
    refine ⟨R2, S2.grow.zz, fun b o z h => S2.grow.hk b o h (R1.nO z), fun i hi d hd => .inl ⟨st i hi, ?_⟩⟩
    have z := st i hi
    by_cases q : i ∈ vs
    · rcases hd with hd | hd
      · rw [hd] at z; cases wipeE_in ev q _ z
      · rw [hd] at z; cases wipeE_in ev q _ z
    · exact wipe_out q
  by_cases hlt : n < its.length
  · right
    rw [List.drop_eq_getElem_cons hlt] at w2
    obtain ⟨st, w2⟩ := (show _ ∧ _ from w2)
    have hgo := (wk _ _ _ _ (ltr st)).1 n its[n] (List.getElem?_eq_getElem hlt)
    refine ⟨hgo.1, W (n + 1) (its.length - (n + 1)), fun H' q => ⟨_, by omega, q⟩, fun x H'' hy => ?_⟩
    obtain ⟨Z3, R3, S3, r3⟩ := hgo.2 x H'' hy
    subst hturn
    refine ⟨Z3, _, its[n], _, R3, r3, w2, fun env4 σ4 H4 R4 t4 w4 => ⟨wipe_ext (by rw [t4.len, wipe_length]) fun i hi => ?_, ?_⟩⟩
    · rw [t4.off i fun q => hi (hnm i q), wipe_out hi]
    have hwσ : wipe σ4 vs = wipe σ vs := wipe_ext (by rw [t4.len, wipe_length]) fun i hi => by rw [t4.off i fun q => hi (hnm i q), wipe_out hi]
    -- the turn's end
    have fin : ∀ {Z5 : Addr → Prop} {H5 : Hp} {e5 : Env}, Rel G σ4 Z5 H5 e5 → Stp σ4 Z3 H4 env4 Z5 H5 e5 → H5 D = some (.lst ws) ∧ Reps G.K Z5 H5 ws acc ∧ ¬ Z5 D ∧ ¬ Ow σ4 e5 D ∧ Stp σ Z1 H1 e1 Z5 H5 e5 := fun {Z5 H5 e5} R5 S5 => by
      have S' : Stp (wipe σ vs) Z' H' (wipeE ev vs) Z5 H5 e5 := S3.trans (t4.stp.trans (S5.sig t4.own))
      have no5 : ¬ Ow σ4 e5 D := fun ⟨i, oi, es⟩ => by
        have o4 := S5.sub i oi
        rw [t4.own i o4] at es
        exact no ⟨i, S'.sub i oi, es⟩
      refine ⟨S'.grow.hk D _ hl no, S'.reps R2 rr, fun z => ?_, no5, S2.trans (S'.sig fun i oi => (wipe_out (own_wipe oi).2))⟩
      rcases S'.grow.zn D z with z | z | z
      · exact nz z
      · exact no z
      · rw [hl] at z; cases z
    refine ⟨Z3, env4, _, R4, w4, fun k e5 Z5 H5 R5 S5 w5 => ?_⟩
    cases k with
    | false =>
      rw [if_neg Bool.false_ne_true] at w5 ⊢
      obtain ⟨f1, f2, f3, f4, f5⟩ := fin R5 S5
      refine ⟨rfl, hlt, Z5, e5, acc, ws, by rw [← hwσ]; exact R5.wipe vs, f5.wipe vs, f1, f2, f3, fun ⟨i, oi, es⟩ => ?_, by omega, w5⟩
      obtain ⟨o1, n1⟩ := own_wipe oi
      rw [← hwσ, wipe_out n1] at es
      exact f4 ⟨i, o1, es⟩
    | true =>
      rw [if_pos rfl] at w5 ⊢
      refine ⟨Z5, e5, _, R5, w5, fun r e6 y Z6 H6 R6 S6 V6 N6 w6 => ?_⟩
      obtain ⟨dy, e7, Z7, R7, S7, r7, w7⟩ := fz_ok R6 S6 V6 N6 w6
      obtain ⟨f1, f2, f3, f4, f5⟩ := fin R7 (S5.trans S7)
      have hlw := rr.length
      refine ⟨ws, f1, by omega, rfl, hlt, Z7, e7, acc ++ [dy], ws ++ [y], ?_, (f5.poke hD).wipe vs, upd_same, ?_, f3, fun ⟨i, oi, es⟩ => ?_, by simp; omega, w7⟩
      · rw [← hwσ]
        exact (R7.poke f1 trivial f3 f4 hD0).wipe vs
      · have zk : ∀ b w, Z7 b → H6 b = some w → upd H6 D (.lst (ws ++ [y])) b = some w := fun b w z h => by rw [upd_ne (fun q => f3 (by rw [← q]; exact z))]; exact h
        exact (f2.mono (fun _ z => z) zk).append (.cons (r7.mono (fun _ z => z) zk) .nil)
      · obtain ⟨o1, n1⟩ := own_wipe oi
        rw [← hwσ, wipe_out n1] at es
        exact f4 ⟨i, o1, es⟩
  · left
    have e : n = its.length := by omega
    subst e
    rw [List.drop_length] at w2
    obtain ⟨st, w2⟩ := (show _ ∧ _ from w2)
    have no' : ¬ Ow σ (wipeE ev vs) D := fun ⟨i, oi, es⟩ => by
      obtain ⟨o1, n1⟩ := own_wipe oi
      exact no ⟨i, oi, by rw [wipe_out n1]; exact es⟩
    exact ⟨(wk _ _ _ _ (ltr st)).2, hq (.fr (.lst acc)) _ (.ref D) Z' H' R2.unwipe (S1.trans S2) ⟨D, rfl, nz, no', hD0, .lst hl rr⟩ (fun a e => by cases e; exact S1.nn hD) w2⟩
theorem s_comp {tg : Tg} {it c e : Ex} {elt tgE iter : Expr} {ifs : List Expr} {scope : Scope} {own : List (Str × Nat)} {pos : Pos} (hc : X.calm = true) (hN : X.N.Nodup) (hi : PI X tgE iter (tI Γ R G it)) (ok : BlkOk X.N X.env.scope scope own) (hv : own.map (·.2) = vs)
    (hg : ∀ (s : Shared) (H : Hp) (C : Addr) (cl : List (Str × Addr)) (fp : List Addr), PG (X.blk s H scope (compEnvC scope cl C X.env) fp) tgE (tG G tg)) (ht : ∀ (s : Shared) (H : Hp) (C : Addr) (cl : List (Str × Addr)) (fp : List Addr), PTs (X.blk s H scope (compEnvC scope cl C X.env) fp) ifs (tT Γ noX G c))
    (he : ∀ (s : Shared) (H : Hp) (C : Addr) (cl : List (Str × Addr)) (fp : List Addr), PE (X.blk s H scope (compEnvC scope cl C X.env) fp) elt (tE Γ noX G e)) (hnm : ∀ i ∈ tg.nms, i ∈ vs) (hs : ∀ x, foldedSetIterable iter X.env x = pure x) :
    PE X (.ListComp elt [⟨tgE, iter, ifs, 0⟩] scope pos) (tE Γ R G (.comp vs tg it c e)) := by
  have base := pe_lc (pos := pos) hc hN hi ok hg ht he hs
  rw [hv] at base
  exact pe_imp base fun σ H Q hx => comp_sem hnm hx
end
end TG
end
section
namespace TG
open PySem PySem.Spec PyProof.Rows L2

structure Ms where
  E : Scope → (Str → Bool) → Expr → Bool
  L : Scope → (Str → Bool) → List Expr → Bool
  O : Scope → (Str → Bool) → Option Expr → Bool
  I : Scope → (Str → Bool) → Expr → Expr → Bool
def mkM (E : Scope → (Str → Bool) → Expr → Bool) : Ms where
  E := E
  L := fun _ _ _ => false
  O := fun sc ow o => match o with
    | some e => E sc ow e
    | none => false
  I := fun sc ow _ e => E sc ow e
def mkI (I : Scope → (Str → Bool) → Expr → Expr → Bool) : Ms where
  E := fun _ _ _ => false
  L := fun _ _ _ => false
  O := fun _ _ _ => false
  I := I
def isGl (sc : Scope) (x : Str) : Bool := decide (sc.names.lookup x = some .globalImplicit)
def plainO : Expr → Bool
  | .Name _ _ => true
  | .Constant _ _ _ => true
  | .Subscript _ _ _ => true
  | .BinOp _ _ _ _ => true
  | .Call _ (_ :: _) _ _ => true
  | _ => false
def plainI : Expr → Bool
  | .Slice _ _ _ _ => false
  | _ => true
def notSet : Expr → Bool
  | .Set _ _ _ => false
  | _ => true
def isNilX : Ex → Bool
  | .nil => true
  | _ => false
def isDctX : Ex → Bool
  | .dctn _ _ => true
  | _ => false
def ownN (N : List Str) (vs : List Nat) : List (Str × Nat) := vs.map fun i => ((N[i]?).getD "", i)
def isTupE : Expr → Bool
  | .Tuple _ _ _ => true
  | _ => false
section
variable (N : List Str) (bl : List Str)
def mm : Ex → Ms
  | .var i => mkM fun sc ow e => match e with
    | .Name x _ => decide (N[i]? = some x) && isVis sc x && okN x
    | _ => false
  | .cint i => mkM fun sc ow e => match e with
    | .Constant (.int j) _ _ => decide (i = j)
    | _ => false
  | .cstr i => mkM fun sc ow e => match e with
    | .Constant (.str j) _ _ => decide (i = j)
    | _ => false
  | .cbl i => mkM fun sc ow e => match e with
    | .Constant (.bool j) _ _ => decide (i = j)
    | _ => false
  | .cnon => mkM fun sc ow e => match e with
    | .Constant .none _ _ => true
    | _ => false
  | .glob y => mkM fun sc ow e => match e with
    | .Name x _ => decide (y = x) && isGl sc x && okN x
    | _ => false
  | .bin op a b => mkM fun sc ow e => match e with
    | .BinOp x op' y _ => decide (op = op') && (mm a).E sc ow x && (mm b).E sc ow y
    | _ => false
  | .neg a => mkM fun sc ow e => match e with
    | .UnaryOp .USub x _ => (mm a).E sc ow x
    | _ => false
  | .cmp op a b => mkM fun sc ow e => match e with
    | .Compare x [op'] [y] _ => decide (op = op') && !behindInMarks op y && (mm a).E sc ow x && (mm b).E sc ow y
    | _ => false
  | .chain op1 op2 a b c => mkM fun sc ow e => match e with
    | .Compare x [p1, p2] [y, z] _ => decide (op1 = p1) && decide (op2 = p2) && !lastMarks [p1, p2] [y, z] && (mm a).E sc ow x && (mm b).E sc ow y && (mm c).E sc ow z
    | _ => false
  | .andn a b => mkM fun sc ow e => match e with
    | .BoolOp .And [x, y] _ => (mm a).E sc ow x && (mm b).E sc ow y
    | .BoolOp .And (x :: y :: z :: zs) pos => (mm a).E sc ow x && (mm b).E sc ow (.BoolOp .And (y :: z :: zs) pos)
    | _ => false
  | .orn a b => mkM fun sc ow e => match e with
    | .BoolOp .Or [x, y] _ => (mm a).E sc ow x && (mm b).E sc ow y
    | .BoolOp .Or (x :: y :: z :: zs) pos => (mm a).E sc ow x && (mm b).E sc ow (.BoolOp .Or (y :: z :: zs) pos)
    | _ => false
  | .notn a => mkM fun sc ow e => match e with
    | .UnaryOp .Not x _ => (mm a).E sc ow x
    | _ => false
  | .ife c a b => mkM fun sc ow e => match e with
    | .IfExp x y z _ => (mm c).E sc ow x && (mm a).E sc ow y && (mm b).E sc ow z
    | _ => false
  | .tupn as => mkM fun sc ow e => match e with
    | .Tuple es _ _ => (mm as).L sc ow es
    | _ => false
  | .lstn as => mkM fun sc ow e => match e with
    | .List es _ => (mm as).L sc ow es
    | _ => false
  | .dnew _ => mkM fun sc ow e => match e with
    | .Dict [] [] _ => true
    | _ => false
  | .dctn _ _ => mkM fun _ _ _ => false
  | .nil => ⟨fun _ _ _ => false, fun _ _ es => match es with
    | [] => true
    | _ => false, fun _ _ o => match o with
    | none => true
    | _ => false, fun _ _ _ _ => false⟩
  | .cons a as => ⟨fun _ _ _ => false, fun sc ow es => match es with
    | e :: es => (mm a).E sc ow e && (mm as).L sc ow es
    | _ => false, fun _ _ _ => false, fun _ _ _ _ => false⟩
  | .call f as => mkM fun sc ow e => match e with
    | .Call (.Name g _) es [] _ => decide (f = g) && isGl sc g && okN g && (mm as).L sc ow es && (!es.isEmpty || isNilX as)
    | _ => false
  | .blt b as => mkM fun sc ow e => match e with
    | .Call (.Name g _) (e :: es) [] _ => decide (b.nm = g) && isGl sc g && decide (g ∈ bl) && (mm as).L sc ow (e :: es)
    | _ => false
  | .meth m o as => mkM fun sc ow e => match e with
    | .Call (.Attribute x nm apos) (e :: es) [] cpos => decide (m.nm = nm) && plainO x && (apos.endLine == cpos.line) && decide ((e :: es).length < 29) && (m == .get || m == .join) && (mm o).E sc ow x && (mm as).L sc ow (e :: es)
    | _ => false
  | .mut m i as => mkM fun sc ow e => match e with
    | .Call (.Attribute (.Name x _) nm apos) (e :: es) [] cpos => decide (m.nm = nm) && decide (N[i]? = some x) && isVis sc x && okN x && (apos.endLine == cpos.line) && decide ((e :: es).length < 29) && (m == .append || m == .remove) && (mm as).L sc ow (e :: es)
    | _ => false
  | .idx a i => mkM fun sc ow e => match e with
    | .Subscript x y _ => plainI y && (mm a).E sc ow x && (mm i).E sc ow y
    | _ => false
  | .slc a lo hi => mkM fun sc ow e => match e with
    | .Subscript x (.Slice l h none _) _ => (mm a).E sc ow x && (mm lo).O sc ow l && (mm hi).O sc ow h
    | _ => false
  | .isi a t => mkM fun sc ow e => match e with
    | .Call (.Name g _) [x, .Name ty _] [] _ => decide (g = "isinstance") && decide (g ∈ bl) && isGl sc g && decide (t.nm = ty) && decide (ty ∈ bl) && isGl sc ty && (mm a).E sc ow x
    | _ => false
  | .comp vs tg it c e => mkM fun sc ow ex => match ex with
    | .ListComp elt [⟨tgE, iter, ifs, 0⟩] scope _ => (mm it).I sc ow tgE iter && notSet iter && blkC N sc scope (ownN N vs) && mT N (relS scope sc) (fun x => scope.names.lookup x == some .cell) tg tgE && tg.nms.all (vs.contains ·) &&
      (match ifs with
        | [] => isNilX c
        | [ce] => (mm c).E (relS scope sc) (fun x => scope.names.lookup x == some .cell) ce
        | _ => false) && (mm e).E (relS scope sc) (fun x => scope.names.lookup x == some .cell) elt
    | _ => false
  | .zip2 a b => mkI fun sc ow tg e => match e with
    | .Call (.Name g _) [x, y] [] _ => decide (g = "zip") && decide (g ∈ bl) && isGl sc g && isTupE tg && (mm a).E sc ow x && (mm b).E sc ow y
    | _ => false
  | .zip3 a b c => mkI fun sc ow tg e => match e with
    | .Call (.Name g _) [x, y, z] [] _ => decide (g = "zip") && decide (g ∈ bl) && isGl sc g && isTupE tg && (mm a).E sc ow x && (mm b).E sc ow y && (mm c).E sc ow z
    | _ => false
  | .enum a => mkI fun sc ow tg e => match e with
    | .Call (.Name g _) [x] [] _ => decide (g = "enumerate") && decide (g ∈ bl) && isGl sc g && isTupE tg && (mm a).E sc ow x
    | _ => false
  | .rng1 a => mkI fun sc ow tg e => match e with
    | .Call (.Name g _) [x] [] _ => decide (g = "range") && decide (g ∈ bl) && isGl sc g && (mm a).E sc ow x
    | _ => false
  | .rng2 a b => mkI fun sc ow tg e => match e with
    | .Call (.Name g _) [x, y] [] _ => decide (g = "range") && decide (g ∈ bl) && isGl sc g && (mm a).E sc ow x && (mm b).E sc ow y
    | _ => false
  | .items _ => mkM fun _ _ _ => false
end

def noStar : Expr → Bool
  | .Starred _ _ => false
  | _ => true
theorem star_cons {e : Expr} {es : List Expr} {E : PySem.Env} (h : noStar e = true) : starEach (e :: es) E = (false, eval e E) :: starEach es E := by
  cases e <;> first | rfl | cases h
theorem star_all {pos : Pos} {E : PySem.Env} : ∀ {es : List Expr}, es.all noStar = true → (backTo pos (starEach es E)).any (·.1) = false ∧ (backTo pos (starEach es E)).all (fun x => !x.1) = true
  | [], _ => ⟨rfl, rfl⟩
  | e :: es, h => by
    rw [List.all_cons, Bool.and_eq_true] at h
    rw [star_cons h.1]
    obtain ⟨h1, h2⟩ := star_all (pos := pos) (E := E) h.2
    exact ⟨by show (false || (backTo pos (starEach es E)).any (·.1)) = false; rw [h1]; rfl, by show (true && (backTo pos (starEach es E)).all (fun x => !x.1)) = true; rw [h2]; rfl⟩
theorem plainO_of {o : Expr} {nm : Str} {E : PySem.Env} {w : Sem Value} (h : plainO o = true) : attributeBase o nm E w = w := by
  cases o with
  | Call f args kws pos =>
    cases args with
    | nil => cases h
    | cons a as => cases f <;> rfl
  | _ => first | rfl | cases h
theorem plainI_of {y : Expr} (h : plainI y = true) : PlainIx y := by
  intro o i
  cases y <;> first | rfl | cases h
theorem notSet_of {e : Expr} {E : PySem.Env} (h : notSet e = true) : ∀ x, foldedSetIterable e E x = pure x := by
  intro x
  cases e <;> first | rfl | cases h
def plainT : Expr → Bool
  | .UnaryOp .Not _ _ => false
  | .BoolOp _ _ _ => false
  | .IfExp _ _ _ _ => false
  | .Compare _ _ _ _ => false
  | _ => true
theorem plainT_of {e : Expr} {E : PySem.Env} (h : plainT e = true) : ∀ whole, isTrue e E whole = (do let v ← whole; standAt e.pos; holding [v] (truthy v)) := by
  intro w
  cases e with
  | UnaryOp op x p => cases op <;> first | rfl | cases h
  | _ => first | rfl | cases h
section
variable {N bl : List Str}
theorem mm_star {ex : Ex} {sc : Scope} {ow : Str → Bool} {e : Expr} (h : (mm N bl ex).E sc ow e = true) : noStar e = true := by
  cases e <;> first | rfl | (cases ex <;> simp [mm, mkM, mkI] at h)
theorem mm_stars {sc : Scope} {ow : Str → Bool} : ∀ {as : Ex} {es : List Expr}, (mm N bl as).L sc ow es = true → es.all noStar = true := by
  intro as
  induction as with
  | nil => intro es h; cases es <;> first | rfl | simp [mm] at h
  | cons a as _ ih =>
    intro es h
    cases es with
    | nil => rfl
    | cons e es =>
      simp only [mm, Bool.and_eq_true] at h
      rw [List.all_cons, mm_star h.1, ih h.2]; rfl
  | _ => intro es h; simp [mm, mkM, mkI] at h
end
end TG
end
section
namespace TG
open PySem PySem.Spec PyProof.Rows L2

section
variable {Γ : Ga} {R : XP} {G : Gh} {X : Cx} {N bl : List Str} {sc : Scope} {ow : Str → Bool}
theorem XOk.tok (h : XOk Γ R G N sc ow bl X) : TOk N sc ow G X := ⟨h.hN, h.nd, h.hsc, h.calm, h.hK, h.un, h.cell⟩
theorem XOk.gl (h : XOk Γ R G N sc ow bl X) {x : Str} (q : isGl sc x = true) : Gl X x := by
  show X.env.scope.names.lookup x = _
  rw [h.hsc]
  exact of_decide_eq_true q
theorem XOk.blk (h : XOk Γ R G N sc ow bl X) {s : Shared} {H : Hp} {C : Addr} {cl : List (Str × Addr)} {fp : List Addr} {scope : Scope} : XOk Γ noX G N (relS scope sc) (fun x => scope.names.lookup x == some .cell) bl (X.blk s H scope (compEnvC scope cl C X.env) fp) where
  hN := h.hN
  nd := h.nd
  hsc := by show relS scope X.env.scope = _; rw [h.hsc]
  calm := h.calm
  hK := h.hK
  un := h.un
  bl := h.bl
  cs := h.cs
  fn := h.fn
  px := fun σ pins H s e s' I c => by
    obtain ⟨_, _, _, _, _, _, _, _, _, _, _, _, z⟩ := c
    obtain ⟨_, _, _, _, _, z⟩ := z
    exact z.elim
  cell := fun x h => h

structure MOk (Γ : Ga) (G : Gh) (N bl : List Str) (ex : Ex) : Prop where
  E : ∀ {R : XP} {sc : Scope} {ow : Str → Bool} {X : Cx} {e : Expr}, XOk Γ R G N sc ow bl X → (mm N bl ex).E sc ow e = true → PE X e (tE Γ R G ex)
  T : ∀ {R : XP} {sc : Scope} {ow : Str → Bool} {X : Cx} {e : Expr}, XOk Γ R G N sc ow bl X → (mm N bl ex).E sc ow e = true → PT X e (tT Γ R G ex)
  A : ∀ {R : XP} {sc : Scope} {ow : Str → Bool} {X : Cx} {es : List Expr}, XOk Γ R G N sc ow bl X → (mm N bl ex).L sc ow es = true → PA X es (tA Γ R G ex)
  B : ∀ {R : XP} {sc : Scope} {ow : Str → Bool} {X : Cx} {es : List Expr}, XOk Γ R G N sc ow bl X → (mm N bl ex).L sc ow es = true → PA X es (tB Γ R G ex)
  C : ∀ {R : XP} {sc : Scope} {ow : Str → Bool} {X : Cx} {es : List Expr} (ms : List Bool), XOk Γ R G N sc ow bl X → (mm N bl ex).L sc ow es = true → PA X es (tCl Γ R G ms ex)
  O : ∀ {R : XP} {sc : Scope} {ow : Str → Bool} {X : Cx} {o : Option Expr}, XOk Γ R G N sc ow bl X → (mm N bl ex).O sc ow o = true → PO X o (tO Γ R G ex)
  I : ∀ {R : XP} {sc : Scope} {ow : Str → Bool} {X : Cx} {tg e : Expr}, XOk Γ R G N sc ow bl X → (mm N bl ex).I sc ow tg e = true → PI X tg e (tI Γ R G ex)

/-- of an expression that has a value; its test perhaps another way -/
theorem MOk.ofE {ex : Ex} {E0 : XP → Env → (Rv → Env → Prop) → Prop} {T0 : XP → Env → (Bool → Env → Prop) → Prop} {M0 : Scope → (Str → Bool) → Expr → Bool} (h1 : sem Γ ex = { ofE E0 with T := T0 }) (h2 : mm N bl ex = mkM M0)
    (hE : ∀ {R : XP} {sc : Scope} {ow : Str → Bool} {X : Cx} {e : Expr}, XOk Γ R G N sc ow bl X → M0 sc ow e = true → PE X e (tE Γ R G ex))
    (hT : ∀ {R : XP} {sc : Scope} {ow : Str → Bool} {X : Cx} {e : Expr}, XOk Γ R G N sc ow bl X → M0 sc ow e = true → PT X e (tT Γ R G ex)) : MOk Γ G N bl ex where
  E := fun h m => hE h (by rw [h2] at m; exact m)
  T := fun h m => hT h (by rw [h2] at m; exact m)
  A := fun h m => by rw [h2] at m; cases m
  B := fun h m => by rw [h2] at m; cases m
  C := fun ms h m => by rw [h2] at m; cases m
  O := fun {R sc ow X o} h m => by
    rw [h2] at m
    cases o with
    | none => cases m
    | some e => exact s_psome (fun env Q hw => by rw [wpO, h1] at hw; rw [wpE, h1]; exact hw) (hE h m)
  I := fun {R sc ow X tg e} h m => by
    rw [h2] at m
    exact s_iany h.hK (fun env Q hw => by rw [wpI, h1] at hw; rw [wpE, h1]; exact hw) (hE h m)
theorem MOk.ofP {ex : Ex} {E0 : XP → Env → (Rv → Env → Prop) → Prop} {M0 : Scope → (Str → Bool) → Expr → Bool} (h1 : sem Γ ex = TG.ofE E0) (h2 : mm N bl ex = mkM M0)
    (hE : ∀ {R : XP} {sc : Scope} {ow : Str → Bool} {X : Cx} {e : Expr}, XOk Γ R G N sc ow bl X → M0 sc ow e = true → plainT e = true ∧ PE X e (tE Γ R G ex)) : MOk Γ G N bl ex :=
  MOk.ofE h1 h2 (fun h m => (hE h m).2) fun h m => s_truth h.hK (fun env Q hw => by rw [wpT, h1] at hw; rw [wpE, h1]; exact hw) (plainT_of (hE h m).1) (hE h m).2
theorem MOk.ofI {ex : Ex} {I0 : Scope → (Str → Bool) → Expr → Expr → Bool} (h2 : mm N bl ex = mkI I0)
    (hI : ∀ {R : XP} {sc : Scope} {ow : Str → Bool} {X : Cx} {tg e : Expr}, XOk Γ R G N sc ow bl X → I0 sc ow tg e = true → PI X tg e (tI Γ R G ex)) : MOk Γ G N bl ex where
  E := fun h m => by rw [h2] at m; cases m
  T := fun h m => by rw [h2] at m; cases m
  A := fun h m => by rw [h2] at m; cases m
  B := fun h m => by rw [h2] at m; cases m
  C := fun ms h m => by rw [h2] at m; cases m
  O := fun h m => by rw [h2] at m; cases m
  I := fun h m => hI h (by rw [h2] at m; exact m)
theorem pair_star {x y : Expr} {as : Ex} {E : PySem.Env} (h : ([x, y].all noStar) = true) : starEach [x, y] E = (false, eval x E) :: starEach [y] E ∧ starEach [y] E = (false, eval y E) :: starEach [] E := by
  rw [List.all_cons, Bool.and_eq_true, List.all_cons, Bool.and_eq_true] at h
  exact ⟨star_cons h.1, star_cons h.2.1⟩
theorem few_of {cpos : Pos} {e : Expr} {es : List Expr} {E : PySem.Env} (h : (e :: es).all noStar = true) (hl : (e :: es).length < 29) : ((backTo cpos (starEach (e :: es) E)).all (fun x => !x.1) && (backToKw cpos (keywordEach [] E)).all (fun x => x.1.isSome)
      && decide ((e :: es).length + ([] : List Keyword).length + (if ([] : List Keyword).isEmpty then 0 else 1) < 30)) = true := by
  rw [(star_all (pos := cpos) h).2]
  show (true && true && decide _) = true
  rw [Bool.true_and, Bool.true_and]
  exact decide_eq_true (by show (e :: es).length + 0 + 0 < 30; omega)
theorem ownN_snd (N : List Str) (vs : List Nat) : (ownN N vs).map (·.2) = vs := by
  unfold ownN
  rw [List.map_map]
  exact List.map_id' vs

theorem mok (Γ : Ga) (G : Gh) (N bl : List Str) (ex : Ex) : MOk Γ G N bl ex := by
  induction ex with
  | var i =>
    exact MOk.ofP rfl rfl fun {R sc ow X e} h m => by
      cases e <;> try cases m
      simp only [Bool.and_eq_true, decide_eq_true_eq] at m
      obtain ⟨⟨m1, m2⟩, m3⟩ := m
      exact ⟨rfl, s_var (by rw [h.hN]; exact m1) (by rw [h.hsc]; exact isVis_of m2) (okN_of m3).1 (okN_of m3).2⟩
  | cint i =>
    exact MOk.ofP rfl rfl fun {R sc ow X e} h m => by
      cases e <;> try cases m
      rename_i c _ _
      cases c <;> try cases m
      simp only [decide_eq_true_eq] at m
      subst m
      exact ⟨rfl, s_int⟩
  | cstr i =>
    exact MOk.ofP rfl rfl fun {R sc ow X e} h m => by
      cases e <;> try cases m
      rename_i c _ _
      cases c <;> try cases m
      simp only [decide_eq_true_eq] at m
      subst m
      exact ⟨rfl, s_str⟩
  | cbl i =>
    exact MOk.ofP rfl rfl fun {R sc ow X e} h m => by
      cases e <;> try cases m
      rename_i c _ _
      cases c <;> try cases m
      simp only [decide_eq_true_eq] at m
      subst m
      exact ⟨rfl, s_bl⟩
  | cnon =>
    exact MOk.ofP rfl rfl fun {R sc ow X e} h m => by
      cases e <;> try cases m
      rename_i c _ _
      cases c <;> try cases m
      exact ⟨rfl, s_non⟩
  | glob y =>
    exact MOk.ofP rfl rfl fun {R sc ow X e} h m => by
      cases e <;> try cases m
      simp only [Bool.and_eq_true, decide_eq_true_eq] at m
      obtain ⟨⟨m1, m2⟩, m3⟩ := m
      subst m1
      exact ⟨rfl, s_glob h.cs (h.gl m2) (okN_of m3).1⟩
  | bin op a b iha ihb =>
    exact MOk.ofP rfl rfl fun {R sc ow X e} h m => by
      cases e <;> try cases m
      simp only [Bool.and_eq_true, decide_eq_true_eq] at m
      obtain ⟨⟨m1, m2⟩, m3⟩ := m
      subst m1
      exact ⟨rfl, s_bin h.hK (iha.E h m2) (ihb.E h m3)⟩
  | neg a iha =>
    exact MOk.ofP rfl rfl fun {R sc ow X e} h m => by
      cases e <;> try cases m
      rename_i op _ _
      cases op <;> try cases m
      exact ⟨rfl, s_neg (iha.E h m)⟩
  | cmp op a b iha ihb =>
    have key : ∀ {R : XP} {sc : Scope} {ow : Str → Bool} {X : Cx} {e : Expr}, XOk Γ R G N sc ow bl X → (mm N bl (.cmp op a b)).E sc ow e = true → PE X e (tE Γ R G (.cmp op a b)) ∧ PT X e (tT Γ R G (.cmp op a b)) := fun {R sc ow X e} h m => by
      cases e <;> try cases m
      rename_i l ops cs pos
      rcases ops with _ | ⟨op', _ | ⟨_, _⟩⟩ <;> try cases m
      rcases cs with _ | ⟨y, _ | ⟨_, _⟩⟩ <;> try cases m
      simp only [mm, mkM, Bool.and_eq_true, decide_eq_true_eq, Bool.not_eq_true'] at m
      obtain ⟨⟨⟨m1, m2⟩, m3⟩, m4⟩ := m
      subst m1
      exact ⟨s_cmp h.un h.hK m2 (iha.E h m3) (ihb.E h m4), s_cmpT h.un h.hK m2 (iha.E h m3) (ihb.E h m4)⟩
    exact MOk.ofE rfl rfl (fun h m => (key h m).1) fun h m => (key h m).2
  | chain op1 op2 a b c iha ihb ihc =>
    have key : ∀ {R : XP} {sc : Scope} {ow : Str → Bool} {X : Cx} {e : Expr}, XOk Γ R G N sc ow bl X → (mm N bl (.chain op1 op2 a b c)).E sc ow e = true → PE X e (tE Γ R G (.chain op1 op2 a b c)) ∧ PT X e (tT Γ R G (.chain op1 op2 a b c)) := fun {R sc ow X e} h m => by
      cases e <;> try cases m
      rename_i l ops cs pos
      rcases ops with _ | ⟨p1, _ | ⟨p2, _ | ⟨_, _⟩⟩⟩ <;> try cases m
      rcases cs with _ | ⟨y, _ | ⟨z, _ | ⟨_, _⟩⟩⟩ <;> try cases m
      simp only [mm, mkM, Bool.and_eq_true, decide_eq_true_eq, Bool.not_eq_true'] at m
      obtain ⟨⟨⟨⟨⟨m1, m2⟩, m3⟩, m4⟩, m5⟩, m6⟩ := m
      subst m1 m2
      exact ⟨s_chain h.un h.hK m3 (iha.E h m4) (ihb.E h m5) (ihc.E h m6), s_chainT h.un h.hK m3 (iha.E h m4) (ihb.E h m5) (ihc.E h m6)⟩
    exact MOk.ofE rfl rfl (fun h m => (key h m).1) fun h m => (key h m).2
  | andn a b iha ihb =>
    have key : ∀ {R : XP} {sc : Scope} {ow : Str → Bool} {X : Cx} {e : Expr}, XOk Γ R G N sc ow bl X → (mm N bl (.andn a b)).E sc ow e = true → PE X e (tE Γ R G (.andn a b)) ∧ PT X e (tT Γ R G (.andn a b)) := fun {R sc ow X e} h m => by
      cases e <;> try cases m
      rename_i op vs pos
      cases op <;> try cases m
      rcases vs with _ | ⟨x, _ | ⟨y, _ | ⟨z, zs⟩⟩⟩ <;> try cases m
      · simp only [mm, mkM, Bool.and_eq_true] at m
        exact ⟨s_and h.hK (iha.E h m.1) (pe_one (ihb.E h m.2)), (s_andT (iha.T h m.1) (pw_and1 (ihb.T h m.2))).pt⟩
      · simp only [mm, mkM, Bool.and_eq_true] at m
        refine ⟨s_and h.hK (iha.E h m.1) (ihb.E h m.2), (s_andT (iha.T h m.1) ⟨fun wh pins s σ H Q I hw => ?_⟩).pt⟩
        exact (ihb.T h m.2).run pins s σ H Q I hw
    exact MOk.ofE rfl rfl (fun h m => (key h m).1) fun h m => (key h m).2
  | orn a b iha ihb =>
    have key : ∀ {R : XP} {sc : Scope} {ow : Str → Bool} {X : Cx} {e : Expr}, XOk Γ R G N sc ow bl X → (mm N bl (.orn a b)).E sc ow e = true → PE X e (tE Γ R G (.orn a b)) ∧ PT X e (tT Γ R G (.orn a b)) := fun {R sc ow X e} h m => by
      cases e <;> try cases m
      rename_i op vs pos
      cases op <;> try cases m
      rcases vs with _ | ⟨x, _ | ⟨y, _ | ⟨z, zs⟩⟩⟩ <;> try cases m
      · simp only [mm, mkM, Bool.and_eq_true] at m
        exact ⟨s_or h.hK (iha.E h m.1) (pe_one (ihb.E h m.2)), (s_orT (iha.T h m.1) (pw_or1 (ihb.T h m.2))).pt⟩
      · simp only [mm, mkM, Bool.and_eq_true] at m
        refine ⟨s_or h.hK (iha.E h m.1) (ihb.E h m.2), (s_orT (iha.T h m.1) ⟨fun wh pins s σ H Q I hw => ?_⟩).pt⟩
        exact (ihb.T h m.2).run pins s σ H Q I hw
    exact MOk.ofE rfl rfl (fun h m => (key h m).1) fun h m => (key h m).2
  | notn a iha =>
    have key : ∀ {R : XP} {sc : Scope} {ow : Str → Bool} {X : Cx} {e : Expr}, XOk Γ R G N sc ow bl X → (mm N bl (.notn a)).E sc ow e = true → PE X e (tE Γ R G (.notn a)) ∧ PT X e (tT Γ R G (.notn a)) := fun {R sc ow X e} h m => by
      cases e <;> try cases m
      rename_i op _ _
      cases op <;> try cases m
      exact ⟨s_not h.hK (iha.E h m), s_notT (iha.T h m)⟩
    exact MOk.ofE rfl rfl (fun h m => (key h m).1) fun h m => (key h m).2
  | ife c a b ihc iha ihb =>
    have key : ∀ {R : XP} {sc : Scope} {ow : Str → Bool} {X : Cx} {e : Expr}, XOk Γ R G N sc ow bl X → (mm N bl (.ife c a b)).E sc ow e = true → PE X e (tE Γ R G (.ife c a b)) ∧ PT X e (tT Γ R G (.ife c a b)) := fun {R sc ow X e} h m => by
      cases e <;> try cases m
      simp only [mm, mkM, Bool.and_eq_true] at m
      exact ⟨s_ife (ihc.T h m.1.1) (iha.E h m.1.2) (ihb.E h m.2), s_ifeT (ihc.T h m.1.1) (iha.T h m.1.2) (ihb.T h m.2)⟩
    exact MOk.ofE rfl rfl (fun h m => (key h m).1) fun h m => (key h m).2
  | tupn as ih =>
    exact MOk.ofP rfl rfl fun {R sc ow X e} h m => by
      cases e <;> try cases m
      exact ⟨rfl, s_tup (ih.A h m)⟩
  | lstn as ih =>
    exact MOk.ofP rfl rfl fun {R sc ow X e} h m => by
      cases e <;> try cases m
      exact ⟨rfl, s_lst (ih.A h m)⟩
  | dnew t =>
    exact MOk.ofP rfl rfl fun {R sc ow X e} h m => by
      cases e <;> try cases m
      rename_i ks vs _
      cases ks <;> cases vs <;> try cases m
      exact ⟨rfl, s_dnew⟩
  | dctn _ _ =>
    exact MOk.ofP rfl rfl fun h m => by cases m
  | nil =>
    exact {
      E := fun h m => by cases m
      T := fun h m => by cases m
      A := fun {R sc ow X es} h m => by
        cases es <;> try cases m
        exact s_anil
      B := fun {R sc ow X es} h m => by
        cases es <;> try cases m
        exact s_bnil
      C := fun {R sc ow X es} ms h m => by
        cases es <;> try cases m
        cases ms with
        | nil => exact s_cnil
        | cons b ms => exact ⟨fun pos pins s σ H Q I ⟨Z, env, Q0, hR, hw, hq⟩ => False.elim hw⟩
      O := fun {R sc ow X o} h m => by
        cases o <;> try cases m
        exact s_pnone
      I := fun h m => by cases m }
  | cons a as iha ih =>
    exact {
      E := fun h m => by cases m
      T := fun h m => by cases m
      A := fun {R sc ow X es} h m => by
        cases es <;> try cases m
        have m' := m
        simp only [mm, Bool.and_eq_true] at m'
        exact s_acons (star_cons (mm_star m'.1)) (iha.E h m'.1) (ih.A h m'.2)
      B := fun {R sc ow X es} h m => by
        cases es <;> try cases m
        have m' := m
        simp only [mm, Bool.and_eq_true] at m'
        exact s_bcons (star_cons (mm_star m'.1)) (iha.E h m'.1) (ih.B h m'.2)
      C := fun {R sc ow X es} ms h m => by
        cases es <;> try cases m
        have m' := m
        simp only [mm, Bool.and_eq_true] at m'
        cases ms with
        | nil => exact ⟨fun pos pins s σ H Q I ⟨Z, env, Q0, hR, hw, hq⟩ => False.elim hw⟩
        | cons b ms => exact s_ccons (star_cons (mm_star m'.1)) (iha.E h m'.1) (ih.C ms h m'.2)
      O := fun h m => by cases m
      I := fun h m => by cases m }
  | call f as ih =>
    exact MOk.ofP rfl rfl fun {R sc ow X e} h m => by
      cases e <;> try cases m
      rename_i fe es kws pos
      cases fe <;> try cases m
      cases kws <;> try cases m
      simp only [Bool.and_eq_true, decide_eq_true_eq] at m
      obtain ⟨⟨⟨⟨m1, m2⟩, m3⟩, m4⟩, m5⟩ := m
      subst m1
      cases es with
      | nil =>
        have : as = .nil := by
          cases as <;> first | rfl | simp [isNilX] at m5
        subst this
        exact ⟨rfl, s_call0 h.hK h.fn h.px (h.gl m2) (okN_of m3).1⟩
      | cons e es =>
        have st := mm_stars m4
        rw [List.all_cons, Bool.and_eq_true] at st
        exact ⟨rfl, s_call h.hK h.fn h.px (h.gl m2) (okN_of m3).1 (fun ms => ih.C ms h m4) (star_cons st.1) (star_all st.2).1⟩
  | blt b as ih =>
    exact MOk.ofP rfl rfl fun {R sc ow X e} h m => by
      cases e <;> try cases m
      rename_i fe es kws pos
      cases fe <;> try cases m
      cases es <;> cases kws <;> try cases m
      simp only [Bool.and_eq_true, decide_eq_true_eq] at m
      obtain ⟨⟨⟨m1, m2⟩, m3⟩, m4⟩ := m
      subst m1
      have st := mm_stars m4
      rw [List.all_cons, Bool.and_eq_true] at st
      exact ⟨rfl, s_blt h.un h.calm h.hK (h.gl m2) (h.bl _ m3) (ih.B h m4) (star_cons st.1) (star_all st.2).1⟩
  | meth mt o as iho ih =>
    exact MOk.ofP rfl rfl fun {R sc ow X e} h m => by
      cases e <;> try cases m
      rename_i fe es kws pos
      cases fe <;> try cases m
      cases es <;> cases kws <;> try cases m
      simp only [Bool.and_eq_true, decide_eq_true_eq] at m
      obtain ⟨⟨⟨⟨⟨⟨m1, m2⟩, m3⟩, m4⟩, m5⟩, m6⟩, m7⟩ := m
      subst m1
      have st := mm_stars m7
      have st2 := st
      rw [List.all_cons, Bool.and_eq_true] at st2
      have hm : MtOk X mt := by
        cases mt <;> first | exact mtok_get h.un | exact mtok_join | (exfalso; revert m5; decide)
      exact ⟨rfl, s_meth h.hK hm (iho.E h m6) (ih.B h m7) (plainO_of m2) (few_of st m4) m3 (star_cons st2.1) (star_all st2.2).1⟩
  | «mut» mt i as ih =>
    exact MOk.ofP rfl rfl fun {R sc ow X e} h m => by
      cases e <;> try cases m
      rename_i fe es kws pos
      cases fe <;> try cases m
      rename_i o _ _
      cases o <;> try cases m
      cases es <;> cases kws <;> try cases m
      simp only [Bool.and_eq_true, decide_eq_true_eq] at m
      obtain ⟨⟨⟨⟨⟨⟨⟨m1, m2⟩, m3⟩, m4⟩, m5⟩, m6⟩, m7⟩, m8⟩ := m
      subst m1
      have st := mm_stars m8
      have st2 := st
      rw [List.all_cons, Bool.and_eq_true] at st2
      have hm : MmOk X mt := by
        cases mt <;> first | exact mmok_append | exact mmok_remove | (exfalso; revert m7; decide)
      exact ⟨rfl, s_mut h.hK hm (by rw [h.hN]; exact m2) (by rw [h.hsc]; exact isVis_of m3) (okN_of m4).1 (okN_of m4).2 (ih.A h m8) (plainO_of rfl) (few_of st m6) m5 (star_cons st2.1) (star_all st2.2).1⟩
  | idx a i iha ihi =>
    exact MOk.ofP rfl rfl fun {R sc ow X e} h m => by
      cases e <;> try cases m
      simp only [Bool.and_eq_true] at m
      exact ⟨rfl, s_idx h.un h.hK (plainI_of m.1.1) (iha.E h m.1.2) (ihi.E h m.2)⟩
  | slc a lo hi iha ihl ihh =>
    exact MOk.ofP rfl rfl fun {R sc ow X e} h m => by
      cases e <;> try cases m
      rename_i x y pos
      cases y <;> try cases m
      rename_i l hh st p2
      cases st <;> try cases m
      simp only [Bool.and_eq_true] at m
      exact ⟨rfl, s_slc h.hK (iha.E h m.1.1) (ihl.O h m.1.2) (ihh.O h m.2)⟩
  | isi a t iha =>
    exact MOk.ofP rfl rfl fun {R sc ow X e} h m => by
      cases e <;> try cases m
      rename_i fe es kws pos
      cases fe <;> try cases m
      rcases es with _ | ⟨x, _ | ⟨y, _ | ⟨_, _⟩⟩⟩ <;> try first | cases m | (exfalso; revert m; split <;> simp_all; done)
      cases y <;> try cases m
      cases kws <;> try cases m
      simp only [Bool.and_eq_true, decide_eq_true_eq] at m
      obtain ⟨⟨⟨⟨⟨⟨m1, m2⟩, m3⟩, m4⟩, m5⟩, m6⟩, m7⟩ := m
      subst m1 m4
      exact ⟨rfl, s_isi h.hK (h.gl m3) (h.bl _ m2) (h.gl m6) (h.bl _ m5) (iha.E h m7) (star_cons (mm_star m7)) (star_all rfl).1⟩
  | comp vs tg it c e ihi ihc ihe =>
    exact MOk.ofP rfl rfl fun {R sc ow X ex} h m => by
      cases ex <;> try cases m
      rename_i elt gens scope pos
      rcases gens with _ | ⟨⟨tgE, iter, ifs, asy⟩, _ | ⟨_, _⟩⟩ <;> try first | cases m | (exfalso; revert m; split <;> simp_all; done)
      by_cases ha : asy = 0
      · subst ha
        simp only [Bool.and_eq_true] at m
        obtain ⟨⟨⟨⟨⟨⟨m1, m2⟩, m3⟩, m4⟩, m5⟩, m6⟩, m7⟩ := m
        refine ⟨rfl, s_comp h.calm (by rw [h.hN]; exact h.nd) (ihi.I h m1) (blkOk_by (own := ownN N vs) (by rw [h.hN, h.hsc]; exact m3)) (ownN_snd N vs) (fun s H C cl fp => tg_ok h.blk.tok tg tgE m4) (fun s H C cl fp => ?_) (fun s H C cl fp => ihe.E h.blk m7) (fun i hi => ?_) (notSet_of m2)⟩
        · rcases ifs with _ | ⟨ce, _ | ⟨_, _⟩⟩
          · cases c <;> try cases m6
            exact ⟨fun pins s σ H Q I ⟨Z, env, Q0, hR, hw, hq⟩ => pts_nil.run pins s σ H Q I (hq true _ _ _ hR .refl hw)⟩
          · exact pts_one (ihc.T h.blk m6)
          · cases m6
        · rw [List.all_eq_true] at m5
          simpa using m5 i hi
      · exfalso
        revert m
        split
        · rename_i heq
          simp only [Expr.ListComp.injEq, List.cons.injEq, Comprehension.mk.injEq] at heq
          exact fun _ => ha heq.2.1.1.2.2.2
        · intro m; cases m
  | zip2 a b iha ihb =>
    exact MOk.ofI rfl fun {R sc ow X tg e} h m => by
      cases e <;> try cases m
      rename_i fe es kws pos
      cases fe <;> try cases m
      rcases es with _ | ⟨x, _ | ⟨y, _ | ⟨_, _⟩⟩⟩ <;> try cases m
      cases kws <;> try cases m
      simp only [Bool.and_eq_true, decide_eq_true_eq] at m
      obtain ⟨⟨⟨⟨⟨m1, m2⟩, m3⟩, m4⟩, m5⟩, m6⟩ := m
      subst m1
      cases tg <;> try cases m4
      exact s_z2 h.hK (h.gl m3) (h.bl _ m2) (iha.E h m5) (ihb.E h m6) (star_cons (mm_star m5)) (star_cons (mm_star m6)) (star_all (by simp [mm_star m6])).1
  | zip3 a b c iha ihb ihc =>
    exact MOk.ofI rfl fun {R sc ow X tg e} h m => by
      cases e <;> try cases m
      rename_i fe es kws pos
      cases fe <;> try cases m
      rcases es with _ | ⟨x, _ | ⟨y, _ | ⟨z, _ | ⟨_, _⟩⟩⟩⟩ <;> try cases m
      cases kws <;> try cases m
      simp only [Bool.and_eq_true, decide_eq_true_eq] at m
      obtain ⟨⟨⟨⟨⟨⟨m1, m2⟩, m3⟩, m4⟩, m5⟩, m6⟩, m7⟩ := m
      subst m1
      cases tg <;> try cases m4
      exact s_z3 h.hK (h.gl m3) (h.bl _ m2) (iha.E h m5) (ihb.E h m6) (ihc.E h m7) (star_cons (mm_star m5)) (star_cons (mm_star m6)) (star_cons (mm_star m7)) (star_all (by simp [mm_star m6, mm_star m7])).1
  | enum a iha =>
    exact MOk.ofI rfl fun {R sc ow X tg e} h m => by
      cases e <;> try cases m
      rename_i fe es kws pos
      cases fe <;> try cases m
      rcases es with _ | ⟨x, _ | ⟨_, _⟩⟩ <;> try cases m
      cases kws <;> try cases m
      simp only [Bool.and_eq_true, decide_eq_true_eq] at m
      obtain ⟨⟨⟨⟨m1, m2⟩, m3⟩, m4⟩, m5⟩ := m
      subst m1
      cases tg <;> try cases m4
      exact s_en h.hK (h.gl m3) (h.bl _ m2) (iha.E h m5) (star_cons (mm_star m5))
  | rng1 a iha =>
    exact MOk.ofI rfl fun {R sc ow X tg e} h m => by
      cases e <;> try cases m
      rename_i fe es kws pos
      cases fe <;> try cases m
      rcases es with _ | ⟨x, _ | ⟨_, _⟩⟩ <;> try cases m
      cases kws <;> try cases m
      simp only [Bool.and_eq_true, decide_eq_true_eq] at m
      obtain ⟨⟨⟨m1, m2⟩, m3⟩, m5⟩ := m
      subst m1
      exact s_r1 (h.gl m3) (h.bl _ m2) (iha.E h m5) (star_cons (mm_star m5))
  | rng2 a b iha ihb =>
    exact MOk.ofI rfl fun {R sc ow X tg e} h m => by
      cases e <;> try cases m
      rename_i fe es kws pos
      cases fe <;> try cases m
      rcases es with _ | ⟨x, _ | ⟨y, _ | ⟨_, _⟩⟩⟩ <;> try cases m
      cases kws <;> try cases m
      simp only [Bool.and_eq_true, decide_eq_true_eq] at m
      obtain ⟨⟨⟨⟨m1, m2⟩, m3⟩, m5⟩, m6⟩ := m
      subst m1
      exact s_r2 (h.gl m3) (h.bl _ m2) (iha.E h m5) (ihb.E h m6) (by rw [star_cons (mm_star m5), star_cons (mm_star m6)]; rfl) (star_cons (mm_star m6))
  | items _ _ =>
    exact MOk.ofP rfl rfl fun h m => by cases m
/-- a comprehension's parts -/
structure CompParts (Γ : Ga) (R : XP) (G : Gh) (N : List Str) (X : Cx) (vs : List Nat) (tg : Tg) (it c e : Ex) (elt : Expr) (scope : Scope) (tgE iter : Expr) (ifs : List Expr) : Prop where
  hi : PI X tgE iter (tI Γ R G it)
  ok : BlkOk X.N X.env.scope scope (ownN N vs)
  hg : ∀ (s : Shared) (H : Hp) (C : Addr) (cl : List (Str × Addr)) (fp : List Addr), PG (X.blk s H scope (compEnvC scope cl C X.env) fp) tgE (tG G tg)
  ht : ∀ (s : Shared) (H : Hp) (C : Addr) (cl : List (Str × Addr)) (fp : List Addr), PTs (X.blk s H scope (compEnvC scope cl C X.env) fp) ifs (tT Γ noX G c)
  he : ∀ (s : Shared) (H : Hp) (C : Addr) (cl : List (Str × Addr)) (fp : List Addr), PE (X.blk s H scope (compEnvC scope cl C X.env) fp) elt (tE Γ noX G e)
  nm : ∀ i ∈ tg.nms, i ∈ vs
  hs : ∀ x, foldedSetIterable iter X.env x = pure x
theorem comp_parts {vs : List Nat} {tg : Tg} {it c e : Ex} {elt : Expr} {gens : List Comprehension} {scope : Scope} {pos : Pos} (h : XOk Γ R G N sc ow bl X) (m : (mm N bl (.comp vs tg it c e)).E sc ow (.ListComp elt gens scope pos) = true) :
    ∃ tgE iter ifs, gens = [⟨tgE, iter, ifs, 0⟩] ∧ CompParts Γ R G N X vs tg it c e elt scope tgE iter ifs := by
  rcases gens with _ | ⟨⟨tgE, iter, ifs, asy⟩, _ | ⟨_, _⟩⟩ <;> try first | cases m | (exfalso; simp [mm, mkM] at m; done)
  by_cases ha : asy = 0
  · subst ha
    simp only [mm, mkM, Bool.and_eq_true] at m
    obtain ⟨⟨⟨⟨⟨⟨m1, m2⟩, m3⟩, m4⟩, m5⟩, m6⟩, m7⟩ := m
    refine ⟨tgE, iter, ifs, rfl, (mok Γ G N bl it).I h m1, blkOk_by (own := ownN N vs) (by rw [h.hN, h.hsc]; exact m3), (fun s H C cl fp => tg_ok h.blk.tok tg tgE m4), (fun s H C cl fp => ?_), (fun s H C cl fp => (mok Γ G N bl e).E h.blk m7), (fun i hi => ?_), (notSet_of m2)⟩
    · rcases ifs with _ | ⟨ce, _ | ⟨_, _⟩⟩
      · cases c <;> try cases m6
        exact ⟨fun pins s σ H Q I ⟨Z, env, Q0, hR, hw, hq⟩ => pts_nil.run pins s σ H Q I (hq true _ _ _ hR .refl hw)⟩
      · exact pts_one ((mok Γ G N bl c).T h.blk m6)
      · cases m6
    · rw [List.all_eq_true] at m5
      simpa using m5 i hi
  · exfalso
    revert m
    simp only [mm, mkM]
    split
    · rename_i heq
      simp only [Expr.ListComp.injEq, List.cons.injEq, Comprehension.mk.injEq] at heq
      exact fun _ => ha heq.2.1.1.2.2.2
    · intro m; cases m
end
end TG
end
section
namespace TG
open PySem PySem.Spec PyProof.Rows L2

structure Mon (Z : Addr → Prop) (H : Hp) (Z' : Addr → Prop) (H' : Hp) : Prop where
  zz : ∀ b, Z b → Z' b
  hk : ∀ b o, Z b → H b = some o → H' b = some o
structure PostOk (G : Gh) (Z : Addr → Prop) (H : Hp) (P : Post) (D : Ends) : Prop where
  nx : ∀ σ' Z' H' env', Rel G σ' Z' H' env' → Mon Z H Z' H' → P.nx env' → D.nx σ' H'
  rt : ∀ r v σ' Z' H' env', Rel G σ' Z' H' env' → Mon Z H Z' H' → RepR G σ' Z' H' env' r v → (∀ i, r ≠ .bo i) → P.rt r env' → D.rt v H'
  bk : ∀ σ' Z' H' env', Rel G σ' Z' H' env' → Mon Z H Z' H' → P.bk env' → D.bk σ' H'
  ct : ∀ σ' Z' H' env', Rel G σ' Z' H' env' → Mon Z H Z' H' → P.ct env' → D.ct σ' H'
def tS (Γ : Ga) (R : XP) (G : Gh) (sm : Sm) : TS := fun D σ H => ∃ Z env P, Rel G σ Z H env ∧ wpS Γ R sm env P ∧ PostOk G Z H P D
section
variable {Γ : Ga} {R : XP} {G : Gh} {X : Cx} {σ σ' : L2.St} {Z Z' Z2 : Addr → Prop} {H H' H2 : Hp} {env env' env2 : Env} {v : V} {d : D} {a : Addr} {P : Post} {D : Ends}
theorem Mon.refl : Mon Z H Z H := ⟨fun _ z => z, fun _ _ _ h => h⟩
theorem Mon.trans (m : Mon Z H Z' H') (n : Mon Z' H' Z2 H2) : Mon Z H Z2 H2 := ⟨fun b z => n.zz b (m.zz b z), fun b o z h => n.hk b o (m.zz b z) (m.hk b o z h)⟩
theorem Stp.mon (s : Stp σ Z H env Z' H' env') (Rl : Rel G σ Z H env) : Mon Z H Z' H' := ⟨s.grow.zz, fun b o z h => s.grow.hk b o h (Rl.nO z)⟩
theorem PostOk.mono (p : PostOk G Z H P D) (m : Mon Z H Z' H') : PostOk G Z' H' P D :=
  ⟨fun s z h e r n q => p.nx s z h e r (m.trans n) q, fun x v s z h e r n q y w => p.rt x v s z h e r (m.trans n) q y w, fun s z h e r n q => p.bk s z h e r (m.trans n) q, fun s z h e r n q => p.ct s z h e r (m.trans n) q⟩
theorem ps_imp {st : Stmt} {t t' : TS} (h : PS X st t) (i : ∀ D σ H, t' D σ H → t D σ H) : PS X st t' := ⟨fun pins s σ H D I hw => h.run pins s σ H D I (i D σ H hw)⟩
theorem pss_imp {st : List Stmt} {t t' : TS} (h : PSs X st t) (i : ∀ D σ H, t' D σ H → t D σ H) : PSs X st t' := ⟨fun pins s σ H D I hw => h.run pins s σ H D I (i D σ H hw)⟩
theorem ps_no {st : Stmt} {t : TS} (h : ∀ D σ H, ¬ t D σ H) : PS X st t := ⟨fun _ _ σ H D _ hw => (h D σ H hw).elim⟩
theorem set_self {j : Nat} (h : σ[j]? = some (some v)) : σ.set j (some v) = σ := by
  refine List.ext_getElem? fun i => ?_
  by_cases q : j = i
  · subst q
    rw [List.getElem?_set_self (List.getElem?_eq_some_iff.mp h).1, h]
  · rw [List.getElem?_set_ne q]
theorem st_ok {j : Nat} {r : Rv} {K : Env → Prop} (Rl : Rel G σ Z H env) (V1 : RepR G σ Z H env r v) (w : stS j r env K) : ∃ env' Z', Rel G (σ.set j (some v)) Z' H env' ∧ Mon Z H Z' H ∧ K env' := by
  unfold stS at w
  have nio : ∀ {W : Prop}, (match env[j]? with | some (Sl.io _) => False | some (.lk _) => False | none => False | _ => W) → (∀ d, env[j]? ≠ some (Sl.io d)) ∧ W := fun {W} w => by
    split at w
    · exact w.elim
    · exact w.elim
    · exact w.elim
    · next h _ _ => exact ⟨fun d e => h d e, w⟩
  obtain ⟨n, w0⟩ := nio w
  clear w
  have w := w0
  clear w0
  cases r with
  | im d => exact ⟨_, Z, Rl.setIm n V1, .refl, w⟩
  | fr d =>
    obtain ⟨a, rfl, nz, no, h0, t⟩ := V1
    exact ⟨_, Z, Rl.setOw n nz no h0 t, .refl, w⟩
  | bo i =>
    have V1 : σ[i]? = some (some v) := V1
    simp only at w
    split at w
    · next d h =>
      by_cases q : i = j
      · rw [if_pos q] at w
        subst q
        rw [set_self V1]
        exact ⟨env, Z, Rl, .refl, w⟩
      · rw [if_neg q] at w
        obtain ⟨a, e, R1, S1, r1⟩ := Rl.freezeSlot h
        rw [V1] at e; cases e
        exact ⟨_, _, R1.setIm (fun d => by rw [List.getElem?_set_ne q]; exact n d) r1, S1.mon Rl, w⟩
    · next d h =>
      obtain ⟨u, e, t⟩ := Rl.im i d h
      rw [V1] at e; cases e
      exact ⟨_, Z, Rl.setIm n t, .refl, w⟩
    · exact w.elim
theorem t_asg {j : Nat} {e : Ex} (hx : tS Γ R G (.asg (.nm j) e) D σ H) : tE Γ R G e σ H fun x H1 => gName j x σ H1 D.nx := by
  obtain ⟨Z, env, P, hR, hw, hp⟩ := hx
  refine ⟨Z, env, _, hR, hw, fun r e1 v Z1 H1 R1 S1 V1 _ w1 => ?_⟩
  obtain ⟨e2, Z2, R2, m, w2⟩ := st_ok R1 V1 w1
  exact hp.nx _ _ _ _ R2 ((S1.mon hR).trans m) w2
theorem s_asgtp {ts : Tg} {e : Ex} {tg ve : Expr} {pos : Pos} (he : PE X ve (tE Γ R G e)) (hg : PG X tg (tG G (.tp ts))) (hs : swapsWithSole [tg] ve pos.line X.env = pure false) (hw : swappedStores [tg] ve X.env = pure none)
    (h1 : (assignEach [tg] X.env).map (·.2) = [assign tg X.env]) : PS X (.Assign [tg] ve pos) (tS Γ R G (.asg (.tp ts) e)) := by
  refine ps_imp (ps_asg he hg hs hw h1) fun D σ H ⟨Z, env, P, hR, hw, hp⟩ => ?_
  have hw : wpE Γ R e env fun r e1 => rd r e1 fun d => bindT (.tp ts) d e1 P.nx := hw
  refine ⟨Z, env, _, hR, hw, fun r e1 v Z1 H1 R1 S1 V1 _ w1 => ?_⟩
  obtain ⟨d, t, w2⟩ := rd_ok R1 V1 w1
  have rp : Rep G.K Z1 H1 v d := by
    cases d <;> simp only [bindT] at w2
    obtain ⟨a, vs, rfl, h1, r1⟩ := t.tup
    exact .tup h1 r1
  exact ⟨Z1, e1, d, _, R1, rp, w2, fun e2 σ2 H2 R2 t2 w3 => hp.nx _ _ _ _ R2 ((S1.mon hR).trans (t2.stp.mon R1)) w3⟩
theorem reps2 {vs : List V} {x y : TG.D} {K : PySem.W.Frag} (r : Reps K Z H vs [x, y]) : ∃ a b, vs = [a, b] ∧ Rep K Z H a x ∧ Rep K Z H b y := by
  cases r with
  | cons h r => cases r with
    | cons h' r => cases r; exact ⟨_, _, rfl, h, h'⟩
theorem reps3 {vs : List V} {x y z : TG.D} {K : PySem.W.Frag} (r : Reps K Z H vs [x, y, z]) : ∃ a b c, vs = [a, b, c] ∧ Rep K Z H a x ∧ Rep K Z H b y ∧ Rep K Z H c z := by
  cases r with
  | cons h r => cases r with
    | cons h' r => cases r with
      | cons h'' r => cases r; exact ⟨_, _, _, rfl, h, h', h''⟩
theorem s_par2 {i j : Nat} {a b : Ex} {x y : Str} {ea eb : Expr} {px py pt pos : Pos} {kt k2 pt2} (hc : X.calm = true) (hN : X.N.Nodup) (hi : X.N[i]? = some x) (hj : X.N[j]? = some y) (hij : i ≠ j)
    (hx : X.env.scope.names.lookup x = some .local) (hy : X.env.scope.names.lookup y = some .local) (ha : PA X [ea, eb] (tA Γ R G (.cons a (.cons b .nil))))
    (hw : swappedStores [.Tuple [.Name x px, .Name y py] kt pt] (.Tuple [ea, eb] k2 pt2) X.env = pure (some [x, y])) : PS X (.Assign [.Tuple [.Name x px, .Name y py] kt pt] (.Tuple [ea, eb] k2 pt2) pos) (tS Γ R G (.par2 i j a b)) := by
  refine ps_imp (ps_par hc hN hi hj hij hx hy ha hw) fun D σ H ⟨Z, env, P, hR, hw, hp⟩ => ?_
  refine ⟨Z, env, _, hR, hw, fun ds e1 vs Z1 H1 R1 S1 r1 w1 => ?_⟩
  rcases ds with _ | ⟨dx, _ | ⟨dy, _ | ⟨_, _⟩⟩⟩ <;> try exact False.elim w1
  have w1 : stS i (.im dx) e1 fun e2 => stS j (.im dy) e2 P.nx := w1
  obtain ⟨u, w, rfl, ru, rw'⟩ := reps2 r1
  obtain ⟨R2, t2, w2⟩ := stS_im R1 ru w1
  obtain ⟨R3, t3, w3⟩ := stS_im R2 (t2.stp.rep R1 rw') w2
  exact ⟨u, w, rfl, hp.nx _ _ _ _ R3 (((S1.mon hR).trans (t2.stp.mon R1)).trans (t3.stp.mon R2)) w3⟩
theorem s_par3 {i j k : Nat} {a b c : Ex} {x y z : Str} {ea eb ec : Expr} {px py pz pt pos : Pos} {kt k2 pt2} (hc : X.calm = true) (hN : X.N.Nodup) (hi : X.N[i]? = some x) (hj : X.N[j]? = some y) (hk : X.N[k]? = some z) (hij : i ≠ j) (hik : i ≠ k) (hjk : j ≠ k)
    (hx : X.env.scope.names.lookup x = some .local) (hy : X.env.scope.names.lookup y = some .local) (hz : X.env.scope.names.lookup z = some .local) (ha : PA X [ea, eb, ec] (tA Γ R G (.cons a (.cons b (.cons c .nil)))))
    (hw : swappedStores [.Tuple [.Name x px, .Name y py, .Name z pz] kt pt] (.Tuple [ea, eb, ec] k2 pt2) X.env = pure (some [x, y, z])) : PS X (.Assign [.Tuple [.Name x px, .Name y py, .Name z pz] kt pt] (.Tuple [ea, eb, ec] k2 pt2) pos) (tS Γ R G (.par3 i j k a b c)) := by
  refine ps_imp (ps_par3 hc hN hi hj hk hij hik hjk hx hy hz ha hw) fun D σ H ⟨Z, env, P, hR, hw, hp⟩ => ?_
  refine ⟨Z, env, _, hR, hw, fun ds e1 vs Z1 H1 R1 S1 r1 w1 => ?_⟩
  rcases ds with _ | ⟨dx, _ | ⟨dy, _ | ⟨dz, _ | ⟨_, _⟩⟩⟩⟩ <;> try exact False.elim w1
  have w1 : stS i (.im dx) e1 fun e2 => stS j (.im dy) e2 fun e3 => stS k (.im dz) e3 P.nx := w1
  obtain ⟨u, w, t, rfl, ru, rw', rt⟩ := reps3 r1
  obtain ⟨R2, t2, w2⟩ := stS_im R1 ru w1
  obtain ⟨R3, t3, w3⟩ := stS_im R2 (t2.stp.rep R1 rw') w2
  obtain ⟨R4, t4, w4⟩ := stS_im R3 (t3.stp.rep R2 (t2.stp.rep R1 rt)) w3
  exact ⟨u, w, t, rfl, hp.nx _ _ _ _ R4 ((((S1.mon hR).trans (t2.stp.mon R1)).trans (t3.stp.mon R2)).trans (t4.stp.mon R3)) w4⟩
theorem own_ref {i : Nat} (Rl : Rel G σ Z H env) (o : isOwn env i) : ∃ a, σ[i]? = some (some (V.ref a)) := by
  unfold isOwn at o
  split at o
  · next d h => obtain ⟨a, e, _⟩ := Rl.ow i d h; exact ⟨a, e⟩
  · next d h => obtain ⟨e, _⟩ := Rl.io i d h; exact ⟨_, e⟩
  · exact o.elim
theorem s_subE {i : Nat} {k e : Ex} {x : Str} {ke ve : Expr} {p2 tpos pos : Pos} (hpl : plainI ke = true) (hnt : ∀ as, k ≠ .tupn as) (hu : X.A.units + 64 < cLine) (hK : X.K = G.K) (hN : X.N[i]? = some x) (hv : Vis X.env.scope x) (hd : (x == ("__debug__" : Str)) = false) (hcd : (x == ("__classdict__" : Str)) = false) (he : PE X ve (tE Γ R G e)) (hk : PE X ke (tE Γ R G k)) :
    PS X (.Assign [.Subscript (.Name x p2) ke tpos] ve pos) (tS Γ R G (.sub i k e)) := by
  obtain ⟨t, ht, s1, _⟩ := dset_ok (X := X) hu
  rw [hK] at s1
  refine ps_imp (ps_asg he (pg_sub (pe_var hN hv hd hcd) hk ht (by intro v; cases ke <;> first | rfl | cases hpl)) (by cases ve <;> rfl) (by cases ve <;> rfl) rfl) fun D σ H ⟨Z, env, P, hR, hw, hp⟩ => ?_
  have hw : wpE Γ R e env fun r e1 => fz r e1 fun v e2 => isOwn e2 i ∧ wpE Γ R k e2 fun r2 e3 => rd r2 e3 fun y => wrS i e3 (fun x f => x.isDtt = false ∧ dSet x y v f) P.nx := by
    cases k <;> first | exact (hnt _ rfl).elim | exact hw
  refine ⟨Z, env, _, hR, hw, fun r e1 v Z1 H1 R1 S1 V1 N1 w1 => ?_⟩
  obtain ⟨dv, e2, Z2, R2, S2, rv, o, w2⟩ := fz_ok R1 S1 V1 N1 w1
  obtain ⟨a, es⟩ := own_ref R2 o
  refine ⟨_, es, Z2, e2, _, R2, w2, fun r3 e3 y Z3 H3 R3 S3 V3 N3 w3 => ?_⟩
  obtain ⟨dy, ty, w3⟩ := rd_ok R3 V3 w3
  obtain ⟨c, b, Kp, es2, tp, ⟨hf1, hf2⟩, fin⟩ := wr_ok (Q := fun _ => True) R3 w3
  rw [es] at es2; cases es2
  refine s1 Z3 H3 a c y v dy dv Kp _ tp ty (S3.rep R2 rv) hf1 hf2 fun d' o k n => ?_
  obtain ⟨env', R4, S4, w4⟩ := fin d' o k n
  exact hp.nx _ _ _ _ R4 (((S2.mon hR).trans (S3.mon R2)).trans (S4.mon R3)) w4
theorem s_subT {i : Nat} {as e : Ex} {x : Str} {ks : List Expr} {ve : Expr} {kk : Nat} {p2 p3 tpos pos : Pos} (hu : X.A.units + 64 < cLine) (hK : X.K = G.K) (hN : X.N[i]? = some x) (hv : Vis X.env.scope x) (hd : (x == ("__debug__" : Str)) = false) (hcd : (x == ("__classdict__" : Str)) = false) (he : PE X ve (tE Γ R G e)) (hk : PA X ks (tA Γ R G as)) :
    PS X (.Assign [.Subscript (.Name x p2) (.Tuple ks kk p3) tpos] ve pos) (tS Γ R G (.sub i (.tupn as) e)) := by
  obtain ⟨t, ht, _, s1⟩ := dset_ok (X := X) hu
  rw [hK] at s1
  refine ps_imp (ps_asg he (pg_sub (pe_var hN hv hd hcd) (pe_tup hk) ht) (by cases ve <;> rfl) (by cases ve <;> rfl) rfl) fun D σ H ⟨Z, env, P, hR, hw, hp⟩ => ?_
  refine ⟨Z, env, _, hR, hw, fun r e1 v Z1 H1 R1 S1 V1 N1 w1 => ?_⟩
  obtain ⟨dv, e2, Z2, R2, S2, rv, o, w2⟩ := fz_ok R1 S1 V1 N1 w1
  obtain ⟨a, es⟩ := own_ref R2 o
  refine ⟨_, es, Z2, e2, _, R2, w2, fun ds e3 ws Z3 H3 R3 S3 r3 w3 => ⟨by rw [r3.length]; exact w3.1, fun p hp0 => ?_⟩⟩
  obtain ⟨c, b, Kp, es2, tp, ⟨hf1, hf2⟩, fin⟩ := wr_ok (Q := fun _ => True) (Rl := R3.frz0 (o := .tup ws) hp0) w3.2
  rw [es] at es2; cases es2
  have zk : ∀ b u, Z3 b → H3 b = some u → upd H3 p (.tup ws) b = some u := fun b u _ h => hk_upd hp0 b u h
  refine s1 (Zi Z3 p) _ a p c v ws ds dv Kp _ tp upd_same (r3.mono (fun _ z => .inl z) zk) ((S3.rep R2 rv).mono (fun _ z => .inl z) zk) hf1 hf2 fun d' o k n => ?_
  obtain ⟨env', R4, S4, w4⟩ := fin d' o k n
  exact hp.nx _ _ _ _ R4 ((((S2.mon hR).trans (S3.mon R2)).trans ((Stp.frz0 (σ := σ) (env := e3) hp0).mon R3)).trans (S4.mon (R3.frz0 hp0))) w4
theorem s_expr {e : Ex} {ve : Expr} {pos : Pos} (he : PE X ve (tE Γ R G e)) (hs : swapsWith ve none pos.line X.env = pure false) : PS X (.Expr ve pos) (tS Γ R G (.expr e)) :=
  ps_imp (ps_expr he hs) fun D σ H ⟨Z, env, P, hR, hw, hp⟩ => ⟨Z, env, _, hR, hw, fun r e1 v Z1 H1 R1 S1 V1 _ w1 => hp.nx _ _ _ _ R1 (S1.mon hR) w1⟩
theorem s_ret {e : Ex} {ve : Expr} {pos : Pos} (he : PE X ve (tE Γ R G e)) : PS X (.Return (some ve) pos) (tS Γ R G (.ret e)) := by
  refine ps_imp (ps_ret he) fun D σ H ⟨Z, env, P, hR, hw, hp⟩ => ?_
  refine ⟨Z, env, _, hR, hw, fun r e1 v Z1 H1 R1 S1 V1 _ w1 => ?_⟩
  cases r with
  | im d => exact hp.rt (.im d) v _ _ _ _ R1 (S1.mon hR) V1 (fun _ q => nomatch q) w1
  | fr d => exact hp.rt (.fr d) v _ _ _ _ R1 (S1.mon hR) V1 (fun _ q => nomatch q) w1
  | bo i =>
    have V1 : σ[i]? = some (some v) := V1
    simp only at w1
    split at w1
    · next d h =>
      obtain ⟨a, e, nz, h0, t⟩ := R1.ow i d h
      rw [V1] at e; cases e
      have il := (List.getElem?_eq_some_iff.mp h).1
      have un : ∀ {j : Nat} {s : Sl}, (e1.set i .un)[j]? = some s → s = .un ∨ (e1[j]? = some s ∧ j ≠ i) := fun {j s} e => by
        by_cases q : i = j
        · subst q
          rw [List.getElem?_set_self il] at e
          cases e; exact .inl rfl
        · rw [List.getElem?_set_ne q] at e
          exact .inr ⟨e, fun z => q z.symm⟩
      have R2 : Rel G σ Z1 H1 (e1.set i .un) := R1.part (by rw [List.length_set]; exact R1.len) fun j s e => (un e).imp id fun q => ⟨q.1, rfl⟩
      refine hp.rt (.fr d) _ _ _ _ _ R2 (S1.mon hR) ⟨a, rfl, nz, fun ⟨j, ⟨c, oj⟩, es⟩ => ?_, h0, t⟩ (fun _ q => nomatch q) w1
      rcases oj with oj | oj
      · rcases un oj with q | ⟨q, n⟩
        · cases q
        · exact n (R1.inj j i a (.inl ⟨c, .inl q⟩) (.inl ⟨d, .inl h⟩) es V1)
      · rcases un oj with q | ⟨q, n⟩
        · cases q
        · exact n (R1.inj j i a (.inl ⟨c, .inr q⟩) (.inl ⟨d, .inl h⟩) es V1)
    · next d h =>
      obtain ⟨u, e, t⟩ := R1.im i d h
      rw [V1] at e; cases e
      exact hp.rt (.im d) v _ _ _ _ R1 (S1.mon hR) t (fun _ q => nomatch q) w1
    · exact w1.elim
theorem s_retN {pos : Pos} : PS X (.Return none pos) (tS Γ R G .retN) := ps_imp ps_retN fun D σ H ⟨Z, env, P, hR, hw, hp⟩ => hp.rt (.im .non) .non _ _ _ _ hR .refl Rep.non (fun _ q => nomatch q) hw
theorem s_pass {pos : Pos} : PS X (.Pass pos) (tS Γ R G .pass) := ps_imp ps_pass fun D σ H ⟨Z, env, P, hR, hw, hp⟩ => hp.nx _ _ _ _ hR .refl hw
theorem s_brk {pos : Pos} : PS X (.Break pos) (tS Γ R G .brk) := ps_imp ps_break fun D σ H ⟨Z, env, P, hR, hw, hp⟩ => hp.bk _ _ _ _ hR .refl hw
theorem s_cont {pos : Pos} : PS X (.Continue pos) (tS Γ R G .cont) := ps_imp ps_continue fun D σ H ⟨Z, env, P, hR, hw, hp⟩ => hp.ct _ _ _ _ hR .refl hw
theorem s_nil : PSs X [] (tS Γ R G .nil) := pss_imp pss_nil fun D σ H ⟨Z, env, P, hR, hw, hp⟩ => hp.nx _ _ _ _ hR .refl hw
theorem s_cons {s : Stmt} {ss : List Stmt} {a b : Sm} (ha : PS X s (tS Γ R G a)) (hb : PSs X ss (tS Γ R G b)) : PSs X (s :: ss) (tS Γ R G (.cons a b)) :=
  pss_imp (pss_cons ha hb) fun D σ H ⟨Z, env, P, hR, hw, hp⟩ => ⟨Z, env, _, hR, hw, ⟨fun σ' Z' H' env' R' m q => ⟨Z', env', P, R', q, hp.mono m⟩, hp.rt, hp.bk, hp.ct⟩⟩
theorem s_if {c : Ex} {a b : Sm} {ce : Expr} {sa sb : List Stmt} {pos : Pos} (hc : PT X ce (tT Γ R G c)) (ha : PSs X sa (tS Γ R G a)) (hb : PSs X sb (tS Γ R G b)) : PS X (.If ce sa sb pos) (tS Γ R G (.ifs c a b)) := by
  refine ps_imp (ps_if hc ha hb) fun D σ H ⟨Z, env, P, hR, hw, hp⟩ => ?_
  refine ⟨Z, env, _, hR, hw, fun k e1 Z1 H1 R1 S1 w1 => ?_⟩
  cases k with
  | true => rw [if_pos rfl] at w1 ⊢; exact ⟨Z1, e1, P, R1, w1, hp.mono (S1.mon hR)⟩
  | false => rw [if_neg Bool.false_ne_true] at w1 ⊢; exact ⟨Z1, e1, P, R1, w1, hp.mono (S1.mon hR)⟩
theorem s_while {c : Ex} {b : Sm} {ce : Expr} {sb : List Stmt} {pos : Pos} (hp0 : PassesOwn (model X.prog X.w) X.A X.env X.xe) (hc : PT X ce (tT Γ R G c)) (hb : PSs X sb (tS Γ R G b)) : PS X (.While ce sb [] pos) (tS Γ R G (.whl c b)) := by
  refine ps_imp (ps_while hp0 hc hb) fun D σ H ⟨Z, env, P, hR, ⟨I, ⟨m0, i0⟩, step⟩, hp⟩ => ?_
  refine ⟨fun m σ' H' => ∃ Z' e, Rel G σ' Z' H' e ∧ Mon Z H Z' H' ∧ I m e, ⟨m0, Z, env, hR, .refl, i0⟩, ?_⟩
  rintro m σ1 H1 ⟨Z1, e1, R1, m1, i1⟩
  refine ⟨Z1, e1, _, R1, step m e1 i1, fun k e2 Z2 H2 R2 S2 w2 => ?_⟩
  have m2 := m1.trans (S2.mon R1)
  cases k with
  | true =>
    rw [if_pos rfl] at w2
    simp only [if_true]
    refine ⟨fun σ' H' => ∃ m', m' < m ∧ ∃ Z' e, Rel G σ' Z' H' e ∧ Mon Z H Z' H' ∧ I m' e, fun σ' H' q => q, Z2, e2, _, R2, w2, ⟨fun σ' Z' H' env' R' mm ⟨m', hm, q⟩ => ⟨m', hm, Z', env', R', m2.trans mm, q⟩, (hp.mono m2).rt, fun σ' Z' H' env' R' mm q => hp.nx _ _ _ _ R' (m2.trans mm) q, fun σ' Z' H' env' R' mm ⟨m', hm, q⟩ => ⟨m', hm, Z', env', R', m2.trans mm, q⟩⟩⟩
  | false =>
    rw [if_neg Bool.false_ne_true] at w2
    simp only [Bool.false_eq_true, if_false]
    exact hp.nx _ _ _ _ R2 m2 w2
/-- a loop's sources, kept for good -/
theorem frz_ok (Rl : Rel G σ Z H env) : ∀ is : List Nat, ∃ Z', Rel G σ Z' H (frzL is env) ∧ Mon Z H Z' H ∧ (∀ (i : Nat) (d : TG.D), env[i]? = some (Sl.io d) → (frzL is env)[i]? = some (Sl.io d)) ∧ ∀ (i : Nat), i ∈ is → ∀ d : TG.D, env[i]? = some (Sl.ow d) → ∃ v : V, σ[i]? = some (some v) ∧ Rep G.K Z' H v d := by
  intro is
  induction is generalizing env Z with
  | nil => exact ⟨Z, Rl, .refl, fun i d h => h, fun i h => nomatch h⟩
  | cons j is ih =>
    unfold frzL
    split
    · next d h =>
      obtain ⟨a, e, R1, S1, r1⟩ := Rl.freezeSlot h
      obtain ⟨Z', R2, m2, io2, fr2⟩ := ih R1
      refine ⟨Z', R2, (S1.mon Rl).trans m2, fun i c hi => io2 i c ?_, fun i hi c hc => ?_⟩
      · by_cases q : j = i
        · subst q; rw [h] at hi; cases hi
        · rw [List.getElem?_set_ne q]; exact hi
      · by_cases q : j = i
        · subst q
          rw [h] at hc; cases hc
          exact ⟨_, e, r1.mono m2.zz m2.hk⟩
        · refine fr2 i ((List.mem_cons.mp hi).elim (fun z => absurd z.symm q) id) c ?_
          rw [List.getElem?_set_ne q]; exact hc
    · next h =>
      obtain ⟨Z', R2, m2, io2, fr2⟩ := ih Rl
      refine ⟨Z', R2, m2, io2, fun i hi c hc => ?_⟩
      rcases List.mem_cons.mp hi with z | z
      · subst z; exact (h c hc).elim
      · exact fr2 i z c hc
theorem s_for {t : Tg} {it : Ex} {b : Sm} {tg ie : Expr} {sb : List Stmt} {pos : Pos} (hp0 : PassesOwn (model X.prog X.w) X.A X.env X.xe) (hc : X.calm = true) (hi : PI X tg ie (tI Γ R G it)) (hg : PG X tg (tG G t)) (hb : PSs X sb (tS Γ R G b)) (hs : ∀ x, foldedSetIterable ie X.env x = pure x) :
    PS X (.For tg ie sb [] pos) (tS Γ R G (.forr t it b)) := by
  refine ps_imp (ps_for hp0 hc hi hg hb hs) fun D σ H ⟨Z, env, P, hR, hw, hp⟩ => ?_
  refine ⟨Z, env, _, hR, hw, fun is its e1 J Z1 H1 R1 S1 wk w1 => ?_⟩
  obtain ⟨Z2, R2, m2, io2, fr2⟩ := frz_ok R1 is
  have w1 : forW (fun d e2 next brk => bindT t d e2 fun e3 => wpS Γ R b e3 { nx := next, rt := P.rt, bk := brk, ct := next }) (staysIo is (frzL is e1)) P.nx its (frzL is e1) := w1
  generalize hturn : (fun (d : TG.D) (e2 : Env) (next brk : Env → Prop) => bindT t d e2 fun e3 => wpS Γ R b e3 { nx := next, rt := P.rt, bk := brk, ct := next }) = turn at w1
  have m12 := (S1.mon hR).trans m2
  refine ⟨fun n m σ' H' => m = its.length - n ∧ n ≤ its.length ∧ ∃ Z' e, Rel G σ' Z' H' e ∧ Mon Z2 H1 Z' H' ∧ forW turn (staysIo is (frzL is e1)) P.nx (its.drop n) e, ⟨its.length, by simp, Nat.zero_le _, Z2, _, R2, .refl, by simpa using w1⟩, ?_⟩
  rintro n m σ' H' ⟨rfl, hn, Z', e, R3, m3, w3⟩
  have ltr : staysIo is (frzL is e1) e → Ltr G is σ Z1 H1 e1 σ' Z' H' e := fun st => by
    refine ⟨R3, (m2.trans m3).zz, (m2.trans m3).hk, fun i hi d hd => ?_⟩
    rcases hd with hd | hd
    · obtain ⟨v, ev, rv⟩ := fr2 i hi d hd
      exact .inr ⟨v, hd, ev, rv.mono m3.zz m3.hk⟩
    · have z := st i hi ⟨d, io2 i d hd⟩
      rw [io2 i d hd] at z
      refine .inl ⟨by rw [z, hd], ?_⟩
      rw [(R3.io i d z).1, (R1.io i d hd).1]
  by_cases hlt : n < its.length
  · right
    rw [List.drop_eq_getElem_cons hlt] at w3
    obtain ⟨st, w3⟩ := (show _ ∧ _ from w3)
    have hgo := (wk _ _ _ _ (ltr st)).1 n its[n] (List.getElem?_eq_getElem hlt)
    refine ⟨hgo.1, fun σ' H' => ∃ m', m' < its.length - n ∧ m' = its.length - (n + 1) ∧ n + 1 ≤ its.length ∧ ∃ Z' e, Rel G σ' Z' H' e ∧ Mon Z2 H1 Z' H' ∧ forW turn (staysIo is (frzL is e1)) P.nx (its.drop (n + 1)) e, fun σ' H' q => q, fun x H'' hy => ?_⟩
    obtain ⟨Z4, R4, S4, r4⟩ := hgo.2 x H'' hy
    subst hturn
    refine ⟨Z4, e, its[n], _, R4, r4, w3, fun env5 σ5 H5 R5 t5 w5 => ?_⟩
    have m5 := (m3.trans (S4.mon R3)).trans (t5.stp.mon R4)
    exact ⟨Z4, env5, _, R5, w5, ⟨fun σ' Z' H' env' R' mm q => ⟨_, by omega, rfl, hlt, Z', env', R', m5.trans mm, q⟩, (hp.mono (m12.trans m5)).rt, fun σ' Z' H' env' R' mm q => hp.nx _ _ _ _ R' (m12.trans (m5.trans mm)) q, fun σ' Z' H' env' R' mm q => ⟨_, by omega, rfl, hlt, Z', env', R', m5.trans mm, q⟩⟩⟩
  · left
    have e : n = its.length := by omega
    subst e
    rw [List.drop_length] at w3
    obtain ⟨st, w3⟩ := (show _ ∧ _ from w3)
    exact ⟨(wk _ _ _ _ (ltr st)).2, hp.nx _ _ _ _ R3 (m12.trans m3) w3⟩
end
end TG
end
section
namespace TG
open PySem PySem.Spec PyProof.Rows L2

structure Ss where
  S : Stmt → Bool
  B : List Stmt → Bool
def oneS (S : Stmt → Bool) : Ss := ⟨S, fun _ => false⟩
def isLC : Expr → Bool
  | .ListComp _ _ _ _ => true
  | .SetComp _ _ _ _ => true
  | .DictComp _ _ _ _ _ => true
  | _ => false
def swapC (sc : Scope) (y : Str) (py : Pos) : Expr → Bool
  | .ListComp _ _ s p => decide (sc.names.lookup y = some .local) && (py.line == p.line) && !(s.names.any fun (n, k) => n == y && (k == .local || k == .cell))
  | _ => false
def swapN : Expr → Bool
  | .Tuple vs _ _ => !(vs.length == 2 || vs.length == 3) || vs.all (foldedForSure 8)
  | _ => true
def isLocal (sc : Scope) (x : Str) : Bool := decide (sc.names.lookup x = some .local)
def isTupX : Ex → Bool
  | .tupn _ => true
  | _ => false
section
variable (N bl : List Str) (sc : Scope) (ow : Str → Bool)
def ms : Sm → Ss
  | .asg (.nm j) e => oneS fun st => match st with
    | .Assign [.Name y py] v _ => decide (N[j]? = some y) && isLoc sc ow y && (mm N bl e).E sc ow v && (!isLC v || swapC sc y py v)
    | _ => false
  | .asg (.tp ts) e => oneS fun st => match st with
    | .Assign [.Tuple tes k p] v _ => mTs N sc ow ts tes && !isLC v && swapN v && (mm N bl e).E sc ow v
    | _ => false
  | .asg _ _ => oneS fun _ => false
  | .par2 i j a b => oneS fun st => match st with
    | .Assign [.Tuple [.Name x px, .Name y py] _ _] (.Tuple [ea, eb] _ _) _ => decide (N[i]? = some x) && decide (N[j]? = some y) && decide (i ≠ j) && isLocal sc x && isLocal sc y && (py.line == px.line) && !([ea, eb].all (foldedForSure 8)) && !([ea, eb].all (constantsAlone 8)) &&
      (mm N bl a).E sc ow ea && (mm N bl b).E sc ow eb
    | _ => false
  | .par3 i j k a b c => oneS fun st => match st with
    | .Assign [.Tuple [.Name x px, .Name y py, .Name z pz] _ _] (.Tuple [ea, eb, ec] _ _) _ => decide (N[i]? = some x) && decide (N[j]? = some y) && decide (N[k]? = some z) && decide (i ≠ j) && decide (i ≠ k) && decide (j ≠ k) && isLocal sc x && isLocal sc y && isLocal sc z && (py.line == px.line) && (pz.line == px.line) &&
      !([ea, eb, ec].all (foldedForSure 8)) && !([ea, eb, ec].all (constantsAlone 8)) && (mm N bl a).E sc ow ea && (mm N bl b).E sc ow eb && (mm N bl c).E sc ow ec
    | _ => false
  | .sub i k e => oneS fun st => match st with
    | .Assign [.Subscript (.Name x _) ke _] v _ => decide (N[i]? = some x) && isVis sc x && okN x && plainI ke && (mm N bl k).E sc ow ke && (mm N bl e).E sc ow v
    | _ => false
  | .expr e => oneS fun st => match st with
    | .Expr v _ => !isLC v && (mm N bl e).E sc ow v
    | _ => false
  | .ret e => oneS fun st => match st with
    | .Return (some v) _ => (mm N bl e).E sc ow v
    | _ => false
  | .retN => oneS fun st => match st with
    | .Return none _ => true
    | _ => false
  | .ifs c a b => oneS fun st => match st with
    | .If ce sa sb _ => (mm N bl c).E sc ow ce && (ms a).B sa && (ms b).B sb
    | _ => false
  | .whl c b => oneS fun st => match st with
    | .While ce sb [] _ => (mm N bl c).E sc ow ce && (ms b).B sb
    | _ => false
  | .forr t it b => oneS fun st => match st with
    | .For tg ie sb [] _ => mT N sc ow t tg && (mm N bl it).I sc ow tg ie && notSet ie && (ms b).B sb
    | _ => false
  | .pass => oneS fun st => match st with
    | .Pass _ => true
    | _ => false
  | .brk => oneS fun st => match st with
    | .Break _ => true
    | _ => false
  | .cont => oneS fun st => match st with
    | .Continue _ => true
    | _ => false
  | .raise _ _ => oneS fun st => match st with
    | .Raise _ _ _ => true
    | _ => false
  | .nil => ⟨fun _ => false, fun ss => match ss with
    | [] => true
    | _ => false⟩
  | .cons a b => ⟨fun _ => false, fun ss => match ss with
    | s :: ss => (ms a).S s && (ms b).B ss
    | _ => false⟩
end
theorem swapsWith_no {v : Expr} {t : Option Expr} {l : Nat} {E : PySem.Env} (h : isLC v = false) : swapsWith v t l E = pure false := by
  cases v <;> first | rfl | cases h
theorem notStarE {e : Expr} (h : noStar e = true) : (match e with | .Starred .. => true | _ => false) = false := by
  cases e <;> first | rfl | cases h
theorem swapN_of {tes : List Expr} {k : Nat} {p : Pos} {v : Expr} {E : PySem.Env} (h : swapN v = true) : swappedStores [.Tuple tes k p] v E = pure none := by
  cases v with
  | Tuple vs k2 p2 =>
    unfold swapN at h
    unfold swappedStores
    simp only
    split
    · rfl
    · rename_i hc
      split
      · rfl
      · split
        · rfl
        · have hv : vs.all (foldedForSure 8) = true := by
            rcases (Bool.or_eq_true _ _).mp h with h | h
            · exfalso
              apply hc
              simp only [Bool.or_eq_true, bne_iff_ne, ne_eq]
              by_cases q : vs.length = tes.length
              · left; left; rw [q] at h; exact h
              · left; right; exact q
            · exact h
          rw [if_pos hv]
  | _ => rfl
theorem blk_fun {E : PySem.Env} (h : E.scope.kind = .function) : E.blockKind = .function := by unfold Env.blockKind; rw [h]; rfl
theorem swap2 {x y : Str} {px py : Pos} {ea eb : Expr} {kt k2 : Nat} {pt pt2 : Pos} {E : PySem.Env} (hk : E.scope.kind = .function) (hx : E.scope.names.lookup x = some .local) (hy : E.scope.names.lookup y = some .local) (hl : (py.line == px.line) = true) (hne : x ≠ y) (na : noStar ea = true) (nb : noStar eb = true)
    (h1 : [ea, eb].all (foldedForSure 8) = false) (h2 : [ea, eb].all (constantsAlone 8) = false) : swappedStores [.Tuple [.Name x px, .Name y py] kt pt] (.Tuple [ea, eb] k2 pt2) E = pure (some [x, y]) := by
  unfold swappedStores
  have kx : E.kindOf x = some .local := hx
  have ky : E.kindOf y = some .local := hy
  have hb := blk_fun hk
  have hl' := beq_iff_eq.mp hl
  have hne' : (y == x) = false := by simpa using fun e => hne e.symm
  simp only [hb]
  rw [if_neg (by simp)]
  rw [if_neg (by
    rw [Bool.not_eq_true, List.any_eq_false]
    intro e he
    have ne : noStar e = true := by
      simp only [List.mem_cons, List.not_mem_nil, or_false] at he
      rcases he with rfl | rfl
      · exact na
      · exact nb
    cases e <;> first | exact Bool.false_ne_true | cases ne)]
  rw [h1, h2]
  simp [kx, ky, Expr.pos, hl', List.eraseDups_cons, hne']
theorem swap3 {x y z : Str} {px py pz : Pos} {ea eb ec : Expr} {kt k2 : Nat} {pt pt2 : Pos} {E : PySem.Env} (hk : E.scope.kind = .function) (hx : E.scope.names.lookup x = some .local) (hy : E.scope.names.lookup y = some .local) (hz : E.scope.names.lookup z = some .local) (hl : (py.line == px.line) = true) (hl2 : (pz.line == px.line) = true) (hne : x ≠ y) (hne2 : x ≠ z) (hne3 : y ≠ z) (na : noStar ea = true) (nb : noStar eb = true) (nc : noStar ec = true)
    (h1 : [ea, eb, ec].all (foldedForSure 8) = false) (h2 : [ea, eb, ec].all (constantsAlone 8) = false) : swappedStores [.Tuple [.Name x px, .Name y py, .Name z pz] kt pt] (.Tuple [ea, eb, ec] k2 pt2) E = pure (some [x, y, z]) := by
  unfold swappedStores
  have kx : E.kindOf x = some .local := hx
  have ky : E.kindOf y = some .local := hy
  have kz : E.kindOf z = some .local := hz
  have hb := blk_fun hk
  have hl' := beq_iff_eq.mp hl
  have hl2' := beq_iff_eq.mp hl2
  have hne' : (y == x) = false := by simpa using fun e => hne e.symm
  have hne2' : (z == x) = false := by simpa using fun e => hne2 e.symm
  have hne3' : (z == y) = false := by simpa using fun e => hne3 e.symm
  simp only [hb]
  rw [if_neg (by simp)]
  rw [if_neg (by
    rw [Bool.not_eq_true, List.any_eq_false]
    intro e he
    have ne : noStar e = true := by
      simp only [List.mem_cons, List.not_mem_nil, or_false] at he
      rcases he with rfl | rfl | rfl
      · exact na
      · exact nb
      · exact nc
    cases e <;> first | exact Bool.false_ne_true | cases ne)]
  rw [h1, h2]
  simp [kx, ky, kz, Expr.pos, hl', hl2', List.eraseDups_cons, hne', hne2', hne3']
section
variable {Γ : Ga} {R : XP} {G : Gh} {X : Cx} {N bl : List Str} {sc : Scope} {ow : Str → Bool}
structure SOk (Γ : Ga) (R : XP) (G : Gh) (N : List Str) (sc : Scope) (ow : Str → Bool) (bl : List Str) (X : Cx) : Prop extends XOk Γ R G N sc ow bl X where
  own : PassesOwn (model X.prog X.w) X.A X.env X.xe
  kind : sc.kind = .function
theorem swapC_of {y : Str} {py spos : Pos} {v : Expr} (h : SOk Γ R G N sc ow bl X) (m : swapC sc y py v = true) : ∃ elt gens s p, v = .ListComp elt gens s p ∧ X.env.scope.names.lookup y = some .local ∧ swapsWith v (some (.Name y py)) spos.line X.env = pure true := by
  cases v <;> try cases m
  rename_i elt gens s p
  simp only [swapC, Bool.and_eq_true, decide_eq_true_eq, Bool.not_eq_true'] at m
  refine ⟨elt, gens, s, p, rfl, by rw [h.hsc]; exact m.1.1, sw_true (by rw [h.hsc]; exact h.kind) (by rw [h.hsc]; exact m.1.1) m.1.2 m.2⟩
theorem nd_ne (h : SOk Γ R G N sc ow bl X) {i j : Nat} {x y : Str} (hi : N[i]? = some x) (hj : N[j]? = some y) (n : i ≠ j) : x ≠ y := fun e => n (nodup_ix h.nd hi (by rw [e]; exact hj))
theorem sok (h : SOk Γ R G N sc ow bl X) (sm : Sm) : (∀ st, (ms N bl sc ow sm).S st = true → PS X st (tS Γ R G sm)) ∧ ∀ ss, (ms N bl sc ow sm).B ss = true → PSs X ss (tS Γ R G sm) := by
  have hX := h.toXOk
  induction sm with
  | asg t e =>
    cases t with
    | nm j =>
      refine ⟨fun st m => ?_, fun ss m => by cases m⟩
      cases st <;> try cases m
      rename_i ts v spos
      rcases ts with _ | ⟨t, _ | ⟨_, _⟩⟩ <;> try first | cases m | (exfalso; simp [ms, oneS] at m; done)
      cases t <;> try cases m
      rename_i y py
      simp only [ms, oneS, Bool.and_eq_true, Bool.or_eq_true, decide_eq_true_eq, Bool.not_eq_true'] at m
      obtain ⟨⟨⟨m1, m2⟩, m3⟩, m4⟩ := m
      have l := isLoc_of m2
      by_cases q : isLC v = true
      · have m4 : swapC sc y py v = true := m4.elim (fun z => by rw [q] at z; cases z) id
        obtain ⟨elt, gens, s, p, rfl, hyl, hsw⟩ := swapC_of (spos := spos) h m4
        have : ∃ vs tg it c e', e = .comp vs tg it c e' := by
          cases e <;> first | exact ⟨_, _, _, _, _, rfl⟩ | (exfalso; simp [mm, mkM, mkI] at m3; done)
        obtain ⟨vs, tg, it, c, e', rfl⟩ := this
        obtain ⟨tgE, iter, ifs, rfl, cp⟩ := comp_parts hX m3
        have base := ps_setLc (pos := p) (spos := spos) (py := py) h.calm (by rw [h.hN]; exact h.nd) (by rw [h.hN]; exact m1) hyl hsw cp.hi cp.ok cp.hg cp.ht cp.he cp.hs
        rw [ownN_snd] at base
        exact ps_imp base fun D σ H hx => comp_sem cp.nm (t_asg hx)
      · have q : isLC v = false := by simpa using q
        refine ps_imp (ps_set (by rw [h.hN]; exact h.nd) (by rw [h.hN]; exact m1) (by rw [h.hsc]; exact l.imp id And.left) ((mok Γ G N bl e).E hX m3) (swapsWith_no q) ?_) fun D σ H hx => t_asg hx
        rcases l with l | l
        · exact .inr (by rw [h.hsc]; exact l)
        · exact .inl (h.cell _ l.2)
    | tp ts =>
      refine ⟨fun st m => ?_, fun ss m => by cases m⟩
      cases st <;> try cases m
      rename_i tl v spos
      rcases tl with _ | ⟨t, _ | ⟨_, _⟩⟩ <;> try first | cases m | (exfalso; simp [ms, oneS] at m; done)
      cases t <;> try cases m
      simp only [ms, oneS, Bool.and_eq_true, Bool.not_eq_true'] at m
      obtain ⟨⟨⟨m1, m2⟩, m3⟩, m4⟩ := m
      exact s_asgtp ((mok Γ G N bl e).E hX m4) (tg_ok hX.tok (.tp ts) _ (by simpa only [mT] using m1)) (by cases v <;> first | rfl | cases m2) (swapN_of m3) rfl
    | sub _ _ => exact ⟨fun st m => (by cases m), fun ss m => (by cases m)⟩
    | nil => exact ⟨fun st m => (by cases m), fun ss m => (by cases m)⟩
    | cons _ _ => exact ⟨fun st m => (by cases m), fun ss m => (by cases m)⟩
  | par2 i j a b =>
    refine ⟨fun st m => ?_, fun ss m => by cases m⟩
    simp only [ms, oneS] at m
    split at m <;> try cases m
    rename_i x px y py kt pt ea eb k2 pt2 spos
    simp only [Bool.and_eq_true, decide_eq_true_eq, Bool.not_eq_true', isLocal] at m
    obtain ⟨⟨⟨⟨⟨⟨⟨⟨⟨m1, m2⟩, m3⟩, m4⟩, m5⟩, m6⟩, m7⟩, m8⟩, m9⟩, m10⟩ := m
    refine s_par2 h.calm (by rw [h.hN]; exact h.nd) (by rw [h.hN]; exact m1) (by rw [h.hN]; exact m2) m3 (by rw [h.hsc]; exact m4) (by rw [h.hsc]; exact m5)
      (s_acons (star_cons (mm_star m9)) ((mok Γ G N bl a).E hX m9) (s_acons (star_cons (mm_star m10)) ((mok Γ G N bl b).E hX m10) s_anil)) (swap2 (by rw [h.hsc]; exact h.kind) (by rw [h.hsc]; exact m4) (by rw [h.hsc]; exact m5) m6 (nd_ne h m1 m2 m3) (mm_star m9) (mm_star m10) m7 m8)
  | par3 i j k a b c =>
    refine ⟨fun st m => ?_, fun ss m => by cases m⟩
    simp only [ms, oneS] at m
    split at m <;> try cases m
    simp only [Bool.and_eq_true, decide_eq_true_eq, Bool.not_eq_true', isLocal] at m
    obtain ⟨⟨⟨⟨⟨⟨⟨⟨⟨⟨⟨⟨⟨⟨⟨m1, m2⟩, m3⟩, m4⟩, m5⟩, m6⟩, m7⟩, m8⟩, m9⟩, m10⟩, m11⟩, m12⟩, m13⟩, m14⟩, m15⟩, m16⟩ := m
    refine s_par3 h.calm (by rw [h.hN]; exact h.nd) (by rw [h.hN]; exact m1) (by rw [h.hN]; exact m2) (by rw [h.hN]; exact m3) m4 m5 m6 (by rw [h.hsc]; exact m7) (by rw [h.hsc]; exact m8) (by rw [h.hsc]; exact m9)
      (s_acons (star_cons (mm_star m14)) ((mok Γ G N bl a).E hX m14) (s_acons (star_cons (mm_star m15)) ((mok Γ G N bl b).E hX m15) (s_acons (star_cons (mm_star m16)) ((mok Γ G N bl c).E hX m16) s_anil)))
      (swap3 (by rw [h.hsc]; exact h.kind) (by rw [h.hsc]; exact m7) (by rw [h.hsc]; exact m8) (by rw [h.hsc]; exact m9) m10 m11 (nd_ne h m1 m2 m4) (nd_ne h m1 m3 m5) (nd_ne h m2 m3 m6) (mm_star m14) (mm_star m15) (mm_star m16) m12 m13)
  | sub i k e =>
    refine ⟨fun st m => ?_, fun ss m => by cases m⟩
    simp only [ms, oneS] at m
    split at m <;> try cases m
    simp only [Bool.and_eq_true, decide_eq_true_eq] at m
    obtain ⟨⟨⟨⟨⟨m1, m2⟩, m3⟩, m4⟩, m5⟩, m6⟩ := m
    obtain ⟨d1, d2⟩ := okN_of m3
    by_cases q : ∃ as, k = .tupn as
    · obtain ⟨as, rfl⟩ := q
      rename_i ke _ _ _
      have : ∃ es kk p3, ke = .Tuple es kk p3 ∧ (mm N bl as).L sc ow es = true := by
        cases ke <;> try cases m5
        exact ⟨_, _, _, rfl, m5⟩
      obtain ⟨es, kk, p3, rfl, m5'⟩ := this
      exact s_subT h.un h.hK (by rw [h.hN]; exact m1) (by rw [h.hsc]; exact isVis_of m2) d1 d2 ((mok Γ G N bl e).E hX m6) ((mok Γ G N bl as).A hX m5')
    · exact s_subE m4 (fun as z => q ⟨as, z⟩) h.un h.hK (by rw [h.hN]; exact m1) (by rw [h.hsc]; exact isVis_of m2) d1 d2 ((mok Γ G N bl e).E hX m6) ((mok Γ G N bl k).E hX m5)
  | expr e =>
    refine ⟨fun st m => ?_, fun ss m => by cases m⟩
    simp only [ms, oneS] at m
    split at m <;> try cases m
    simp only [Bool.and_eq_true, Bool.not_eq_true'] at m
    exact s_expr ((mok Γ G N bl e).E hX m.2) (swapsWith_no m.1)
  | ret e =>
    refine ⟨fun st m => ?_, fun ss m => by cases m⟩
    simp only [ms, oneS] at m
    split at m <;> try cases m
    exact s_ret ((mok Γ G N bl e).E hX m)
  | retN =>
    refine ⟨fun st m => ?_, fun ss m => by cases m⟩
    simp only [ms, oneS] at m
    split at m <;> try cases m
    exact s_retN
  | ifs c a b iha ihb =>
    refine ⟨fun st m => ?_, fun ss m => by cases m⟩
    simp only [ms, oneS] at m
    split at m <;> try cases m
    simp only [Bool.and_eq_true] at m
    exact s_if ((mok Γ G N bl c).T hX m.1.1) (iha.2 _ m.1.2) (ihb.2 _ m.2)
  | whl c b ih =>
    refine ⟨fun st m => ?_, fun ss m => by cases m⟩
    simp only [ms, oneS] at m
    split at m <;> try cases m
    simp only [Bool.and_eq_true] at m
    exact s_while h.own ((mok Γ G N bl c).T hX m.1) (ih.2 _ m.2)
  | forr t it b ih =>
    refine ⟨fun st m => ?_, fun ss m => by cases m⟩
    simp only [ms, oneS] at m
    split at m <;> try cases m
    simp only [Bool.and_eq_true] at m
    exact s_for h.own h.calm ((mok Γ G N bl it).I hX m.1.1.2) (tg_ok hX.tok t _ m.1.1.1) (ih.2 _ m.2) (notSet_of m.1.2)
  | pass =>
    refine ⟨fun st m => ?_, fun ss m => by cases m⟩
    simp only [ms, oneS] at m
    split at m <;> try cases m
    exact s_pass
  | brk =>
    refine ⟨fun st m => ?_, fun ss m => by cases m⟩
    simp only [ms, oneS] at m
    split at m <;> try cases m
    exact s_brk
  | cont =>
    refine ⟨fun st m => ?_, fun ss m => by cases m⟩
    simp only [ms, oneS] at m
    split at m <;> try cases m
    exact s_cont
  | raise _ _ => exact ⟨fun st m => ps_no fun D σ H ⟨Z, env, P, hR, hw, hp⟩ => False.elim hw, fun ss m => (by cases m)⟩
  | nil =>
    refine ⟨fun st m => (by cases m), fun ss m => ?_⟩
    cases ss <;> try cases m
    exact s_nil
  | cons a b iha ihb =>
    refine ⟨fun st m => (by cases m), fun ss m => ?_⟩
    cases ss <;> try cases m
    have m' := m
    simp only [ms, Bool.and_eq_true] at m'
    exact s_cons (iha.1 _ m'.1) (ihb.2 _ m'.2)
end
end TG
end
section
namespace TG
open PySem PySem.Spec PyProof.Rows L2

def env0 : List Bool → List D → Env
  | true :: ms, d :: ds => .io d :: env0 ms ds
  | false :: ms, d :: ds => .im d :: env0 ms ds
  | _, _ => []
/-- the things to be changed, at the end -/
def finsE : List Bool → Env → Option (List D)
  | [], _ => some []
  | true :: ms, .io d :: e => (finsE ms e).map (d :: ·)
  | false :: ms, _ :: e => finsE ms e
  | _, _ => none
def PostF (io : List Bool) (Q : Rv → List D → Prop) : Post where
  nx := fun e => ∃ fs, finsE io e = some fs ∧ Q (.im .non) fs
  rt := fun r e => ∃ fs, finsE io e = some fs ∧ Q r fs
  bk := fun _ => False
  ct := fun _ => False
def XF (io : List Bool) (E : XD → List D → Prop) : XP := fun x e => ∃ fs, finsE io e = some fs ∧ E x fs
/-- the promise fi is kept by the body sm -/
def Keeps (Γ : Ga) (n : Nat) (sm : Sm) (fi : FI) : Prop := ∀ ds Q E, fi.sp ds Q E → ds.length = fi.io.length ∧ fi.io.length ≤ n ∧ wpS Γ (XF fi.io E) sm (env0 fi.io ds ++ List.replicate (n - fi.io.length) .un) (PostF fi.io Q)

section
variable {K : PySem.W.Frag} {Z Z' : Addr → Prop} {H H' : Hp} {ms : List Bool} {vs : List V} {ds : List D} {as : List Addr}
theorem ArgsOk.lens : ∀ {ms : List Bool} {vs : List V} {ds : List D} {as : List Addr}, ArgsOk K Z H ms vs ds as → vs.length = ms.length ∧ ds.length = ms.length ∧ (env0 ms ds).length = ms.length
  | _, _, _, _, .nil => ⟨rfl, rfl, rfl⟩
  | _, _, _, _, .im h r => by obtain ⟨h1, h2, h3⟩ := r.lens; exact ⟨by simp [h1], by simp [h2], by simp [env0, h3]⟩
  | _, _, _, _, .io _ _ _ r => by obtain ⟨h1, h2, h3⟩ := r.lens; exact ⟨by simp [h1], by simp [h2], by simp [env0, h3]⟩
theorem ArgsOk.slots : ∀ {ms : List Bool} {vs : List V} {ds : List D} {as : List Addr}, ArgsOk K Z H ms vs ds as → ∀ (i : Nat) (s : Sl), (env0 ms ds)[i]? = some s →
    (∃ d v, s = .im d ∧ vs[i]? = some v ∧ Rep K Z H v d) ∨ ∃ d a, s = .io d ∧ vs[i]? = some (V.ref a) ∧ ¬ Z a ∧ a ∈ as ∧ Top K Z H a d
  | _, _, _, _, .nil, i, s, e => by simp [env0] at e
  | _, _, _, _, .im h r, 0, s, e => by simp [env0] at e; subst e; exact .inl ⟨_, _, rfl, rfl, h⟩
  | _, _, _, _, .im (ms := ms) (ds := ds) h r, i + 1, s, e => by
    have e : (env0 ms ds)[i]? = some s := by simpa [env0] using e
    simpa using r.slots i s e
  | _, _, _, _, .io nz n h r, 0, s, e => by simp [env0] at e; subst e; exact .inr ⟨_, _, rfl, rfl, nz, by simp, h⟩
  | _, _, _, _, .io (ms := ms) (ds := ds) nz n h r, i + 1, s, e => by
    have e : (env0 ms ds)[i]? = some s := by simpa [env0] using e
    rcases r.slots i s e with ⟨d, v, q⟩ | ⟨d, a, q1, q2, q3, q4, q5⟩
    · exact .inl ⟨d, v, by simpa using q⟩
    · exact .inr ⟨d, a, q1, by simpa using q2, q3, by simp [q4], q5⟩
theorem ArgsOk.inj : ∀ {ms : List Bool} {vs : List V} {ds : List D} {as : List Addr}, ArgsOk K Z H ms vs ds as → ∀ (i j : Nat) (d d' : D) (a : Addr), (env0 ms ds)[i]? = some (.io d) → (env0 ms ds)[j]? = some (.io d') → vs[i]? = some (V.ref a) → vs[j]? = some (V.ref a) → i = j
  | _, _, _, _, .nil, i, j, d, d', a, e, _, _, _ => by simp [env0] at e
  | _, _, _, _, .im h r, 0, j, d, d', a, e, _, _, _ => by simp [env0] at e
  | _, _, _, _, .im h r, i + 1, 0, d, d', a, _, e, _, _ => by simp [env0] at e
  | _, _, _, _, .im h r, i + 1, j + 1, d, d', a, e1, e2, e3, e4 => by
    rw [r.inj i j d d' a (by simpa [env0] using e1) (by simpa [env0] using e2) (by simpa using e3) (by simpa using e4)]
  | _, _, _, _, .io nz n h r, 0, 0, d, d', a, _, _, _, _ => rfl
  | _, _, _, _, .io (ms := ms) (ds := ds) nz n h r, 0, j + 1, d, d', a, e1, e2, e3, e4 => by
    have e2 : (env0 ms ds)[j]? = some (Sl.io d') := by simpa [env0] using e2
    simp at e3 e4
    subst e3
    rcases r.slots j _ e2 with ⟨c, v, q, _⟩ | ⟨c, b, _, q2, _, q4, _⟩
    · cases q
    · rw [e4] at q2; cases q2; exact (n q4).elim
  | _, _, _, _, .io (ms := ms) (ds := ds) nz n h r, i + 1, 0, d, d', a, e1, e2, e3, e4 => by
    have e1 : (env0 ms ds)[i]? = some (Sl.io d) := by simpa [env0] using e1
    simp at e3 e4
    subst e4
    rcases r.slots i _ e1 with ⟨c, v, q, _⟩ | ⟨c, b, _, q2, _, q4, _⟩
    · cases q
    · rw [e3] at q2; cases q2; exact (n q4).elim
  | _, _, _, _, .io nz n h r, i + 1, j + 1, d, d', a, e1, e2, e3, e4 => by
    rw [r.inj i j d d' a (by simpa [env0] using e1) (by simpa [env0] using e2) (by simpa using e3) (by simpa using e4)]
theorem ArgsOk.fin : ∀ {ms : List Bool} {vs : List V} {ds : List D} {as : List Addr}, ArgsOk K Z H ms vs ds as → ∀ (e : Env) (f : Nat → Addr) (fs : List D), (∀ i a, ms[i]? = some true → vs[i]? = some (V.ref a) → f i = a) →
    (∀ (i : Nat) d, e[i]? = some (Sl.io d) → Top K Z' H' (f i) d) → finsE ms e = some fs → FinOk K Z' H' as fs
  | _, _, _, _, .nil, e, f, fs, _, _, h => by simp [finsE] at h; subst h; exact .nil
  | _, _, _, _, .im _ r, e, f, fs, hf, ht, h => by
    cases e with
    | nil => simp [finsE] at h
    | cons s e => exact r.fin e (fun i => f (i + 1)) fs (fun i a h1 h2 => hf (i + 1) a (by simpa using h1) (by simpa using h2)) (fun i d h => ht (i + 1) d (by simpa using h)) (by simpa [finsE] using h)
  | _, _, _, _, .io (a := a) _ _ _ r, e, f, fs, hf, ht, h => by
    cases e with
    | nil => simp [finsE] at h
    | cons s e =>
      cases s <;> simp only [finsE] at h <;> try cases h
      rename_i d
      cases q : finsE _ e with
      | none => rw [q] at h; cases h
      | some gs =>
        rw [q] at h; cases h
        have fa : f 0 = a := hf 0 a rfl rfl
        exact .cons (by have := ht 0 d rfl; rwa [fa] at this) (r.fin e (fun i => f (i + 1)) gs (fun i a h1 h2 => hf (i + 1) a (by simpa using h1) (by simpa using h2)) (fun i d h => ht (i + 1) d (by simpa using h)) q)
end
/-- the ghost of a def's run -/
def ghF (K : PySem.W.Frag) (H : Hp) (Z : Addr → Prop) (vs : List V) (as : List Addr) : Gh := ⟨K, H, fun a => a ∈ as, Z, fun i => match vs[i]? with
  | some (.ref a) => a
  | _ => 0⟩
section
variable {P : Program} {w : World} {K : PySem.W.Frag} {mg : Str → Option Value} {base : Heap} {Γ : Ga} {N bl : List Str}
theorem start_get {N : List Str} {vs : List V} {i : Nat} {v : V} (h : vs[i]? = some v) : (L2.start N vs)[i]? = some (some v) := by
  unfold L2.start
  rw [List.getElem?_append_left (by rw [List.length_map]; exact (List.getElem?_eq_some_iff.mp h).1), List.getElem?_map, h]
  rfl
theorem rel_start {H : Hp} {Z : Addr → Prop} {ms : List Bool} {vs : List V} {ds : List D} {as : List Addr} (A : ArgsOk K Z H ms vs ds as) (zt : ∀ b, Z b → ∃ o, H b = some o) (hl : ms.length ≤ N.length) :
    Rel (ghF K H Z vs as) (L2.start N vs) Z H (env0 ms ds ++ List.replicate (N.length - ms.length) .un) := by
  obtain ⟨l1, l2, l3⟩ := A.lens
  have get : ∀ (i : Nat) (s : Sl), (env0 ms ds ++ List.replicate (N.length - ms.length) Sl.un)[i]? = some s → s ≠ .un → (env0 ms ds)[i]? = some s := fun i s e n => by
    by_cases q : i < (env0 ms ds).length
    · rwa [List.getElem?_append_left q] at e
    · rw [List.getElem?_append_right (by omega), List.getElem?_replicate] at e
      split at e
      · cases e; exact (n rfl).elim
      · cases e
  refine ⟨by simp [L2.start, l1, l3], fun i d h => ?_, fun i d h => ?_, fun i d h => ?_, fun i d h => ?_, fun i j a hi hj e1 e2 => ?_, fun b z => z, fun b z => .inl z, zt, fun b o h _ => h, fun b u h => ⟨u, h⟩⟩
  · rcases A.slots i _ (get i _ h (fun q => nomatch q)) with ⟨c, v, q, e, r⟩ | ⟨c, a, q, _⟩
    · cases q; exact ⟨v, start_get e, r⟩
    · cases q
  · rcases A.slots i _ (get i _ h (fun q => nomatch q)) with ⟨c, v, q, e, r⟩ | ⟨c, a, q, _⟩ <;> cases q
  · rcases A.slots i _ (get i _ h (fun q => nomatch q)) with ⟨c, v, q, e, r⟩ | ⟨c, a, q, e, nz, ha, t⟩
    · cases q
    · cases q
      have ea : (ghF K H Z vs as).ad i = a := by show (match vs[i]? with | some (.ref a) => a | _ => 0) = a; rw [e]
      rw [ea]
      exact ⟨start_get e, nz, ha, t⟩
  · rcases A.slots i _ (get i _ h (fun q => nomatch q)) with ⟨c, v, q, e, r⟩ | ⟨c, a, q, _⟩ <;> cases q
  · have io : ∀ i, ownk (env0 ms ds ++ List.replicate (N.length - ms.length) Sl.un) i → (L2.start N vs)[i]? = some (some (V.ref a)) → ∃ d, (env0 ms ds)[i]? = some (.io d) ∧ vs[i]? = some (V.ref a) := fun i hi e => by
      rcases hi with ⟨d, hi | hi⟩ | ⟨d, hi⟩
      · rcases A.slots i _ (get i _ hi (fun q => nomatch q)) with ⟨c, v, q, _⟩ | ⟨c, a, q, _⟩ <;> cases q
      · have g := get i _ hi (fun q => nomatch q)
        rcases A.slots i _ g with ⟨c, v, q, _⟩ | ⟨c, b, q, eb, _⟩
        · cases q
        · rw [start_get eb] at e; cases e
          exact ⟨d, g, eb⟩
      · rcases A.slots i _ (get i _ hi (fun q => nomatch q)) with ⟨c, v, q, _⟩ | ⟨c, a, q, _⟩ <;> cases q
    obtain ⟨d, g1, f1⟩ := io i hi e1
    obtain ⟨d', g2, f2⟩ := io j hj e2
    exact A.inj i j d d' a g1 g2 f1 f2
/-- behind the body -/
theorem end_ok {H : Hp} {Z : Addr → Prop} {ms : List Bool} {vs : List V} {ds : List D} {as : List Addr} {σ' : L2.St} {Z' : Addr → Prop} {H' : Hp} {e : Env} {fs : List D} (A : ArgsOk K Z H ms vs ds as) (R : Rel (ghF K H Z vs as) σ' Z' H' e) (h : finsE ms e = some fs) :
    Aft Z H as Z' H' ∧ FinOk K Z' H' as fs := by
  refine ⟨⟨R.z0, R.z1, R.zt, fun b o hb n => R.keep b o hb n⟩, A.fin e (ghF K H Z vs as).ad fs (fun i a _ ev => ?_) (fun i d hi => (R.io i d hi).2.2.2) h⟩
  show (match vs[i]? with | some (.ref a) => a | _ => 0) = a
  rw [ev]
theorem fn_keepsE {x qual : Str} {st : Stmt} {f : Addr} {fd : FuncData} {ps : List Str} {k : Nat} {sm : Sm} {fi : FI} (F : L2.Fun K x qual st f fd) (S : FnScope N ps (defScope st)) (hps : ps.length = fi.io.length)
    (mB : (TG.ms N bl (defScope st) (fun _ => true) sm).B (defBody st) = true) (hbl : ∀ y ∈ bl, mg y = none) (hcs : ∀ y d, Γ.cs y = some d → ∃ v u, mg y = some u ∧ RelV v u ∧ ∀ Z H, Rep K Z H v d)
    (hfn : ∀ g gi, Γ.fn g = some gi → FnIs P w K mg base k g gi) (kp : Keeps Γ N.length sm fi) : FnOk P w K mg base (L2.CX P w) (k + 1) f fd ps (lift mg K fi) := by
  refine F.okX S (fun vs H Q E h => ?_) (fun cdv A outer s H vs Q E hr h => ?_)
  · obtain ⟨Z, ds, as, Qd, Rd, a1, _⟩ := h
    rw [a1.lens.1, hps]
  · obtain ⟨Z, ds, as, Qd, Rd, a1, zt, sp, hQ, hE⟩ := h
    obtain ⟨dl, nl, wp⟩ := kp ds Qd Rd sp
    have R0 := rel_start (N := N) a1 zt nl
    refine ⟨_, (sok (Γ := Γ) (R := XF fi.io Rd) (G := ghF K H Z vs as) (N := N) (bl := bl) (sc := defScope st) (ow := fun _ => true) ⟨⟨rfl, S.nd, rfl, rfl, rfl, hr.units, hbl, hcs, fun g gi hg => ⟨k, hr, hfn g gi hg⟩, fun σ => ?_, fun _ _ => rfl⟩, passes_of rfl, S.kind⟩ sm).2 _ mB, Z, _, _, R0, wp, ?_⟩
    · have tk : Takes (cxOf (L2.CX P w) P w K mg base N qual (defScope st) f cdv A outer s H E) (fun cls d _ H => E cls d H) := takes_of rfl rfl rfl rfl
      exact fun pins H1 s1 e s' I c => passes_call tk (E := WR mg (ghF K H Z vs as) (XF fi.io Rd) σ) (fun cls d σ' H' ⟨Z', env, x, R', xr, fs, hfs, q⟩ => by
        obtain ⟨af, fo⟩ := end_ok a1 R' hfs
        exact hE x fs cls d H' Z' af fo xr q) pins σ H1 s1 e s' I c
    · refine ⟨fun σ' Z' H' env' R' _ ⟨fs, hfs, q⟩ => ?_, fun r v σ' Z' H' env' R' _ V1 nb ⟨fs, hfs, q⟩ => ?_, fun _ _ _ _ _ _ q => q.elim, fun _ _ _ _ _ _ q => q.elim⟩
      · obtain ⟨af, fo⟩ := end_ok a1 R' hfs
        exact hQ (.im .non) fs .non H' Z' af fo Rep.non q
      · obtain ⟨af, fo⟩ := end_ok a1 R' hfs
        refine hQ r fs v H' Z' af fo ?_ q
        cases r with
        | im d => exact V1
        | fr d => obtain ⟨a, e, nz, _, h0, t⟩ := V1; exact ⟨a, e, nz, h0, t⟩
        | bo i => exact (nb i rfl).elim
theorem fn_keeps {x qual : Str} {st : Stmt} {f : Addr} {fd : FuncData} {ps : List Str} {k : Nat} {sm : Sm} {fi : FI} (F : L2.Fun K x qual st f fd) (S : FnScope N ps (defScope st)) (hps : ps.length = fi.io.length) (hm : mg x = some (.ref f)) (hb : Binds K fd ps [])
    (mB : (TG.ms N bl (defScope st) (fun _ => true) sm).B (defBody st) = true) (hbl : ∀ y ∈ bl, mg y = none) (hcs : ∀ y d, Γ.cs y = some d → ∃ v u, mg y = some u ∧ RelV v u ∧ ∀ Z H, Rep K Z H v d)
    (hfn : ∀ g gi, Γ.fn g = some gi → FnIs P w K mg base k g gi) (kp : Keeps Γ N.length sm fi) : FnIs P w K mg base (k + 1) x fi :=
  ⟨f, fd, ps, fn_keepsE F S hps mB hbl hcs hfn kp, hm, F.kp, hb⟩
/-- a def of the program -/
structure Df where
  x : Str
  qual : Str
  st : Stmt
  N : List Str
  ps : List Str
  sm : Sm
  fi : FI
def gam (cs : Str → Option D) (l : List Df) : Ga := ⟨fun x => (l.find? fun d => d.x == x).map (·.fi), cs⟩
/-- what is shown of a def's text -/
structure DfTxt (bl : List Str) (d : Df) : Prop where
  sc : FnScope d.N d.ps (defScope d.st)
  len : d.ps.length = d.fi.io.length
  mB : (TG.ms d.N bl (defScope d.st) (fun _ => true) d.sm).B (defBody d.st) = true
/-- what the top has made of it -/
structure DfIn (K : PySem.W.Frag) (mg : Str → Option Value) (d : Df) : Prop where
  ex : ∃ f fd, L2.Fun K d.x d.qual d.st f fd ∧ mg d.x = some (.ref f) ∧ ∀ us : List Value, us.length = d.ps.length → bindArgs fd ⟨us, []⟩ = pure (d.ps.zip us)
theorem prog_ok {cs : Str → Option D} (hbl : ∀ y ∈ bl, mg y = none) (hcs : ∀ y d, cs y = some d → ∃ v u, mg y = some u ∧ RelV v u ∧ ∀ Z H, Rep K Z H v d) :
    ∀ l : List Df, (∀ d ∈ l, DfTxt bl d) → (∀ d ∈ l, DfIn K mg d) → (∀ (a : List Df) (d : Df) (b : List Df), l = a ++ d :: b → Keeps (gam cs b) d.N.length d.sm d.fi) → ∀ d ∈ l, FnIs P w K mg base l.length d.x d.fi
  | [], _, _, _, d, h => by cases h
  | d0 :: l, ht, hi, hk, d, h => by
    have ih := prog_ok hbl hcs l (fun d h => ht d (List.mem_cons_of_mem _ h)) (fun d h => hi d (List.mem_cons_of_mem _ h)) (fun a d b e => hk (d0 :: a) d b (by rw [e]; rfl))
    rcases List.mem_cons.mp h with rfl | h
    · obtain ⟨f, fd, F, hm, hb⟩ := (hi d List.mem_cons_self).ex
      have t := ht d List.mem_cons_self
      refine fn_keeps (Γ := gam cs l) F t.sc t.len hm (.all hb) t.mB hbl hcs (fun g gi e => ?_) (hk [] d l rfl)
      obtain ⟨c, e1, e2⟩ := Option.map_eq_some_iff.mp e
      have hc := List.mem_of_find?_eq_some e1
      have hx := List.find?_some e1
      have hx : c.x = g := by simpa using hx
      rw [← hx, ← e2]
      exact ih c hc
    · obtain ⟨adr, fd, ps, F, q⟩ := (ih d h).ex
      exact ⟨adr, fd, ps, F.mono (Nat.le_succ _), q⟩
end
end TG
end
section
namespace TG
open PySem PySem.Spec PyProof.Rows L2

def spL (n : Nat) (K : PySem.W.Frag) : Sp := fun vs H Q _ => ∃ (a : Addr) (ns : List Int), vs = [.ref a] ∧ Only H ∧ SqL K H a (ns.map V.int) ∧ ns.length ≤ n ∧ ∀ H', Q (.bl true) H'
theorem law_sp {mg : Str → Option Value} {K : PySem.W.Frag} {fi : FI} {n : Nat} (hio : fi.io = [false]) (h : ∀ ns : List Int, ns.length ≤ n → fi.sp [.scr (ns.map .int)] (fun r _ => r = .im (.bl true)) (fun _ _ => False)) :
    ∀ vs H Q E, spL n K vs H Q E → lift mg K fi vs H Q E := by
  intro vs H Q E ⟨a, ns, e, ho, hS, hl, q⟩
  subst e
  have ri : ∀ (Z : Addr → Prop) (l : List Int), Reps K Z H (l.map V.int) (l.map D.int) := fun Z l => by
    induction l with
    | nil => exact .nil
    | cons i l ih => exact .cons (.int i) ih
  have done : ∀ Z : Addr → Prop, SAt K Z H a (ns.map V.int) → (∀ b, Z b → ∃ o, H b = some o) → lift mg K fi [.ref a] H Q E := fun Z sa zt => by
    refine ⟨Z, [.scr (ns.map .int)], [], _, _, by rw [hio]; exact .im (.scr sa (ri Z ns)) .nil, zt, h ns hl, fun r fins v H' Z' _ _ V1 e => ?_, fun _ _ _ _ _ _ _ _ _ z => z.elim⟩
    subst e
    cases (show Rep K Z' H' v (.bl true) from V1)
    exact q H'
  rcases hS with hS | hS
  · rcases hS with hS | ⟨o, hS⟩
    · rcases ho a with z | ⟨o, xs, z⟩
      · rw [hS] at z; cases z
      · rw [hS] at z; cases z
    · exact done (fun b => b = a) (.inl ⟨rfl, o, hS⟩) fun b e => by rw [e]; exact ⟨_, hS⟩
  · exact done (fun _ => False) (.inr hS) fun b z => z.elim
/-- what the top has made of a def, as found in the written part -/
def DfF (K : PySem.W.Frag) (x : Str) (st : Stmt) : Prop := ∃ (f : Addr) (oc : Value) (od an : Option Addr) (sl : Array (Option Value)) (kV dc pm cd ct : Value),
  PySem.W.nsIn K mainGlobals x = some (some (.ref f)) ∧ K.lookup f = some ⟨oc, od, .func (PySem.W.fnOf x x (defArgs st) (defBody st) (defScope st) .none kV dc pm an cd ct), sl⟩ ∧ PySem.W.codeIn K cd x = true ∧ PySem.W.keepIn K (.ref f) = true
theorem dff_mk {K : PySem.W.Frag} {x : Str} {st : Stmt} {f : Addr} {oc : Value} {od an : Option Addr} {sl : Array (Option Value)} {kV dc pm cd ct : Value} (a : PySem.W.nsIn K mainGlobals x = some (some (.ref f)))
    (l : K.lookup f = some ⟨oc, od, .func (PySem.W.fnOf x x (defArgs st) (defBody st) (defScope st) .none kV dc pm an cd ct), sl⟩) (c : PySem.W.codeIn K cd x = true) (k : PySem.W.keepIn K (.ref f) = true) : DfF K x st := ⟨f, oc, od, an, sl, kV, dc, pm, cd, ct, a, l, c, k⟩
/-- its parameters are bound one by one -/
def BindsA (x : Str) (st : Stmt) (ps : List Str) : Prop := ∀ (kV dc pm : Value) (an : Option Addr) (cd ct : Value) (us : List Value), us.length = ps.length → bindArgs (PySem.W.fnOf x x (defArgs st) (defBody st) (defScope st) .none kV dc pm an cd ct) ⟨us, []⟩ = pure (ps.zip us)
def KeepsAll (cs : Str → Option D) : List Df → Prop
  | [] => True
  | d :: rest => Keeps (gam cs rest) d.N.length d.sm d.fi ∧ KeepsAll cs rest
theorem keeps_all {cs : Str → Option D} : ∀ {l : List Df}, KeepsAll cs l → ∀ (a : List Df) (e : Df) (b : List Df), l = a ++ e :: b → Keeps (gam cs b) e.N.length e.sm e.fi
  | [], _, a, e, b, h => by cases a <;> cases h
  | d :: rest, k, [], e, b, h => by cases h; exact k.1
  | d :: rest, k, c :: a, e, b, h => keeps_all k.2 a e b (List.cons.inj h).2
def AllD (P : Df → Prop) : List Df → Prop
  | [] => True
  | d :: rest => P d ∧ AllD P rest
theorem all_d {P : Df → Prop} : ∀ {l : List Df}, AllD P l → ∀ e ∈ l, P e
  | [], _, e, h => nomatch h
  | d :: rest, k, e, h => (List.mem_cons.mp h).elim (fun q => by rw [q]; exact k.1) fun q => all_d k.2 e q
def AllS (P : Str → Prop) : List Str → Prop
  | [] => True
  | d :: rest => P d ∧ AllS P rest
theorem all_s {P : Str → Prop} : ∀ {l : List Str}, AllS P l → ∀ e ∈ l, P e
  | [], _, e, h => nomatch h
  | d :: rest, k, e, h => (List.mem_cons.mp h).elim (fun q => by rw [q]; exact k.1) fun q => all_s k.2 e q
def AllC (P : Str → D → Prop) : List (Str × D) → Prop
  | [] => True
  | d :: rest => P d.1 d.2 ∧ AllC P rest
def csOf (l : List (Str × D)) (x : Str) : Option D := (l.find? fun p => p.1 == x).map (·.2)
theorem all_c {P : Str → D → Prop} {l : List (Str × D)} (k : AllC P l) {y : Str} {c : D} (h : csOf l y = some c) : P y c := by
  obtain ⟨p, e1, e2⟩ := Option.map_eq_some_iff.mp h
  have hc := List.mem_of_find?_eq_some e1
  have hx := List.find?_some e1
  have hx : p.1 = y := by simpa using hx
  subst hx e2
  clear h e1
  induction l with
  | nil => exact nomatch hc
  | cons d rest ih =>
    rcases List.mem_cons.mp hc with rfl | hc
    · exact k.1
    · exact ih k.2 hc
def CsF (K : PySem.W.Frag) (y : Str) (c : D) : Prop := ∃ v u, PySem.W.nsIn K mainGlobals y = some (some u) ∧ RelV v u ∧ ∀ Z H, Rep K Z H v c
def BlF (K : PySem.W.Frag) (y : Str) : Prop := PySem.W.nsIn K mainGlobals y = some none
theorem bl_mk {K : PySem.W.Frag} {y : Str} (s : PySem.W.nsIn K mainGlobals y = some none) : BlF K y := s
theorem cs_int {K : PySem.W.Frag} {x : Str} {n : Int} {t : Tok} (s : PySem.W.nsIn K mainGlobals x = some (some (.int n t))) : CsF K x (.int n) := ⟨.int n, _, s, ⟨_, rfl⟩, fun _ _ => .int n⟩
theorem cs_str {K : PySem.W.Frag} {x n : Str} {t : Tok} (s : PySem.W.nsIn K mainGlobals x = some (some (.str n t))) : CsF K x (.str n) := ⟨.str n, _, s, ⟨_, rfl⟩, fun _ _ => .str n⟩
section
variable {K : PySem.W.Frag} {mg : Str → Option Value} {h : Heap}
theorem df_in {d : Df} (X : K.In h) (G : h.Ns mainGlobals mg) (hq : d.qual = d.x) (F : DfF K d.x d.st) (B : BindsA d.x d.st d.ps) : DfIn K mg d := by
  obtain ⟨f, oc, od, an, sl, kV, dc, pm, cd, ct, a, l, c, k⟩ := F
  refine ⟨f, _, ?_, PySem.W.mg_of X G a, B kV dc pm an cd ct⟩
  rw [hq]
  exact fun_mk l c k
/-- the goal ahead of walk_of's case F -/
theorem law_F {l : PySem.W.OpenLaw} {w : World} {fa : Addr} {n : Nat} {bl : List Str} {csl : List (Str × D)} {d : Df} {rest : List Df} (X : K.In h) (G : h.Ns mainGlobals mg) (hfa : mg d.x = some (.ref fa)) (x : Str) (hps : d.ps = [x]) (hio : d.fi.io = [false]) (hq : AllD (fun e => e.qual = e.x) (d :: rest))
    (hF : AllD (fun e => DfF K e.x e.st) (d :: rest)) (hB : AllD (fun e => BindsA e.x e.st e.ps) (d :: rest)) (ht : AllD (DfTxt bl) (d :: rest))
    (hbl : AllS (BlF K) bl) (hcs : AllC (CsF K) csl) (hk : KeepsAll (csOf csl) (d :: rest))
    (hl : ∀ ns : List Int, ns.length ≤ n → d.fi.sp [.scr (ns.map .int)] (fun r _ => r = .im (.bl true)) (fun _ _ => False)) :
    ∃ fd : FuncData, (∀ (s : Shared) (v : Value), BindsTo s fd ⟨[v], []⟩ [(x, v)]) ∧ ∀ base : Heap, K.In base → base.Ns mainGlobals mg → FnOk l.prog w K mg base (L2.CX l.prog w) (rest.length + 1) fa fd [x] (spL n K) := by
  have hq := all_d hq
  have hF := all_d hF
  have hB := all_d hB
  have ht := all_d ht
  have hbl := all_s hbl
  have hk := keeps_all hk
  have hcs : ∀ y c, csOf csl y = some c → CsF K y c := fun y c e => all_c hcs e
  generalize csOf csl = cs at hcs hk
  obtain ⟨f, fd, F, hm, hb⟩ := (df_in X G (hq d List.mem_cons_self) (hF d List.mem_cons_self) (hB d List.mem_cons_self)).ex
  rw [hm] at hfa
  cases hfa
  rw [hps] at hb
  refine ⟨fd, fun s v => .of_eq (hb [v] rfl), fun base _ _ => ?_⟩
  have hbl' : ∀ y ∈ bl, mg y = none := fun y hy => PySem.W.mg_none_of X G (hbl y hy)
  have hcs' : ∀ y c, cs y = some c → ∃ v u, mg y = some u ∧ RelV v u ∧ ∀ Z H, Rep K Z H v c := fun y c e => by
    obtain ⟨v, u, q1, q2, q3⟩ := hcs y c e
    exact ⟨v, u, PySem.W.mg_of X G q1, q2, q3⟩
  have ih := prog_ok (P := l.prog) (w := w) (base := base) hbl' hcs' rest (fun e he => ht e (List.mem_cons_of_mem _ he)) (fun e he => df_in X G (hq e (List.mem_cons_of_mem _ he)) (hF e (List.mem_cons_of_mem _ he)) (hB e (List.mem_cons_of_mem _ he))) fun a e b q => hk (d :: a) e b (by rw [q]; rfl)
  have t := ht d List.mem_cons_self
  have := fn_keepsE (P := l.prog) (w := w) (base := base) (Γ := gam cs rest) (k := rest.length) F t.sc t.len t.mB hbl' hcs' (fun g gi e => by
    obtain ⟨c, e1, e2⟩ := Option.map_eq_some_iff.mp e
    have hc := List.mem_of_find?_eq_some e1
    have hx := List.find?_some e1
    have hx : c.x = g := by simpa using hx
    rw [← hx, ← e2]
    exact ih c hc) (hk [] d rest rfl)
  rw [hps] at this
  exact this.imp (law_sp hio hl)
theorem no_exc {P : Program} {w : World} {H : Hp} {s : Shared} {e : Value} {s' : Shared} (h : L2.CX P w [] H s (fun _ _ _ => False) e s') : False := by
  obtain ⟨_, _, _, _, _, _, _, _, _, _, _, _, z⟩ := h
  exact z
end
end TG
end
section
namespace TG
open PySem
section
variable {Γ : Ga} {R : XP} {env : Env} {Q : Rv → Env → Prop} {T : Bool → Env → Prop} {A : List D → Env → Prop} {B : List Rv → Env → Prop} {O : Option Int → Env → Prop} {I : List Nat → List D → Env → Prop}
theorem E_var {i : Nat} : (sem Γ (.var i)).E R env Q = (match env[i]? with
    | some (.im d) => Q (.im d) env
    | some .un => False
    | some _ => Q (.bo i) env
    | none => False) := rfl
theorem E_cint {i : Int} : (sem Γ (.cint i)).E R env Q = (Q (.im (.int i)) env) := rfl
theorem E_cstr {i : Str} : (sem Γ (.cstr i)).E R env Q = (Q (.im (.str i)) env) := rfl
theorem E_cbl {i : Bool} : (sem Γ (.cbl i)).E R env Q = (Q (.im (.bl i)) env) := rfl
theorem E_cnon  : (sem Γ (.cnon)).E R env Q = (Q (.im .non) env) := rfl
theorem E_glob {x : Str} : (sem Γ (.glob x)).E R env Q = (∃ d, Γ.cs x = some d ∧ Q (.im d) env) := rfl
theorem E_bin {op : Operator} {a b : Ex} : (sem Γ (.bin op a b)).E R env Q = ((sem Γ a).E R env fun r e1 => (sem Γ b).E R e1 fun r2 e2 => rd r e2 fun x => rd r2 e2 fun y => dBin op x y fun z => Q z e2) := rfl
theorem E_neg {a : Ex} : (sem Γ (.neg a)).E R env Q = ((sem Γ a).E R env fun r e1 => rd r e1 fun x => ∃ i, x = .int i ∧ Q (.im (.int (-i))) e1) := rfl
theorem E_cmp {op : CmpOp} {a b : Ex} : (sem Γ (.cmp op a b)).E R env Q = ((sem Γ a).E R env fun r e1 => (sem Γ b).E R e1 fun r2 e2 => rd r e2 fun x => rd r2 e2 fun y => dCmp op x y fun z => Q (.im (.bl z)) e2) := rfl
theorem E_chain {op op' : CmpOp} {a b c : Ex} : (sem Γ (.chain op op' a b c)).E R env Q = ((sem Γ a).E R env fun r e1 => (sem Γ b).E R e1 fun r2 e2 => rd r e2 fun x => rd r2 e2 fun y => dCmp op x y fun k =>
      if k = true then (sem Γ c).E R e2 fun r3 e3 => rd r2 e3 fun y => rd r3 e3 fun z => dCmp op' y z fun k => Q (.im (.bl k)) e3 else Q (.im (.bl false)) e2) := rfl
theorem E_andn {a b : Ex} : (sem Γ (.andn a b)).E R env Q = ((sem Γ a).E R env fun r e1 => rd r e1 fun d => ∃ k, dTru d = some k ∧ if k = true then (sem Γ b).E R e1 Q else Q r e1) := rfl
theorem E_orn {a b : Ex} : (sem Γ (.orn a b)).E R env Q = ((sem Γ a).E R env fun r e1 => rd r e1 fun d => ∃ k, dTru d = some k ∧ if k = true then Q r e1 else (sem Γ b).E R e1 Q) := rfl
theorem E_notn {a : Ex} : (sem Γ (.notn a)).E R env Q = ((sem Γ a).E R env fun r e1 => rd r e1 fun d => ∃ k, dTru d = some k ∧ Q (.im (.bl (!k))) e1) := rfl
theorem E_ife {c a b : Ex} : (sem Γ (.ife c a b)).E R env Q = ((sem Γ c).T R env fun k e1 => if k = true then (sem Γ a).E R e1 Q else (sem Γ b).E R e1 Q) := rfl
theorem E_tupn {as : Ex} : (sem Γ (.tupn as)).E R env Q = ((sem Γ as).A R env fun ds e1 => ds.length ≤ sizeLine ∧ Q (.im (.tup ds)) e1) := rfl
theorem E_lstn {as : Ex} : (sem Γ (.lstn as)).E R env Q = ((sem Γ as).A R env fun ds e1 => ds.length ≤ sizeLine ∧ Q (.fr (.lst ds)) e1) := rfl
theorem E_dnew {t : Bool} : (sem Γ (.dnew t)).E R env Q = (Q (.fr (if t = true then .dtt [] else .dct [])) env) := rfl
theorem E_call {f : Str} {as : Ex} : (sem Γ (.call f as)).E R env Q = (∃ fi, Γ.fn f = some fi ∧ (sem Γ as).C R fi.io env fun rs e1 => (bos rs).Nodup ∧ rdC fi.io rs e1 fun ds => fi.sp ds (fun r fins => Q r (putB fi.io rs fins e1)) (fun x fins => R x (putB fi.io rs fins e1))) := rfl
theorem E_blt {b : Bt} {as : Ex} : (sem Γ (.blt b as)).E R env Q = ((sem Γ as).B R env fun rs e1 => rds rs e1 fun ds => dBlt b ds fun r => Q r e1) := rfl
theorem E_meth {m : Mt} {o as : Ex} : (sem Γ (.meth m o as)).E R env Q = ((sem Γ o).E R env fun r e1 => rd r e1 fun x0 => tyM m x0 = true ∧ (sem Γ as).B R e1 fun rs e2 => rd r e2 fun x => rds rs e2 fun ds => dMt m x ds fun r => Q r e2) := rfl
theorem E_mut {m : Mm} {i : Nat} {as : Ex} : (sem Γ (.mut m i as)).E R env Q = ((match env[i]? with
    | some (.ow d) => tyMm m d = true
    | some (.io d) => tyMm m d = true
    | _ => False) ∧ (sem Γ as).A R env fun ds e1 => match e1[i]? with
    | some (.ow d) => dMm m d ds fun d' x => Q (.im x) (e1.set i (.ow d'))
    | some (.io d) => dMm m d ds fun d' x => Q (.im x) (e1.set i (.io d'))
    | _ => False) := rfl
theorem E_idx {a i : Ex} : (sem Γ (.idx a i)).E R env Q = ((sem Γ a).E R env fun r e1 => (sem Γ i).E R e1 fun r2 e2 => rd r e2 fun x => rd r2 e2 fun y => dIdx x y fun z => Q (.im z) e2) := rfl
theorem E_slc {a lo hi : Ex} : (sem Γ (.slc a lo hi)).E R env Q = ((sem Γ a).E R env fun r e1 => (sem Γ lo).O R e1 fun l e2 => (sem Γ hi).O R e2 fun h e3 => rd r e3 fun x => dSlc x l h fun z => Q z e3) := rfl
theorem E_isi {a : Ex} {t : Tn} : (sem Γ (.isi a t)).E R env Q = ((sem Γ a).E R env fun r e1 => rd r e1 fun x => Q (.im (.bl (dIsi x t))) e1) := rfl
/-- one turn of a comprehension -/
def cturn (Γ : Ga) (vs : List Nat) (tg : Tg) (c e : Ex) : D → Env → (Option D → Env → Prop) → Prop := fun d e2 k => bindT tg d (wipeE e2 vs) fun e3 => (sem Γ c).T noX e3 fun b e4 => if b = true then (sem Γ e).E noX e4 fun r e5 => fz r e5 fun y e6 => k (some y) e6 else k none e4
theorem E_comp {vs : List Nat} {tg : Tg} {it c e : Ex} : (sem Γ (.comp vs tg it c e)).E R env Q = ((sem Γ it).I R env fun is its e1 => its.length ≤ sizeLine ∧ compW (cturn Γ vs tg c e) (fun e2 => stays is e1 (wipeE e2 vs)) its [] e1 fun acc e7 => Q (.fr (.lst acc)) (wipeE e7 vs)) := rfl
theorem T_var {i : Nat} : (sem Γ (.var i)).T R env T = ((sem Γ (.var i)).E R env fun r e1 => rd r e1 fun d => ∃ k, dTru d = some k ∧ T k e1) := rfl
theorem O_var {i : Nat} : (sem Γ (.var i)).O R env O = ((sem Γ (.var i)).E R env fun r e1 => rd r e1 fun x => ∃ i, x = .int i ∧ O (some i) e1) := rfl
theorem I_var {i : Nat} : (sem Γ (.var i)).I R env I = ((sem Γ (.var i)).E R env fun r e1 => srcR r e1 fun is x => ∃ xs, itD x = some xs ∧ I is xs e1) := rfl
theorem T_cint {i : Int} : (sem Γ (.cint i)).T R env T = ((sem Γ (.cint i)).E R env fun r e1 => rd r e1 fun d => ∃ k, dTru d = some k ∧ T k e1) := rfl
theorem O_cint {i : Int} : (sem Γ (.cint i)).O R env O = ((sem Γ (.cint i)).E R env fun r e1 => rd r e1 fun x => ∃ i, x = .int i ∧ O (some i) e1) := rfl
theorem I_cint {i : Int} : (sem Γ (.cint i)).I R env I = ((sem Γ (.cint i)).E R env fun r e1 => srcR r e1 fun is x => ∃ xs, itD x = some xs ∧ I is xs e1) := rfl
theorem T_cstr {i : Str} : (sem Γ (.cstr i)).T R env T = ((sem Γ (.cstr i)).E R env fun r e1 => rd r e1 fun d => ∃ k, dTru d = some k ∧ T k e1) := rfl
theorem O_cstr {i : Str} : (sem Γ (.cstr i)).O R env O = ((sem Γ (.cstr i)).E R env fun r e1 => rd r e1 fun x => ∃ i, x = .int i ∧ O (some i) e1) := rfl
theorem I_cstr {i : Str} : (sem Γ (.cstr i)).I R env I = ((sem Γ (.cstr i)).E R env fun r e1 => srcR r e1 fun is x => ∃ xs, itD x = some xs ∧ I is xs e1) := rfl
theorem T_cbl {i : Bool} : (sem Γ (.cbl i)).T R env T = ((sem Γ (.cbl i)).E R env fun r e1 => rd r e1 fun d => ∃ k, dTru d = some k ∧ T k e1) := rfl
theorem O_cbl {i : Bool} : (sem Γ (.cbl i)).O R env O = ((sem Γ (.cbl i)).E R env fun r e1 => rd r e1 fun x => ∃ i, x = .int i ∧ O (some i) e1) := rfl
theorem I_cbl {i : Bool} : (sem Γ (.cbl i)).I R env I = ((sem Γ (.cbl i)).E R env fun r e1 => srcR r e1 fun is x => ∃ xs, itD x = some xs ∧ I is xs e1) := rfl
theorem T_glob {x : Str} : (sem Γ (.glob x)).T R env T = ((sem Γ (.glob x)).E R env fun r e1 => rd r e1 fun d => ∃ k, dTru d = some k ∧ T k e1) := rfl
theorem O_glob {x : Str} : (sem Γ (.glob x)).O R env O = ((sem Γ (.glob x)).E R env fun r e1 => rd r e1 fun x => ∃ i, x = .int i ∧ O (some i) e1) := rfl
theorem I_glob {x : Str} : (sem Γ (.glob x)).I R env I = ((sem Γ (.glob x)).E R env fun r e1 => srcR r e1 fun is x => ∃ xs, itD x = some xs ∧ I is xs e1) := rfl
theorem T_bin {op : Operator} {a b : Ex} : (sem Γ (.bin op a b)).T R env T = ((sem Γ (.bin op a b)).E R env fun r e1 => rd r e1 fun d => ∃ k, dTru d = some k ∧ T k e1) := rfl
theorem O_bin {op : Operator} {a b : Ex} : (sem Γ (.bin op a b)).O R env O = ((sem Γ (.bin op a b)).E R env fun r e1 => rd r e1 fun x => ∃ i, x = .int i ∧ O (some i) e1) := rfl
theorem I_bin {op : Operator} {a b : Ex} : (sem Γ (.bin op a b)).I R env I = ((sem Γ (.bin op a b)).E R env fun r e1 => srcR r e1 fun is x => ∃ xs, itD x = some xs ∧ I is xs e1) := rfl
theorem T_cmp {op : CmpOp} {a b : Ex} : (sem Γ (.cmp op a b)).T R env T = ((sem Γ (.cmp op a b)).E R env fun r e1 => rd r e1 fun d => ∃ k, dTru d = some k ∧ T k e1) := rfl
theorem O_cmp {op : CmpOp} {a b : Ex} : (sem Γ (.cmp op a b)).O R env O = ((sem Γ (.cmp op a b)).E R env fun r e1 => rd r e1 fun x => ∃ i, x = .int i ∧ O (some i) e1) := rfl
theorem I_cmp {op : CmpOp} {a b : Ex} : (sem Γ (.cmp op a b)).I R env I = ((sem Γ (.cmp op a b)).E R env fun r e1 => srcR r e1 fun is x => ∃ xs, itD x = some xs ∧ I is xs e1) := rfl
theorem T_neg {a : Ex} : (sem Γ (.neg a)).T R env T = ((sem Γ (.neg a)).E R env fun r e1 => rd r e1 fun d => ∃ k, dTru d = some k ∧ T k e1) := rfl
theorem O_neg {a : Ex} : (sem Γ (.neg a)).O R env O = ((sem Γ (.neg a)).E R env fun r e1 => rd r e1 fun x => ∃ i, x = .int i ∧ O (some i) e1) := rfl
theorem I_neg {a : Ex} : (sem Γ (.neg a)).I R env I = ((sem Γ (.neg a)).E R env fun r e1 => srcR r e1 fun is x => ∃ xs, itD x = some xs ∧ I is xs e1) := rfl
theorem T_chain {op op' : CmpOp} {a b c : Ex} : (sem Γ (.chain op op' a b c)).T R env T = ((sem Γ (.chain op op' a b c)).E R env fun r e1 => rd r e1 fun d => ∃ k, dTru d = some k ∧ T k e1) := rfl
theorem O_chain {op op' : CmpOp} {a b c : Ex} : (sem Γ (.chain op op' a b c)).O R env O = ((sem Γ (.chain op op' a b c)).E R env fun r e1 => rd r e1 fun x => ∃ i, x = .int i ∧ O (some i) e1) := rfl
theorem I_chain {op op' : CmpOp} {a b c : Ex} : (sem Γ (.chain op op' a b c)).I R env I = ((sem Γ (.chain op op' a b c)).E R env fun r e1 => srcR r e1 fun is x => ∃ xs, itD x = some xs ∧ I is xs e1) := rfl
theorem T_call {f : Str} {as : Ex} : (sem Γ (.call f as)).T R env T = ((sem Γ (.call f as)).E R env fun r e1 => rd r e1 fun d => ∃ k, dTru d = some k ∧ T k e1) := rfl
theorem O_call {f : Str} {as : Ex} : (sem Γ (.call f as)).O R env O = ((sem Γ (.call f as)).E R env fun r e1 => rd r e1 fun x => ∃ i, x = .int i ∧ O (some i) e1) := rfl
theorem I_call {f : Str} {as : Ex} : (sem Γ (.call f as)).I R env I = ((sem Γ (.call f as)).E R env fun r e1 => srcR r e1 fun is x => ∃ xs, itD x = some xs ∧ I is xs e1) := rfl
theorem T_blt {b : Bt} {as : Ex} : (sem Γ (.blt b as)).T R env T = ((sem Γ (.blt b as)).E R env fun r e1 => rd r e1 fun d => ∃ k, dTru d = some k ∧ T k e1) := rfl
theorem O_blt {b : Bt} {as : Ex} : (sem Γ (.blt b as)).O R env O = ((sem Γ (.blt b as)).E R env fun r e1 => rd r e1 fun x => ∃ i, x = .int i ∧ O (some i) e1) := rfl
theorem I_blt {b : Bt} {as : Ex} : (sem Γ (.blt b as)).I R env I = ((sem Γ (.blt b as)).E R env fun r e1 => srcR r e1 fun is x => ∃ xs, itD x = some xs ∧ I is xs e1) := rfl
theorem T_meth {m : Mt} {o as : Ex} : (sem Γ (.meth m o as)).T R env T = ((sem Γ (.meth m o as)).E R env fun r e1 => rd r e1 fun d => ∃ k, dTru d = some k ∧ T k e1) := rfl
theorem O_meth {m : Mt} {o as : Ex} : (sem Γ (.meth m o as)).O R env O = ((sem Γ (.meth m o as)).E R env fun r e1 => rd r e1 fun x => ∃ i, x = .int i ∧ O (some i) e1) := rfl
theorem I_meth {m : Mt} {o as : Ex} : (sem Γ (.meth m o as)).I R env I = ((sem Γ (.meth m o as)).E R env fun r e1 => srcR r e1 fun is x => ∃ xs, itD x = some xs ∧ I is xs e1) := rfl
theorem T_idx {a i : Ex} : (sem Γ (.idx a i)).T R env T = ((sem Γ (.idx a i)).E R env fun r e1 => rd r e1 fun d => ∃ k, dTru d = some k ∧ T k e1) := rfl
theorem O_idx {a i : Ex} : (sem Γ (.idx a i)).O R env O = ((sem Γ (.idx a i)).E R env fun r e1 => rd r e1 fun x => ∃ i, x = .int i ∧ O (some i) e1) := rfl
theorem I_idx {a i : Ex} : (sem Γ (.idx a i)).I R env I = ((sem Γ (.idx a i)).E R env fun r e1 => srcR r e1 fun is x => ∃ xs, itD x = some xs ∧ I is xs e1) := rfl
theorem T_slc {a lo hi : Ex} : (sem Γ (.slc a lo hi)).T R env T = ((sem Γ (.slc a lo hi)).E R env fun r e1 => rd r e1 fun d => ∃ k, dTru d = some k ∧ T k e1) := rfl
theorem O_slc {a lo hi : Ex} : (sem Γ (.slc a lo hi)).O R env O = ((sem Γ (.slc a lo hi)).E R env fun r e1 => rd r e1 fun x => ∃ i, x = .int i ∧ O (some i) e1) := rfl
theorem I_slc {a lo hi : Ex} : (sem Γ (.slc a lo hi)).I R env I = ((sem Γ (.slc a lo hi)).E R env fun r e1 => srcR r e1 fun is x => ∃ xs, itD x = some xs ∧ I is xs e1) := rfl
theorem T_isi {a : Ex} {t : Tn} : (sem Γ (.isi a t)).T R env T = ((sem Γ (.isi a t)).E R env fun r e1 => rd r e1 fun d => ∃ k, dTru d = some k ∧ T k e1) := rfl
theorem O_isi {a : Ex} {t : Tn} : (sem Γ (.isi a t)).O R env O = ((sem Γ (.isi a t)).E R env fun r e1 => rd r e1 fun x => ∃ i, x = .int i ∧ O (some i) e1) := rfl
theorem I_isi {a : Ex} {t : Tn} : (sem Γ (.isi a t)).I R env I = ((sem Γ (.isi a t)).E R env fun r e1 => srcR r e1 fun is x => ∃ xs, itD x = some xs ∧ I is xs e1) := rfl
theorem T_comp {vs : List Nat} {tg : Tg} {it c e : Ex} : (sem Γ (.comp vs tg it c e)).T R env T = ((sem Γ (.comp vs tg it c e)).E R env fun r e1 => rd r e1 fun d => ∃ k, dTru d = some k ∧ T k e1) := rfl
theorem O_comp {vs : List Nat} {tg : Tg} {it c e : Ex} : (sem Γ (.comp vs tg it c e)).O R env O = ((sem Γ (.comp vs tg it c e)).E R env fun r e1 => rd r e1 fun x => ∃ i, x = .int i ∧ O (some i) e1) := rfl
theorem I_comp {vs : List Nat} {tg : Tg} {it c e : Ex} : (sem Γ (.comp vs tg it c e)).I R env I = ((sem Γ (.comp vs tg it c e)).E R env fun r e1 => srcR r e1 fun is x => ∃ xs, itD x = some xs ∧ I is xs e1) := rfl
theorem T_tupn {as : Ex} : (sem Γ (.tupn as)).T R env T = ((sem Γ (.tupn as)).E R env fun r e1 => rd r e1 fun d => ∃ k, dTru d = some k ∧ T k e1) := rfl
theorem O_tupn {as : Ex} : (sem Γ (.tupn as)).O R env O = ((sem Γ (.tupn as)).E R env fun r e1 => rd r e1 fun x => ∃ i, x = .int i ∧ O (some i) e1) := rfl
theorem I_tupn {as : Ex} : (sem Γ (.tupn as)).I R env I = ((sem Γ (.tupn as)).E R env fun r e1 => srcR r e1 fun is x => ∃ xs, itD x = some xs ∧ I is xs e1) := rfl
theorem T_lstn {as : Ex} : (sem Γ (.lstn as)).T R env T = ((sem Γ (.lstn as)).E R env fun r e1 => rd r e1 fun d => ∃ k, dTru d = some k ∧ T k e1) := rfl
theorem O_lstn {as : Ex} : (sem Γ (.lstn as)).O R env O = ((sem Γ (.lstn as)).E R env fun r e1 => rd r e1 fun x => ∃ i, x = .int i ∧ O (some i) e1) := rfl
theorem I_lstn {as : Ex} : (sem Γ (.lstn as)).I R env I = ((sem Γ (.lstn as)).E R env fun r e1 => srcR r e1 fun is x => ∃ xs, itD x = some xs ∧ I is xs e1) := rfl
theorem T_andn {a b : Ex} : (sem Γ (.andn a b)).T R env T = ((sem Γ a).T R env fun k e1 => if k = true then (sem Γ b).T R e1 T else T false e1) := rfl
theorem T_orn {a b : Ex} : (sem Γ (.orn a b)).T R env T = ((sem Γ a).T R env fun k e1 => if k = true then T true e1 else (sem Γ b).T R e1 T) := rfl
theorem T_notn {a : Ex} : (sem Γ (.notn a)).T R env T = ((sem Γ a).T R env fun k e1 => T (!k) e1) := rfl
theorem T_ife {c a b : Ex} : (sem Γ (.ife c a b)).T R env T = ((sem Γ c).T R env fun k e1 => if k = true then (sem Γ a).T R e1 T else (sem Γ b).T R e1 T) := rfl
theorem T_nil : (sem Γ .nil).T R env T = T true env := rfl
theorem O_nil : (sem Γ .nil).O R env O = O none env := rfl
theorem A_nil : (sem Γ .nil).A R env A = A [] env := rfl
theorem A_cons {a as : Ex} : (sem Γ (.cons a as)).A R env A = ((sem Γ a).E R env fun r e1 => fz r e1 fun d e2 => (sem Γ as).A R e2 fun ds e3 => A (d :: ds) e3) := rfl
theorem B_nil : (sem Γ .nil).B R env B = B [] env := rfl
theorem B_cons {a as : Ex} : (sem Γ (.cons a as)).B R env B = ((sem Γ a).E R env fun r e1 => (sem Γ as).B R e1 fun rs e2 => B (r :: rs) e2) := rfl
theorem C_nil : (sem Γ .nil).C R [] env B = B [] env := rfl
theorem C_io {a as : Ex} {ms : List Bool} : (sem Γ (.cons a as)).C R (true :: ms) env B = ((sem Γ a).E R env fun r e1 => isOwnR e1 r ∧ (sem Γ as).C R ms e1 fun rs e2 => B (r :: rs) e2) := rfl
theorem C_im {a as : Ex} {ms : List Bool} : (sem Γ (.cons a as)).C R (false :: ms) env B = ((sem Γ a).E R env fun r e1 => fz r e1 fun d e2 => (sem Γ as).C R ms e2 fun rs e3 => B (.im d :: rs) e3) := rfl
theorem I_zip2 {a b : Ex} : (sem Γ (.zip2 a b)).I R env I = ((sem Γ a).E R env fun r e1 => (sem Γ b).E R e1 fun r2 e2 => srcR r e2 fun is x => srcR r2 e2 fun js y => ∃ xs ys, seqD x = some xs ∧ seqD y = some ys ∧ I (is ++ js) (zipD xs ys) e2) := rfl
theorem I_zip3 {a b c : Ex} : (sem Γ (.zip3 a b c)).I R env I = ((sem Γ a).E R env fun r e1 => (sem Γ b).E R e1 fun r2 e2 => (sem Γ c).E R e2 fun r3 e3 => srcR r e3 fun is x => srcR r2 e3 fun js y => srcR r3 e3 fun ks z =>
      ∃ xs ys zs, seqD x = some xs ∧ seqD y = some ys ∧ seqD z = some zs ∧ I (is ++ js ++ ks) (zipD3 xs ys zs) e3) := rfl
theorem I_enum {a : Ex} : (sem Γ (.enum a)).I R env I = ((sem Γ a).E R env fun r e1 => srcR r e1 fun is x => ∃ xs, seqD x = some xs ∧ I is (enumD 0 xs) e1) := rfl
theorem I_rng1 {a : Ex} : (sem Γ (.rng1 a)).I R env I = ((sem Γ a).E R env fun r e1 => rd r e1 fun x => ∃ n, x = .int n ∧ (-(2 ^ 62) ≤ n ∧ n < 2 ^ 62) ∧ I [] ((List.range n.toNat).map fun (k : Nat) => .int k) e1) := rfl
theorem I_rng2 {a b : Ex} : (sem Γ (.rng2 a b)).I R env I = ((sem Γ a).E R env fun r e1 => (sem Γ b).E R e1 fun r2 e2 => rd r e2 fun x => rd r2 e2 fun y => ∃ m n, x = .int m ∧ y = .int n ∧ (-(2 ^ 62) ≤ m ∧ m < 2 ^ 62 ∧ -(2 ^ 62) ≤ n ∧ n < 2 ^ 62) ∧
      I [] ((List.range (n - m).toNat).map fun (k : Nat) => .int (m + k)) e2) := rfl
end
section
variable {Γ : Ga} {R : XP} {env : Env} {P : Post}
theorem S_nil : wpS Γ R .nil env P = P.nx env := rfl
theorem S_cons {a b : Sm} : wpS Γ R (.cons a b) env P = wpS Γ R a env { P with nx := fun e => wpS Γ R b e P } := rfl
theorem S_seq {a b : Sm} (h : ∀ nx : Env → Prop, (nx = fun e => wpS Γ R b e P) → wpS Γ R a env { P with nx := nx }) : wpS Γ R (.cons a b) env P := h _ rfl
theorem S_pass : wpS Γ R .pass env P = P.nx env := rfl
theorem S_brk : wpS Γ R .brk env P = P.bk env := rfl
theorem S_cont : wpS Γ R .cont env P = P.ct env := rfl
theorem S_asg {j : Nat} {e : Ex} : wpS Γ R (.asg (.nm j) e) env P = ((sem Γ e).E R env fun r e1 => stS j r e1 P.nx) := rfl
theorem S_asgt {ts : Tg} {e : Ex} : wpS Γ R (.asg (.tp ts) e) env P = ((sem Γ e).E R env fun r e1 => rd r e1 fun d => bindT (.tp ts) d e1 P.nx) := rfl
theorem S_par2 {i j : Nat} {a b : Ex} : wpS Γ R (.par2 i j a b) env P = ((sem Γ (.cons a (.cons b .nil))).A R env fun ds e1 => match ds with
    | [x, y] => stS i (.im x) e1 fun e2 => stS j (.im y) e2 P.nx
    | _ => False) := rfl
theorem S_par3 {i j k : Nat} {a b c : Ex} : wpS Γ R (.par3 i j k a b c) env P = ((sem Γ (.cons a (.cons b (.cons c .nil)))).A R env fun ds e1 => match ds with
    | [x, y, z] => stS i (.im x) e1 fun e2 => stS j (.im y) e2 fun e3 => stS k (.im z) e3 P.nx
    | _ => False) := rfl
theorem S_subT {i : Nat} {as e : Ex} : wpS Γ R (.sub i (.tupn as) e) env P = ((sem Γ e).E R env fun r e1 => fz r e1 fun v e2 => isOwn e2 i ∧ (sem Γ as).A R e2 fun ds e3 => ds.length ≤ sizeLine ∧ wrS i e3 (fun x f => x.isDtt = true ∧ dSet x (.tup ds) v f) P.nx) := rfl
theorem S_sub {i : Nat} {k e : Ex} (h : isTupX k = false) : wpS Γ R (.sub i k e) env P = ((sem Γ e).E R env fun r e1 => fz r e1 fun v e2 => isOwn e2 i ∧ (sem Γ k).E R e2 fun r2 e3 => rd r2 e3 fun y => wrS i e3 (fun x f => x.isDtt = false ∧ dSet x y v f) P.nx) := by
  cases k <;> first | rfl | cases h
theorem S_expr {e : Ex} : wpS Γ R (.expr e) env P = ((sem Γ e).E R env fun _ e1 => P.nx e1) := rfl
/-- what is handed back -/
def retR (P : Post) (r : Rv) (e1 : Env) : Prop := match r with
    | .im d => P.rt (.im d) e1
    | .fr d => P.rt (.fr d) e1
    | .bo i => match e1[i]? with
      | some (.ow d) => P.rt (.fr d) (e1.set i .un)
      | some (.im d) => P.rt (.im d) e1
      | _ => False
theorem S_ret {e : Ex} : wpS Γ R (.ret e) env P = ((sem Γ e).E R env (retR P)) := rfl
theorem S_retN : wpS Γ R .retN env P = P.rt (.im .non) env := rfl
theorem S_ifs {c : Ex} {a b : Sm} : wpS Γ R (.ifs c a b) env P = ((sem Γ c).T R env fun k e1 => if k = true then wpS Γ R a e1 P else wpS Γ R b e1 P) := rfl
theorem S_whl {c : Ex} {b : Sm} : wpS Γ R (.whl c b) env P = (∃ I : Nat → Env → Prop, (∃ m, I m env) ∧ ∀ m e, I m e → (sem Γ c).T R e fun k e1 =>
      if k = true then wpS Γ R b e1 { nx := fun e2 => ∃ m', m' < m ∧ I m' e2, rt := P.rt, bk := P.nx, ct := fun e2 => ∃ m', m' < m ∧ I m' e2 } else P.nx e1) := rfl
/-- one turn of a for -/
def fturn (Γ : Ga) (R : XP) (t : Tg) (b : Sm) (rt : Rv → Env → Prop) : D → Env → (Env → Prop) → (Env → Prop) → Prop := fun d e2 next brk => bindT t d e2 fun e3 => wpS Γ R b e3 { nx := next, rt := rt, bk := brk, ct := next }
theorem S_for {t : Tg} {it : Ex} {b : Sm} : wpS Γ R (.forr t it b) env P = ((sem Γ it).I R env fun is its e1 => forW (fturn Γ R t b P.rt) (staysIo is (frzL is e1)) P.nx its (frzL is e1)) := rfl
theorem S_raise {x : Str} {as : Ex} : wpS Γ R (.raise x as) env P = False := rfl
end
section
variable {env : Env} {d : D} {i : Nat} {K : D → Prop} {F : D → Env → Prop} {J : List Nat → D → Prop} {P : Post} {r : Rv} {rs : List Rv} {L : List D → Prop}
theorem rd_im : rd (.im d) env K = K d := rfl
theorem rd_fr : rd (.fr d) env K = K d := rfl
theorem rd_bo : rd (.bo i) env K = (match env[i]? with
    | some (.ow d) => K d
    | some (.io d) => K d
    | some (.im d) => K d
    | some (.lk d) => K d
    | _ => False) := rfl
theorem fz_im : fz (.im d) env F = F d env := rfl
theorem fz_fr : fz (.fr d) env F = F d env := rfl
theorem fz_bo : fz (.bo i) env F = (match env[i]? with
    | some (.ow d) => F d (env.set i (.im d))
    | some (.im d) => F d env
    | _ => False) := rfl
theorem srcR_im : srcR (.im d) env J = J [] d := rfl
theorem srcR_fr : srcR (.fr d) env J = J [] d := rfl
theorem srcR_bo : srcR (.bo i) env J = (match env[i]? with
    | some (.ow d) => J [i] d
    | some (.io d) => J [i] d
    | some (.im d) => J [] d
    | _ => False) := rfl
theorem rds_nil : rds [] env L = L [] := rfl
theorem rds_cons : rds (r :: rs) env L = rd r env fun d => rds rs env fun ds => L (d :: ds) := rfl
theorem ret_im : retR P (.im d) env = P.rt (.im d) env := rfl
theorem ret_fr : retR P (.fr d) env = P.rt (.fr d) env := rfl
theorem ret_bo : retR P (.bo i) env = (match env[i]? with
      | some (.ow d) => P.rt (.fr d) (env.set i .un)
      | some (.im d) => P.rt (.im d) env
      | _ => False) := rfl
end
section
variable {env : Env} {d : D} {ms : List Bool} {rs : List Rv} {L : List D → Prop} {i : Nat} {ds : List D}
theorem rdC_nil : rdC [] [] env L = L [] := rfl
theorem rdC_im : rdC (false :: ms) (.im d :: rs) env L = rdC ms rs env fun ds => L (d :: ds) := rfl
theorem rdC_fr : rdC (true :: ms) (.fr d :: rs) env L = (noFr rs = true ∧ rdC ms rs env fun ds => L (d :: ds)) := rfl
theorem rdC_bo : rdC (true :: ms) (.bo i :: rs) env L = (match env[i]? with
    | some (.ow d) => rdC ms rs env fun ds => L (d :: ds)
    | some (.io d) => rdC ms rs env fun ds => L (d :: ds)
    | _ => False) := rfl
theorem bos_nil : bos [] = [] := rfl
theorem bos_im : bos (.im d :: rs) = bos rs := rfl
theorem bos_fr : bos (.fr d :: rs) = bos rs := rfl
theorem bos_bo : bos (.bo i :: rs) = i :: bos rs := rfl
theorem nd_nil : ([] : List Nat).Nodup := List.nodup_nil
theorem nd_one : [i].Nodup := by simp
theorem putB_nil : putB [] [] ds env = env := rfl
theorem putB_im : putB (false :: ms) (.im d :: rs) ds env = putB ms rs ds env := rfl
theorem putB_fr {c : D} : putB (true :: ms) (.fr d :: rs) (c :: ds) env = putB ms rs ds env := rfl
theorem putB_bo {c : D} : putB (true :: ms) (.bo i :: rs) (c :: ds) env = putB ms rs ds (putS env i c) := rfl
theorem E_call' {Γ : Ga} {R : XP} {Q : Rv → Env → Prop} {f : Str} {as : Ex} {fi : FI} (h : Γ.fn f = some fi) : (sem Γ (.call f as)).E R env Q = ((sem Γ as).C R fi.io env fun rs e1 => (bos rs).Nodup ∧ rdC fi.io rs e1 fun ds => fi.sp ds (fun r fins => Q r (putB fi.io rs fins e1)) (fun x fins => R x (putB fi.io rs fins e1))) := by
  refine propext ⟨fun h' => ?_, fun h' => ⟨fi, h, h'⟩⟩
  obtain ⟨fi', e, h'⟩ := (show ∃ fi, Γ.fn f = some fi ∧ _ from h')
  rw [h] at e; cases e
  exact h'
end
theorem ex_some {α : Type} {a : α} {F : α → Prop} : (∃ k, some a = some k ∧ F k) ↔ F a := ⟨fun ⟨k, e, h⟩ => by cases e; exact h, fun h => ⟨a, rfl, h⟩⟩
theorem ex_eq {α : Type} {a : α} {F : α → Prop} : (∃ k, a = k ∧ F k) ↔ F a := ⟨fun ⟨k, e, h⟩ => by cases e; exact h, fun h => ⟨a, rfl, h⟩⟩
theorem ex_int {i : Int} {F : Int → Prop} : (∃ k, D.int i = .int k ∧ F k) ↔ F i := ⟨fun ⟨k, e, h⟩ => by cases e; exact h, fun h => ⟨i, rfl, h⟩⟩
theorem post_nx {io : List Bool} {Q : Rv → List D → Prop} {e : Env} : (PostF io Q).nx e = ∃ fs, finsE io e = some fs ∧ Q (.im .non) fs := rfl
theorem post_rt {io : List Bool} {Q : Rv → List D → Prop} {e : Env} {r : Rv} : (PostF io Q).rt r e = ∃ fs, finsE io e = some fs ∧ Q r fs := rfl
theorem tru_bl {b : Bool} : dTru (.bl b) = some b := rfl
theorem tru_int {i : Int} : dTru (.int i) = some (i != 0) := rfl
theorem tru_lst {l : List D} : dTru (.lst l) = some (!l.isEmpty) := rfl
theorem tru_tup {l : List D} : dTru (.tup l) = some (!l.isEmpty) := rfl
theorem tru_non : dTru .non = some false := rfl
theorem st_some {j : Nat} {d : D} {env : Env} {K : Env → Prop} {s : Sl} (h : env[j]? = some s) (h1 : ∀ d, s ≠ .io d) (h2 : ∀ d, s ≠ .lk d) : stS j (.im d) env K = K (env.set j (.im d)) := by
  unfold stS
  rw [h]
  cases s <;> first | rfl | exact absurd rfl (h1 _) | exact absurd rfl (h2 _)
section
variable {i j : Int} {x y : Str} {K : Bool → Prop}
theorem shp_int : D.shp2 (.int i) (.int j) := ⟨rfl, rfl, .inl (Nat.zero_le _)⟩
theorem cmp_eq_int : dCmp .Eq (.int i) (.int j) K = K (i == j) := propext ⟨fun h => h.2, fun h => ⟨shp_int, h⟩⟩
theorem cmp_ne_int : dCmp .NotEq (.int i) (.int j) K = K (!(i == j)) := propext ⟨fun h => h.2, fun h => ⟨shp_int, h⟩⟩
theorem cmp_lt_int : dCmp .Lt (.int i) (.int j) K = K (decide (i < j)) := rfl
theorem cmp_le_int : dCmp .LtE (.int i) (.int j) K = K (decide (i ≤ j)) := rfl
theorem cmp_gt_int : dCmp .Gt (.int i) (.int j) K = K (decide (j < i)) := rfl
theorem cmp_ge_int : dCmp .GtE (.int i) (.int j) K = K (decide (j ≤ i)) := rfl
theorem cmp_lt_str : dCmp .Lt (.str x) (.str y) K = K (decide (x.cps.toList < y.cps.toList)) := rfl
end
/-- a comprehension whose turns each do f: Iv is what holds of the environment at each turn -/
theorem compW_map {turn : D → Env → (Option D → Env → Prop) → Prop} {ok : Env → Prop} (f : D → Option D) (Iv : Env → Prop) (hok : ∀ e, Iv e → ok e) : ∀ {ds : List D} {acc : List D} {e : Env} {K : List D → Env → Prop},
    (∀ d ∈ ds, ∀ e k, Iv e → (∀ e', Iv e' → k (f d) e') → turn d e k) → Iv e → (∀ e', Iv e' → K (acc ++ ds.filterMap f) e') → compW turn ok ds acc e K
  | [], acc, e, K, _, i, k => ⟨hok e i, by simpa using k e i⟩
  | d :: ds, acc, e, K, ht, i, k => by
    refine ⟨hok e i, ht d List.mem_cons_self e _ i fun e' i' => compW_map f Iv hok (fun d' h => ht d' (List.mem_cons_of_mem _ h)) i' fun e2 i2 => ?_⟩
    have := k e2 i2
    cases h : f d with
    | none => simpa [List.filterMap_cons, h] using this
    | some y => simpa [List.filterMap_cons, h] using this
/-- a comprehension with a state: after the items before, S holds of what is made and of the environment -/
theorem compW_state {turn : D → Env → (Option D → Env → Prop) → Prop} {ok : Env → Prop} (S : List D → List D → Env → Prop) (hok : ∀ r acc e, S r acc e → ok e) : ∀ {ds : List D} {acc : List D} {e : Env} {K : List D → Env → Prop},
    (∀ d r acc e k, S (d :: r) acc e → (∀ o e', S r (match o with | some y => acc ++ [y] | none => acc) e' → k o e') → turn d e k) → S ds acc e → (∀ acc' e', S [] acc' e' → K acc' e') → compW turn ok ds acc e K
  | [], acc, e, K, _, i, k => ⟨hok _ _ e i, k acc e i⟩
  | d :: ds, acc, e, K, ht, i, k => ⟨hok _ _ e i, ht d ds acc e _ i fun o e' i' => compW_state S hok ht i' k⟩
/-- a for: S holds of the items to come and of the environment -/
theorem forW_state {turn : D → Env → (Env → Prop) → (Env → Prop) → Prop} {ok K : Env → Prop} (S : List D → Env → Prop) (hok : ∀ r e, S r e → ok e) : ∀ {ds : List D} {e : Env},
    (∀ d r e nx, S (d :: r) e → (∀ e', S r e' → nx e') → turn d e nx K) → S ds e → (∀ e', S [] e' → K e') → forW turn ok K ds e
  | [], e, _, i, k => ⟨hok _ e i, k e i⟩
  | d :: ds, e, ht, i, k => ⟨hok _ e i, ht d ds e _ i fun e' i' => forW_state S hok ht i' k⟩
end TG
end
section
namespace TG
open PySem
theorem find_at {α : Type} {p : α → Bool} : ∀ {l : List α} {i : Nat} {a : α}, l.findIdx? p = some i → l[i]? = some a → l.find? p = some a
  | [], _, _, h, _ => by simp at h
  | x :: l, i, a, h, e => by
    rw [List.findIdx?_cons] at h
    rw [List.find?_cons]
    cases hx : p x with
    | true =>
      rw [hx] at h
      simp at h
      subst h
      simpa using e
    | false =>
      rw [hx] at h
      simp at h
      obtain ⟨j, hj, rfl⟩ := h
      exact find_at hj (by simpa using e)
theorem gam_fn {cs : Str → Option D} {l : List Df} {x : Str} {d : Df} (i : Nat) (h : (l.findIdx? fun d => d.x == x) = some i) (e : l[i]? = some d) : (gam cs l).fn x = some d.fi := by
  show (l.find? fun d => d.x == x).map (·.fi) = _
  rw [find_at h e]; rfl
theorem cs_of {l : List (Str × D)} {m : List Df} {x : Str} {d : Str × D} (i : Nat) (h : (l.findIdx? fun p => p.1 == x) = some i) (e : l[i]? = some d) : (gam (csOf l) m).cs x = some d.2 := by
  show (l.find? fun p => p.1 == x).map (·.2) = _
  rw [find_at h e]; rfl
end TG
end
section
namespace LW
open PySem TG
def topS (i : Nat) : Stmt := PySem.Challenge.pw_twogoods_k14_whole_rooms_of_lots.main.body.getD i (.Pass ⟨0, 0, 0, 0⟩)
def bl : List Str := ["abs", "all", "bool", "dict", "divmod", "int", "isinstance", "len", "max", "min", "range", "sorted", "str", "sum", "tuple", "zip"]
def csL : List (Str × D) := [("LETTERS", .str "abcdefghijklmnopqrstuvwxyz"), ("MOST_LETTERS", .int 8), ("PARTS_OF_WEB", .int 2), ("PARTS_OF_TIE", .int 4)]
def N_is_whole : List Str := ["thing"]
def ps_is_whole : List Str := ["thing"]
def io_is_whole : List Bool := [false]
def sm_is_whole : Sm := .cons (.ret (.andn (.isi (.var 0) .int) (.notn (.isi (.var 0) .bool)))) (.nil)
def N_is_name : List Str := ["thing", "sign"]
def ps_is_name : List Str := ["thing"]
def io_is_name : List Bool := [false]
def sm_is_name : Sm := .cons (.ifs (.orn (.notn (.isi (.var 0) .str)) (.notn (.chain .LtE .LtE (.cint 1) (.blt .len (.cons (.var 0) (.nil))) (.glob "MOST_LETTERS")))) (.cons (.ret (.cbl false)) (.nil)) (.nil)) (.cons (.ret (.blt .all (.cons (.comp [1] (.nm 1) (.var 0) (.nil) (.cmp .In (.var 1) (.glob "LETTERS"))) (.nil)))) (.nil))
def N_are_rising : List Str := ["names", "one", "other"]
def ps_are_rising : List Str := ["names"]
def io_are_rising : List Bool := [false]
def sm_are_rising : Sm := .cons (.ret (.blt .all (.cons (.comp [1, 2] (.tp (.cons (.nm 1) (.cons (.nm 2) (.nil)))) (.zip2 (.var 0) (.slc (.var 0) (.cint 1) (.nil))) (.nil) (.cmp .Lt (.var 1) (.var 2))) (.nil)))) (.nil)
def N_is_place_of : List Str := ["web", "thing"]
def ps_is_place_of : List Str := ["web", "thing"]
def io_is_place_of : List Bool := [false, false]
def sm_is_place_of : Sm := .cons (.ret (.andn (.call "is_name" (.cons (.var 1) (.nil))) (.cmp .In (.var 1) (.idx (.var 0) (.cint 0))))) (.nil)
def N_are_places : List Str := ["thing", "name"]
def ps_are_places : List Str := ["thing"]
def io_are_places : List Bool := [false]
def sm_are_places : Sm := .cons (.ifs (.orn (.notn (.isi (.var 0) .tuple)) (.cmp .Eq (.var 0) (.tupn (.nil)))) (.cons (.ret (.cbl false)) (.nil)) (.nil)) (.cons (.ret (.andn (.blt .all (.cons (.comp [1] (.nm 1) (.var 0) (.nil) (.call "is_name" (.cons (.var 1) (.nil)))) (.nil))) (.call "are_rising" (.cons (.var 0) (.nil))))) (.nil))
def N_is_tie : List Str := ["places", "thing", "tie", "one", "other", "room", "name"]
def ps_is_tie : List Str := ["places", "thing"]
def io_is_tie : List Bool := [false, false]
def sm_is_tie : Sm := .cons (.ifs (.orn (.notn (.isi (.var 1) .tuple)) (.orn (.cmp .NotEq (.blt .len (.cons (.var 1) (.nil))) (.glob "PARTS_OF_TIE")) (.notn (.blt .all (.cons (.comp [6] (.nm 6) (.slc (.var 1) (.nil) (.cint 3)) (.nil) (.call "is_name" (.cons (.var 6) (.nil)))) (.nil)))))) (.cons (.ret (.cbl false)) (.nil)) (.nil)) (.cons (.asg (.tp (.cons (.nm 2) (.cons (.nm 3) (.cons (.nm 4) (.cons (.nm 5) (.nil)))))) (.var 1)) (.cons (.ret (.andn (.cmp .In (.var 3) (.var 0)) (.andn (.cmp .In (.var 4) (.var 0)) (.andn (.cmp .Lt (.var 3) (.var 4)) (.andn (.call "is_whole" (.cons (.var 5) (.nil))) (.cmp .GtE (.var 5) (.cint 0))))))) (.nil)))
def N_is_web : List Str := ["thing", "places", "ties", "row"]
def ps_is_web : List Str := ["thing"]
def io_is_web : List Bool := [false]
def sm_is_web : Sm := .cons (.ifs (.orn (.notn (.isi (.var 0) .tuple)) (.orn (.cmp .NotEq (.blt .len (.cons (.var 0) (.nil))) (.glob "PARTS_OF_WEB")) (.notn (.call "are_places" (.cons (.idx (.var 0) (.cint 0)) (.nil)))))) (.cons (.ret (.cbl false)) (.nil)) (.nil)) (.cons (.asg (.tp (.cons (.nm 1) (.cons (.nm 2) (.nil)))) (.var 0)) (.cons (.ifs (.orn (.notn (.isi (.var 2) .tuple)) (.notn (.blt .all (.cons (.comp [3] (.nm 3) (.var 2) (.nil) (.call "is_tie" (.cons (.var 1) (.cons (.var 3) (.nil))))) (.nil))))) (.cons (.ret (.cbl false)) (.nil)) (.nil)) (.cons (.ret (.call "are_rising" (.cons (.comp [3] (.nm 3) (.var 2) (.nil) (.idx (.var 3) (.cint 0))) (.nil)))) (.nil))))
def N_want_web : List Str := ["thing"]
def ps_want_web : List Str := ["thing"]
def io_want_web : List Bool := [false]
def sm_want_web : Sm := .cons (.ifs (.notn (.call "is_web" (.cons (.var 0) (.nil)))) (.cons (.raise "" .nil) (.nil)) (.nil)) (.nil)
def N_is_lot_of : List Str := ["web", "thing", "place"]
def ps_is_lot_of : List Str := ["web", "thing"]
def io_is_lot_of : List Bool := [false, false]
def sm_is_lot_of : Sm := .cons (.ifs (.orn (.notn (.isi (.var 1) .tuple)) (.notn (.chain .LtE .Lt (.cint 1) (.blt .len (.cons (.var 1) (.nil))) (.blt .len (.cons (.idx (.var 0) (.cint 0)) (.nil)))))) (.cons (.ret (.cbl false)) (.nil)) (.nil)) (.cons (.ret (.andn (.blt .all (.cons (.comp [2] (.nm 2) (.var 1) (.nil) (.call "is_place_of" (.cons (.var 0) (.cons (.var 2) (.nil))))) (.nil))) (.call "are_rising" (.cons (.var 1) (.nil))))) (.nil))
def N_want_lot : List Str := ["web", "thing"]
def ps_want_lot : List Str := ["web", "thing"]
def io_want_lot : List Bool := [false, false]
def sm_want_lot : Sm := .cons (.ifs (.notn (.call "is_lot_of" (.cons (.var 0) (.cons (.var 1) (.nil))))) (.cons (.raise "" .nil) (.nil)) (.nil)) (.nil)
def N_leaves : List Str := ["lot", "row"]
def ps_leaves : List Str := ["lot", "row"]
def io_leaves : List Bool := [false, false]
def sm_leaves : Sm := .cons (.ret (.cmp .NotEq (.cmp .In (.idx (.var 1) (.cint 1)) (.var 0)) (.cmp .In (.idx (.var 1) (.cint 2)) (.var 0)))) (.nil)
def N_rows_of : List Str := ["web", "lot", "row"]
def ps_rows_of : List Str := ["web", "lot"]
def io_rows_of : List Bool := [false, false]
def sm_rows_of : Sm := .cons (.ret (.comp [2] (.nm 2) (.idx (.var 0) (.cint 1)) (.call "leaves" (.cons (.var 1) (.cons (.var 2) (.nil)))) (.var 2))) (.nil)
def N_room_sum : List Str := ["web", "lot", "row"]
def ps_room_sum : List Str := ["web", "lot"]
def io_room_sum : List Bool := [false, false]
def sm_room_sum : Sm := .cons (.ret (.blt .sum (.cons (.comp [2] (.nm 2) (.call "rows_of" (.cons (.var 0) (.cons (.var 1) (.nil)))) (.nil) (.idx (.var 2) (.cint 3))) (.nil)))) (.nil)
def N_rest_of : List Str := ["web", "lot", "place"]
def ps_rest_of : List Str := ["web", "lot"]
def io_rest_of : List Bool := [false, false]
def sm_rest_of : Sm := .cons (.ret (.blt .tuple (.cons (.comp [2] (.nm 2) (.idx (.var 0) (.cint 0)) (.cmp .NotIn (.var 2) (.var 1)) (.var 2)) (.nil)))) (.nil)
def N_ties_of : List Str := ["web", "lot", "row"]
def ps_ties_of : List Str := ["web", "lot"]
def io_ties_of : List Bool := [false, false]
def sm_ties_of : Sm := .cons (.expr (.call "want_web" (.cons (.var 0) (.nil)))) (.cons (.expr (.call "want_lot" (.cons (.var 0) (.cons (.var 1) (.nil))))) (.cons (.ret (.blt .tuple (.cons (.comp [2] (.nm 2) (.call "rows_of" (.cons (.var 0) (.cons (.var 1) (.nil)))) (.nil) (.idx (.var 2) (.cint 0))) (.nil)))) (.nil)))
def N_lot_room : List Str := ["web", "lot"]
def ps_lot_room : List Str := ["web", "lot"]
def io_lot_room : List Bool := [false, false]
def sm_lot_room : Sm := .cons (.expr (.call "want_web" (.cons (.var 0) (.nil)))) (.cons (.expr (.call "want_lot" (.cons (.var 0) (.cons (.var 1) (.nil))))) (.cons (.ret (.call "room_sum" (.cons (.var 0) (.cons (.var 1) (.nil))))) (.nil)))
def N_other_side : List Str := ["web", "lot"]
def ps_other_side : List Str := ["web", "lot"]
def io_other_side : List Bool := [false, false]
def sm_other_side : Sm := .cons (.expr (.call "want_web" (.cons (.var 0) (.nil)))) (.cons (.expr (.call "want_lot" (.cons (.var 0) (.cons (.var 1) (.nil))))) (.cons (.ret (.call "rest_of" (.cons (.var 0) (.cons (.var 1) (.nil))))) (.nil)))
def N__law_cell : List Str := ["_law_script", "_law_k"]
def ps__law_cell : List Str := ["_law_script", "_law_k"]
def io__law_cell : List Bool := [false, false]
def sm__law_cell : Sm := .cons (.ifs (.cmp .Lt (.var 1) (.blt .len (.cons (.var 0) (.nil)))) (.cons (.ret (.idx (.var 0) (.var 1))) (.nil)) (.nil)) (.cons (.ret (.cint 0)) (.nil))
def N__law_pot : List Str := ["_law_cell_here"]
def ps__law_pot : List Str := ["_law_cell_here"]
def io__law_pot : List Bool := [false]
def sm__law_pot : Sm := .cons (.ret (.lstn (.cons (.blt .max (.cons (.cint 0) (.cons (.bin .Sub (.blt .abs (.cons (.var 0) (.nil))) (.bin .Pow (.cint 10) (.cint 18))) (.nil)))) (.cons (.bin .Add (.bin .Mod (.blt .abs (.cons (.var 0) (.nil))) (.cint 2147483629)) (.cint 1)) (.nil))))) (.nil)
def N__law_draw : List Str := ["_law_pot_here", "_law_many", "_law_digit"]
def ps__law_draw : List Str := ["_law_pot_here", "_law_many"]
def io__law_draw : List Bool := [true, false]
def sm__law_draw : Sm := .cons (.ifs (.cmp .Gt (.idx (.var 0) (.cint 0)) (.cint 0)) (.cons (.asg (.tp (.cons (.sub 0 0) (.cons (.nm 2) (.nil)))) (.blt .divmod (.cons (.idx (.var 0) (.cint 0)) (.cons (.var 1) (.nil))))) (.cons (.ret (.var 2)) (.nil))) (.nil)) (.cons (.sub 0 (.cint 1) (.bin .Mod (.bin .Add (.bin .Mult (.idx (.var 0) (.cint 1)) (.cint 48271)) (.cint 11)) (.cint 2147483647))) (.cons (.ret (.bin .Mod (.bin .FloorDiv (.bin .Mod (.bin .Mult (.idx (.var 0) (.cint 1)) (.idx (.var 0) (.cint 1))) (.cint 2147483629)) (.cint 3)) (.var 1))) (.nil)))
def N__law_great : List Str := ["_law_pot_here", "_law_bound"]
def ps__law_great : List Str := ["_law_pot_here", "_law_bound"]
def io__law_great : List Bool := [true, false]
def sm__law_great : Sm := .cons (.ret (.bin .Mod (.bin .Mult (.call "_law_draw" (.cons (.var 0) (.cons (.var 1) (.nil)))) (.bin .Pow (.cint 982451653) (.cint 4))) (.var 1))) (.nil)
def N__law_names : List Str := ["_law_pot_here", "_law_many", "_law_letters", "_law_begin", "_law_plain", "_law_found", "_law_k", "_law_word", "_law_j"]
def ps__law_names : List Str := ["_law_pot_here", "_law_many"]
def io__law_names : List Bool := [true, false]
def sm__law_names : Sm := .cons (.asg (.nm 2) (.cstr "abcdefghijklmnopqrstuvwxyz")) (.cons (.asg (.nm 3) (.call "_law_draw" (.cons (.var 0) (.cons (.cint 26) (.nil))))) (.cons (.asg (.nm 4) (.cmp .Eq (.call "_law_draw" (.cons (.var 0) (.cons (.cint 3) (.nil)))) (.cint 0))) (.cons (.asg (.nm 5) (.lstn (.nil))) (.cons (.forr (.nm 6) (.rng1 (.var 1)) (.cons (.ifs (.var 4) (.cons (.expr (.mut .append 5 (.cons (.idx (.var 2) (.bin .Mod (.bin .Add (.var 3) (.bin .Mult (.cint 5) (.var 6))) (.cint 26))) (.nil)))) (.nil)) (.cons (.asg (.nm 7) (.meth .join (.cstr "") (.cons (.comp [8] (.nm 8) (.rng1 (.call "_law_draw" (.cons (.var 0) (.cons (.cint 7) (.nil))))) (.nil) (.idx (.var 2) (.call "_law_draw" (.cons (.var 0) (.cons (.cint 26) (.nil)))))) (.nil)))) (.cons (.asg (.nm 7) (.bin .Add (.var 7) (.idx (.var 2) (.bin .Mod (.bin .Add (.var 3) (.bin .Mult (.cint 7) (.var 6))) (.cint 26))))) (.cons (.expr (.mut .append 5 (.cons (.bin .Add (.var 7) (.idx (.var 2) (.bin .Mod (.bin .Add (.var 3) (.var 6)) (.cint 26)))) (.nil)))) (.nil))))) (.nil))) (.cons (.ret (.var 5)) (.nil))))))
def N__law_room : List Str := ["_law_pot_here", "_law_great_here", "_law_way"]
def ps__law_room : List Str := ["_law_pot_here", "_law_great_here"]
def io__law_room : List Bool := [true, false]
def sm__law_room : Sm := .cons (.asg (.nm 2) (.call "_law_draw" (.cons (.var 0) (.cons (.cint 4) (.nil))))) (.cons (.ifs (.andn (.var 1) (.cmp .Eq (.var 2) (.cint 3))) (.cons (.ret (.call "_law_great" (.cons (.var 0) (.cons (.bin .Pow (.cint 10) (.cint 30)) (.nil))))) (.nil)) (.nil)) (.cons (.ret (.call "_law_draw" (.cons (.var 0) (.cons (.idx (.lstn (.cons (.cint 10) (.cons (.cint 3) (.cons (.cint 2) (.cons (.cint 10) (.nil)))))) (.var 2)) (.nil))))) (.nil)))
def N__law_web : List Str := ["_law_pot_here", "_law_places", "_law_great_here", "_law_many", "_law_rows", "_law_tie", "_law_at", "_law_far", "_law_near"]
def ps__law_web : List Str := ["_law_pot_here"]
def io__law_web : List Bool := [true]
def sm__law_web : Sm := .cons (.asg (.nm 1) (.blt .sorted (.cons (.call "_law_names" (.cons (.var 0) (.cons (.bin .Add (.cint 1) (.call "_law_draw" (.cons (.var 0) (.cons (.idx (.lstn (.cons (.cint 4) (.cons (.cint 6) (.cons (.cint 8) (.cons (.cint 10) (.nil)))))) (.call "_law_draw" (.cons (.var 0) (.cons (.cint 4) (.nil))))) (.nil))))) (.nil)))) (.nil)))) (.cons (.asg (.nm 2) (.cmp .Eq (.call "_law_draw" (.cons (.var 0) (.cons (.cint 2) (.nil)))) (.cint 1))) (.cons (.asg (.nm 3) (.ife (.cmp .Gt (.blt .len (.cons (.var 1) (.nil))) (.cint 1)) (.call "_law_draw" (.cons (.var 0) (.cons (.idx (.lstn (.cons (.cint 7) (.cons (.cint 13) (.cons (.cint 25) (.nil))))) (.call "_law_draw" (.cons (.var 0) (.cons (.cint 3) (.nil))))) (.nil)))) (.cint 0))) (.cons (.asg (.nm 4) (.lstn (.nil))) (.cons (.forr (.nm 5) (.call "_law_names" (.cons (.var 0) (.cons (.var 3) (.nil)))) (.cons (.asg (.nm 6) (.call "_law_draw" (.cons (.var 0) (.cons (.blt .len (.cons (.var 1) (.nil))) (.nil))))) (.cons (.asg (.nm 7) (.bin .Mod (.bin .Add (.bin .Add (.var 6) (.cint 1)) (.call "_law_draw" (.cons (.var 0) (.cons (.bin .Sub (.blt .len (.cons (.var 1) (.nil))) (.cint 1)) (.nil))))) (.blt .len (.cons (.var 1) (.nil))))) (.cons (.par2 8 7 (.blt .min (.cons (.var 6) (.cons (.var 7) (.nil)))) (.blt .max (.cons (.var 6) (.cons (.var 7) (.nil))))) (.cons (.expr (.mut .append 4 (.cons (.tupn (.cons (.var 5) (.cons (.idx (.var 1) (.var 8)) (.cons (.idx (.var 1) (.var 7)) (.cons (.call "_law_room" (.cons (.var 0) (.cons (.var 2) (.nil)))) (.nil)))))) (.nil)))) (.nil)))))) (.cons (.ret (.tupn (.cons (.blt .tuple (.cons (.var 1) (.nil))) (.cons (.blt .tuple (.cons (.blt .sorted (.cons (.var 4) (.nil))) (.nil))) (.nil))))) (.nil))))))
def N__law_lots : List Str := ["_law_web_here", "_law_found", "_law_place", "_law_lot_here"]
def ps__law_lots : List Str := ["_law_web_here"]
def io__law_lots : List Bool := [false]
def sm__law_lots : Sm := .cons (.asg (.nm 1) (.lstn (.cons (.tupn (.nil)) (.nil)))) (.cons (.forr (.nm 2) (.idx (.var 0) (.cint 0)) (.cons (.asg (.nm 1) (.bin .Add (.var 1) (.comp [3] (.nm 3) (.var 1) (.nil) (.bin .Add (.var 3) (.tupn (.cons (.var 2) (.nil))))))) (.nil))) (.cons (.ret (.comp [3] (.nm 3) (.var 1) (.chain .Lt .Lt (.cint 0) (.blt .len (.cons (.var 3) (.nil))) (.blt .len (.cons (.idx (.var 0) (.cint 0)) (.nil)))) (.var 3))) (.nil)))
def N__law_lot : List Str := ["_law_pot_here", "_law_web_here", "_law_some"]
def ps__law_lot : List Str := ["_law_pot_here", "_law_web_here"]
def io__law_lot : List Bool := [true, false]
def sm__law_lot : Sm := .cons (.asg (.nm 2) (.call "_law_lots" (.cons (.var 1) (.nil)))) (.cons (.ret (.idx (.var 2) (.call "_law_draw" (.cons (.var 0) (.cons (.blt .len (.cons (.var 2) (.nil))) (.nil)))))) (.nil))
def N__law_room_of : List Str := ["_law_web_here", "_law_some", "_law_lot_here"]
def ps__law_room_of : List Str := ["_law_web_here", "_law_some"]
def io__law_room_of : List Bool := [false, false]
def sm__law_room_of : Sm := .cons (.asg (.nm 2) (.blt .tuple (.cons (.blt .sorted (.cons (.var 1) (.nil))) (.nil)))) (.cons (.ifs (.orn (.cmp .Eq (.var 2) (.tupn (.nil))) (.cmp .Eq (.blt .len (.cons (.var 2) (.nil))) (.blt .len (.cons (.idx (.var 0) (.cint 0)) (.nil))))) (.cons (.ret (.cint 0)) (.nil)) (.nil)) (.cons (.ret (.call "lot_room" (.cons (.var 0) (.cons (.var 2) (.nil))))) (.nil)))
def N__law_sides_right : List Str := ["_law_web_here", "_law_lot_here", "_law_far_side", "_law_rooms", "_law_row", "_law_tie"]
def ps__law_sides_right : List Str := ["_law_web_here", "_law_lot_here"]
def io__law_sides_right : List Bool := [false, false]
def sm__law_sides_right : Sm := .cons (.asg (.nm 2) (.call "other_side" (.cons (.var 0) (.cons (.var 1) (.nil))))) (.cons (.ifs (.orn (.cmp .NotEq (.call "other_side" (.cons (.var 0) (.cons (.var 2) (.nil)))) (.var 1)) (.cmp .NotEq (.call "ties_of" (.cons (.var 0) (.cons (.var 2) (.nil)))) (.call "ties_of" (.cons (.var 0) (.cons (.var 1) (.nil)))))) (.cons (.ret (.cbl false)) (.nil)) (.nil)) (.cons (.asg (.nm 3) (.blt .dict (.cons (.comp [4] (.nm 4) (.idx (.var 0) (.cint 1)) (.nil) (.tupn (.cons (.idx (.var 4) (.cint 0)) (.cons (.idx (.var 4) (.cint 3)) (.nil))))) (.nil)))) (.cons (.ret (.chain .Eq .Eq (.call "lot_room" (.cons (.var 0) (.cons (.var 1) (.nil)))) (.call "lot_room" (.cons (.var 0) (.cons (.var 2) (.nil)))) (.blt .sum (.cons (.comp [5] (.nm 5) (.call "ties_of" (.cons (.var 0) (.cons (.var 1) (.nil)))) (.nil) (.idx (.var 3) (.var 5))) (.nil))))) (.nil))))
def N__law_right : List Str := ["_law_web_here", "_law_one", "_law_other", "_law_both", "_law_just_one", "_law_just_other", "_law_room_here", "_law_place"]
def ps__law_right : List Str := ["_law_web_here", "_law_one", "_law_other"]
def io__law_right : List Bool := [false, false, false]
def sm__law_right : Sm := .cons (.ifs (.orn (.notn (.call "_law_sides_right" (.cons (.var 0) (.cons (.var 1) (.nil))))) (.notn (.call "_law_sides_right" (.cons (.var 0) (.cons (.var 2) (.nil)))))) (.cons (.ret (.cbl false)) (.nil)) (.nil)) (.cons (.asg (.nm 3) (.comp [7] (.nm 7) (.var 1) (.cmp .In (.var 7) (.var 2)) (.var 7))) (.cons (.asg (.nm 4) (.comp [7] (.nm 7) (.var 1) (.cmp .NotIn (.var 7) (.var 2)) (.var 7))) (.cons (.asg (.nm 5) (.comp [7] (.nm 7) (.var 2) (.cmp .NotIn (.var 7) (.var 1)) (.var 7))) (.cons (.asg (.nm 6) (.bin .Add (.call "lot_room" (.cons (.var 0) (.cons (.var 1) (.nil)))) (.call "lot_room" (.cons (.var 0) (.cons (.var 2) (.nil)))))) (.cons (.ifs (.cmp .Gt (.bin .Add (.call "_law_room_of" (.cons (.var 0) (.cons (.var 3) (.nil)))) (.call "_law_room_of" (.cons (.var 0) (.cons (.bin .Add (.bin .Add (.var 3) (.var 4)) (.var 5)) (.nil))))) (.var 6)) (.cons (.ret (.cbl false)) (.nil)) (.nil)) (.cons (.ifs (.cmp .Gt (.bin .Add (.call "_law_room_of" (.cons (.var 0) (.cons (.var 4) (.nil)))) (.call "_law_room_of" (.cons (.var 0) (.cons (.var 5) (.nil))))) (.var 6)) (.cons (.ret (.cbl false)) (.nil)) (.nil)) (.cons (.ret (.cmp .LtE (.call "_law_room_of" (.cons (.var 0) (.cons (.bin .Add (.var 4) (.var 5)) (.nil)))) (.var 6))) (.nil))))))))
def N_law : List Str := ["_law_script", "_law_k", "_law_pot_here", "_law_web_here", "_law_j"]
def ps_law : List Str := ["_law_script"]
def io_law : List Bool := [false]
def sm_law : Sm := .cons (.forr (.nm 1) (.rng1 (.bin .Add (.blt .min (.cons (.blt .len (.cons (.var 0) (.nil))) (.cons (.cint 6) (.nil)))) (.cint 1))) (.cons (.asg (.nm 2) (.call "_law_pot" (.cons (.call "_law_cell" (.cons (.var 0) (.cons (.var 1) (.nil)))) (.nil)))) (.cons (.asg (.nm 3) (.call "_law_web" (.cons (.var 2) (.nil)))) (.cons (.forr (.nm 4) (.rng1 (.bin .Mult (.cint 3) (.blt .int (.cons (.cmp .Gt (.blt .len (.cons (.idx (.var 3) (.cint 0)) (.nil))) (.cint 1)) (.nil))))) (.cons (.ifs (.notn (.call "_law_right" (.cons (.var 3) (.cons (.call "_law_lot" (.cons (.var 2) (.cons (.var 3) (.nil)))) (.cons (.call "_law_lot" (.cons (.var 2) (.cons (.var 3) (.nil)))) (.nil)))))) (.cons (.ret (.cbl false)) (.nil)) (.nil)) (.nil))) (.nil))))) (.cons (.ret (.cbl true)) (.nil))
def letters : Str := "abcdefghijklmnopqrstuvwxyz"
def NameOk (x : Str) : Prop := 1 ≤ x.length ∧ x.length ≤ 8 ∧ ∀ c ∈ x.cps.toList, c ∈ letters.cps.toList
def sLt (x y : Str) : Prop := x.cps.toList < y.cps.toList
def Rising (ps : List Str) : Prop := ps.Pairwise sLt
/-- a def that looks at its arguments and says yes -/
def yes1 (p : D → Prop) : FI := { io := [false], sp := fun ds Q _ => ∃ d, ds = [d] ∧ p d ∧ Q (.im (.bl true)) [] }
def fi_is_whole : FI := yes1 fun d => ∃ i, d = .int i
def fi_is_name : FI := yes1 fun d => ∃ x, d = .str x ∧ NameOk x
def fi_are_rising : FI := yes1 fun d => ∃ ps : List Str, (d = .tup (ps.map .str) ∨ d = .lst (ps.map .str)) ∧ Rising ps ∧ ps.length ≤ sizeLine
theorem occ_one (c : Nat) (y : Str) (h : c ∈ y.cps.toList) : (Builtin.Str.occurrences y ⟨#[c]⟩ 0 y.length 1).isEmpty = false := by
  have := PySem.StrLaws.found_one y c
  rw [decide_eq_true h] at this
  simpa using this
theorem bls_fm (f : D → Bool) : ∀ ds : List D, blsD (ds.filterMap fun d => some (.bl (f d))) = some (ds.map f)
  | [] => rfl
  | d :: ds => by
    rw [List.filterMap_cons]
    simp only [List.map_cons]
    rw [blsD, bls_fm f ds]; rfl
theorem all_true {α : Type} (l : List α) : (l.map fun _ => true).all id = true := by simp
theorem k_is_whole (Γ : Ga) : Keeps Γ 1 sm_is_whole fi_is_whole := by
  rintro ds Q E ⟨_, rfl, ⟨i, rfl⟩, q⟩
  refine ⟨rfl, by decide, ?_⟩
  try simp only [sm_is_whole, fi_is_whole, yes1, ↓S_nil, ↓S_cons, ↓S_pass, ↓S_asg, ↓S_asgt, ↓S_par2, ↓S_par3, ↓S_subT, ↓S_expr, ↓S_ret, ↓S_retN, ↓S_ifs, ↓E_var, ↓E_cint, ↓E_cstr, ↓E_cbl, ↓E_cnon, ↓E_glob, ↓E_bin, ↓E_neg, ↓E_cmp, ↓E_chain, ↓E_andn, ↓E_orn, ↓E_notn, ↓E_ife, ↓E_tupn, ↓E_lstn, ↓E_dnew, ↓E_blt, ↓E_meth, ↓E_mut, ↓E_idx, ↓E_slc, ↓E_isi, ↓T_var, ↓T_cint, ↓T_cstr, ↓T_cbl, ↓T_glob, ↓T_bin, ↓T_cmp, ↓T_neg, ↓T_chain, ↓T_call, ↓T_blt, ↓T_meth, ↓T_idx, ↓T_slc, ↓T_isi, ↓T_comp, ↓T_tupn, ↓T_lstn, ↓T_andn, ↓T_orn, ↓T_notn, ↓T_ife, ↓T_nil, ↓O_nil, ↓O_var, ↓O_cint, ↓O_neg, ↓O_bin, ↓O_blt, ↓O_glob, ↓A_nil, ↓A_cons, ↓B_nil, ↓B_cons, ↓C_nil, ↓C_io, ↓C_im, ↓rd_im, ↓rd_fr, ↓rd_bo, ↓fz_im, ↓fz_fr, ↓fz_bo, ↓rds_nil, ↓rds_cons, ↓ret_im, ↓ret_fr, ↓ret_bo, ↓rdC_nil, ↓rdC_im, ↓rdC_fr, ↓rdC_bo, bos_nil, bos_im, bos_fr, bos_bo, nd_nil, nd_one, ↓putB_nil, ↓putB_im, ↓putB_fr, ↓putB_bo, ↓ex_some, ↓ex_int, ↓post_nx, ↓post_rt, tru_bl, tru_int, tru_lst, tru_tup, tru_non, cmp_eq_int, cmp_ne_int, cmp_lt_int, cmp_le_int, cmp_gt_int, cmp_ge_int, cmp_lt_str, finsE, env0, List.getElem?_cons_zero, List.getElem?_cons_succ, List.length_cons, List.length_nil, List.replicate, List.cons_append, List.nil_append, List.append_nil, reduceIte, Bool.not_true, Bool.not_false, Bool.false_eq_true, if_true, if_false, true_and, and_true, ite_true, ite_false, Option.map_some, List.set_cons_zero, List.set_cons_succ, dIsi]
  exact q
theorem k_is_name (Γ : Ga) (h1 : Γ.cs "MOST_LETTERS" = some (.int 8)) (h2 : Γ.cs "LETTERS" = some (.str letters)) : Keeps Γ 2 sm_is_name fi_is_name := by
  rintro ds Q E ⟨_, rfl, ⟨x, rfl, n1, n2, n3⟩, q⟩
  refine ⟨rfl, by decide, ?_⟩
  have hz : x.length ≤ sizeLine := by rw [PySem.sizeLine_eq]; omega
  have g1 : decide ((1 : Int) ≤ (x.length : Int)) = true := decide_eq_true (by omega)
  have g2 : decide ((x.length : Int) ≤ 8) = true := decide_eq_true (by omega)
  try simp only [sm_is_name, fi_is_name, yes1, ↓S_nil, ↓S_cons, ↓S_pass, ↓S_asg, ↓S_asgt, ↓S_par2, ↓S_par3, ↓S_subT, ↓S_expr, ↓S_ret, ↓S_retN, ↓S_ifs, ↓E_var, ↓E_cint, ↓E_cstr, ↓E_cbl, ↓E_cnon, ↓E_glob, ↓E_bin, ↓E_neg, ↓E_cmp, ↓E_chain, ↓E_andn, ↓E_orn, ↓E_notn, ↓E_ife, ↓E_tupn, ↓E_lstn, ↓E_dnew, ↓E_blt, ↓E_meth, ↓E_mut, ↓E_idx, ↓E_slc, ↓E_isi, ↓T_var, ↓T_cint, ↓T_cstr, ↓T_cbl, ↓T_glob, ↓T_bin, ↓T_cmp, ↓T_neg, ↓T_chain, ↓T_call, ↓T_blt, ↓T_meth, ↓T_idx, ↓T_slc, ↓T_isi, ↓T_comp, ↓T_tupn, ↓T_lstn, ↓T_andn, ↓T_orn, ↓T_notn, ↓T_ife, ↓T_nil, ↓O_nil, ↓O_var, ↓O_cint, ↓O_neg, ↓O_bin, ↓O_blt, ↓O_glob, ↓A_nil, ↓A_cons, ↓B_nil, ↓B_cons, ↓C_nil, ↓C_io, ↓C_im, ↓rd_im, ↓rd_fr, ↓rd_bo, ↓fz_im, ↓fz_fr, ↓fz_bo, ↓rds_nil, ↓rds_cons, ↓ret_im, ↓ret_fr, ↓ret_bo, ↓rdC_nil, ↓rdC_im, ↓rdC_fr, ↓rdC_bo, bos_nil, bos_im, bos_fr, bos_bo, nd_nil, nd_one, ↓putB_nil, ↓putB_im, ↓putB_fr, ↓putB_bo, ↓ex_some, ↓ex_int, ↓post_nx, ↓post_rt, tru_bl, tru_int, tru_lst, tru_tup, tru_non, cmp_eq_int, cmp_ne_int, cmp_lt_int, cmp_le_int, cmp_gt_int, cmp_ge_int, cmp_lt_str, finsE, env0, List.getElem?_cons_zero, List.getElem?_cons_succ, List.length_cons, List.length_nil, List.replicate, List.cons_append, List.nil_append, List.append_nil, reduceIte, Bool.not_true, Bool.not_false, Bool.false_eq_true, if_true, if_false, true_and, and_true, ite_true, ite_false, Option.map_some, List.set_cons_zero, List.set_cons_succ, dIsi, dCmp, dBlt, dd_len, un, u_len, hz, g1, g2, h1, h2, ↓E_comp, ↓I_var, ↓srcR_im, itD]
  refine ⟨by rw [List.length_map]; exact hz, compW_map (fun _ => some (.bl true)) (fun e => ∃ s, e = [.im (.str x), s]) (fun e ⟨s, e'⟩ => ?_) (fun d hd e k ⟨s, e'⟩ hk => ?_) ⟨_, rfl⟩ fun e' ⟨s, ee⟩ => ?_⟩
  · subst e'
    obtain ⟨c, hc, rfl⟩ := List.mem_map.mp hd
    try simp only [cturn, bindT, wipeE, List.set_cons_zero, List.set_cons_succ, stS, ↓S_nil, ↓S_cons, ↓S_pass, ↓S_asg, ↓S_asgt, ↓S_par2, ↓S_par3, ↓S_subT, ↓S_expr, ↓S_ret, ↓S_retN, ↓S_ifs, ↓E_var, ↓E_cint, ↓E_cstr, ↓E_cbl, ↓E_cnon, ↓E_glob, ↓E_bin, ↓E_neg, ↓E_cmp, ↓E_chain, ↓E_andn, ↓E_orn, ↓E_notn, ↓E_ife, ↓E_tupn, ↓E_lstn, ↓E_dnew, ↓E_blt, ↓E_meth, ↓E_mut, ↓E_idx, ↓E_slc, ↓E_isi, ↓T_var, ↓T_cint, ↓T_cstr, ↓T_cbl, ↓T_glob, ↓T_bin, ↓T_cmp, ↓T_neg, ↓T_chain, ↓T_call, ↓T_blt, ↓T_meth, ↓T_idx, ↓T_slc, ↓T_isi, ↓T_comp, ↓T_tupn, ↓T_lstn, ↓T_andn, ↓T_orn, ↓T_notn, ↓T_ife, ↓T_nil, ↓O_nil, ↓O_var, ↓O_cint, ↓O_neg, ↓O_bin, ↓O_blt, ↓O_glob, ↓A_nil, ↓A_cons, ↓B_nil, ↓B_cons, ↓C_nil, ↓C_io, ↓C_im, ↓rd_im, ↓rd_fr, ↓rd_bo, ↓fz_im, ↓fz_fr, ↓fz_bo, ↓rds_nil, ↓rds_cons, ↓ret_im, ↓ret_fr, ↓ret_bo, ↓rdC_nil, ↓rdC_im, ↓rdC_fr, ↓rdC_bo, bos_nil, bos_im, bos_fr, bos_bo, nd_nil, nd_one, ↓putB_nil, ↓putB_im, ↓putB_fr, ↓putB_bo, ↓ex_some, ↓ex_int, ↓post_nx, ↓post_rt, tru_bl, tru_int, tru_lst, tru_tup, tru_non, cmp_eq_int, cmp_ne_int, cmp_lt_int, cmp_le_int, cmp_gt_int, cmp_ge_int, cmp_lt_str, finsE, env0, List.getElem?_cons_zero, List.getElem?_cons_succ, List.length_cons, List.length_nil, List.replicate, List.cons_append, List.nil_append, List.append_nil, reduceIte, Bool.not_true, Bool.not_false, Bool.false_eq_true, if_true, if_false, true_and, and_true, ite_true, ite_false, Option.map_some, List.set_cons_zero, List.set_cons_succ, dIsi, dCmp, dIn, h2]
    rw [occ_one c letters (n3 c hc)]
    exact hk _ ⟨_, rfl⟩
  · subst e'; intro i h; cases h
  · subst ee
    try simp only [dd_all, un, u_all, wipeE, List.nil_append, ↓S_nil, ↓S_cons, ↓S_pass, ↓S_asg, ↓S_asgt, ↓S_par2, ↓S_par3, ↓S_subT, ↓S_expr, ↓S_ret, ↓S_retN, ↓S_ifs, ↓E_var, ↓E_cint, ↓E_cstr, ↓E_cbl, ↓E_cnon, ↓E_glob, ↓E_bin, ↓E_neg, ↓E_cmp, ↓E_chain, ↓E_andn, ↓E_orn, ↓E_notn, ↓E_ife, ↓E_tupn, ↓E_lstn, ↓E_dnew, ↓E_blt, ↓E_meth, ↓E_mut, ↓E_idx, ↓E_slc, ↓E_isi, ↓T_var, ↓T_cint, ↓T_cstr, ↓T_cbl, ↓T_glob, ↓T_bin, ↓T_cmp, ↓T_neg, ↓T_chain, ↓T_call, ↓T_blt, ↓T_meth, ↓T_idx, ↓T_slc, ↓T_isi, ↓T_comp, ↓T_tupn, ↓T_lstn, ↓T_andn, ↓T_orn, ↓T_notn, ↓T_ife, ↓T_nil, ↓O_nil, ↓O_var, ↓O_cint, ↓O_neg, ↓O_bin, ↓O_blt, ↓O_glob, ↓A_nil, ↓A_cons, ↓B_nil, ↓B_cons, ↓C_nil, ↓C_io, ↓C_im, ↓rd_im, ↓rd_fr, ↓rd_bo, ↓fz_im, ↓fz_fr, ↓fz_bo, ↓rds_nil, ↓rds_cons, ↓ret_im, ↓ret_fr, ↓ret_bo, ↓rdC_nil, ↓rdC_im, ↓rdC_fr, ↓rdC_bo, bos_nil, bos_im, bos_fr, bos_bo, nd_nil, nd_one, ↓putB_nil, ↓putB_im, ↓putB_fr, ↓putB_bo, ↓ex_some, ↓ex_int, ↓post_nx, ↓post_rt, tru_bl, tru_int, tru_lst, tru_tup, tru_non, cmp_eq_int, cmp_ne_int, cmp_lt_int, cmp_le_int, cmp_gt_int, cmp_ge_int, cmp_lt_str, finsE, env0, List.getElem?_cons_zero, List.getElem?_cons_succ, List.length_cons, List.length_nil, List.replicate, List.cons_append, List.nil_append, List.append_nil, reduceIte, Bool.not_true, Bool.not_false, Bool.false_eq_true, if_true, if_false, true_and, and_true, ite_true, ite_false, Option.map_some, List.set_cons_zero, List.set_cons_succ, dIsi]
    exact ⟨_, bls_fm _ _, by rw [all_true]; exact q⟩
theorem zip_drop {ps : List Str} {d : D} (h : d ∈ zipD (ps.map .str) ((ps.map .str).drop 1)) : ∃ x y : Str, d = .tup [.str x, .str y] ∧ (Rising ps → sLt x y) := by
  obtain ⟨i, hi⟩ := List.getElem?_of_mem h
  obtain ⟨x, y, h1, h2, rfl⟩ := zipD_get hi
  rw [List.getElem?_drop, List.getElem?_map] at h2
  rw [List.getElem?_map] at h1
  obtain ⟨a, ha, rfl⟩ := Option.map_eq_some_iff.mp h1
  obtain ⟨b, hb, rfl⟩ := Option.map_eq_some_iff.mp h2
  refine ⟨a, b, rfl, fun r => ?_⟩
  obtain ⟨l1, rfl⟩ := List.getElem?_eq_some_iff.mp ha
  obtain ⟨l2, rfl⟩ := List.getElem?_eq_some_iff.mp hb
  exact List.pairwise_iff_getElem.mp r i (1 + i) l1 l2 (by omega)
theorem cut1 {α : Type} (l : List α) : cutD l (some 1) none = l.drop 1 := by
  unfold cutD
  rw [show HT.sIx l.length 0 (some 1) = min 1 l.length from HT.sIx_nat l.length 0 1, HT.sIx_none]
  by_cases h : 1 ≤ l.length
  · rw [Nat.min_eq_left h, List.take_of_length_le (by rw [List.length_drop]; omega)]
  · have : l = [] := by cases l <;> simp_all
    subst this; rfl
theorem k_are_rising (Γ : Ga) : Keeps Γ 3 sm_are_rising fi_are_rising := by
  rintro ds Q E ⟨d0, rfl, ⟨ps, hd, r, hl⟩, q⟩
  refine ⟨rfl, by decide, ?_⟩
  have key : ∀ e1 : TG.Env, (∃ s t, e1 = [.im d0, s, t]) → compW (cturn Γ [1, 2] (.tp (.cons (.nm 1) (.cons (.nm 2) (.nil)))) .nil (.cmp .Lt (.var 1) (.var 2))) (fun e2 => stays [] e1 (wipeE e2 [1, 2])) (zipD (ps.map .str) ((ps.map .str).drop 1)) [] e1 fun acc e7 => dd_all [.lst acc] fun r => retR (PostF [false] Q) r (wipeE e7 [1, 2]) := fun e1 he1 => by
    refine compW_map (fun _ => some (.bl true)) (fun e => ∃ s t, e = [.im d0, s, t]) (fun e _ => ?_) (fun d hd e k ⟨s, t, e'⟩ hk => ?_) he1 fun e' ⟨s, t, ee⟩ => ?_
    · intro i h; cases h
    · subst e'
      obtain ⟨x, y, rfl, hxy⟩ := zip_drop hd
      have hxy : decide (x.cps.toList < y.cps.toList) = true := decide_eq_true (hxy r)
      try simp only [cturn, bindT, bindTs, Tg.len, wipeE, List.set_cons_zero, List.set_cons_succ, stS, ↓S_nil, ↓S_cons, ↓S_pass, ↓S_asg, ↓S_asgt, ↓S_par2, ↓S_par3, ↓S_subT, ↓S_expr, ↓S_ret, ↓S_retN, ↓S_ifs, ↓E_var, ↓E_cint, ↓E_cstr, ↓E_cbl, ↓E_cnon, ↓E_glob, ↓E_bin, ↓E_neg, ↓E_cmp, ↓E_chain, ↓E_andn, ↓E_orn, ↓E_notn, ↓E_ife, ↓E_tupn, ↓E_lstn, ↓E_dnew, ↓E_blt, ↓E_meth, ↓E_mut, ↓E_idx, ↓E_slc, ↓E_isi, ↓T_var, ↓T_cint, ↓T_cstr, ↓T_cbl, ↓T_glob, ↓T_bin, ↓T_cmp, ↓T_neg, ↓T_chain, ↓T_call, ↓T_blt, ↓T_meth, ↓T_idx, ↓T_slc, ↓T_isi, ↓T_comp, ↓T_tupn, ↓T_lstn, ↓T_andn, ↓T_orn, ↓T_notn, ↓T_ife, ↓T_nil, ↓O_nil, ↓O_var, ↓O_cint, ↓O_neg, ↓O_bin, ↓O_blt, ↓O_glob, ↓A_nil, ↓A_cons, ↓B_nil, ↓B_cons, ↓C_nil, ↓C_io, ↓C_im, ↓rd_im, ↓rd_fr, ↓rd_bo, ↓fz_im, ↓fz_fr, ↓fz_bo, ↓rds_nil, ↓rds_cons, ↓ret_im, ↓ret_fr, ↓ret_bo, ↓rdC_nil, ↓rdC_im, ↓rdC_fr, ↓rdC_bo, bos_nil, bos_im, bos_fr, bos_bo, nd_nil, nd_one, ↓putB_nil, ↓putB_im, ↓putB_fr, ↓putB_bo, ↓ex_some, ↓ex_int, ↓post_nx, ↓post_rt, tru_bl, tru_int, tru_lst, tru_tup, tru_non, cmp_eq_int, cmp_ne_int, cmp_lt_int, cmp_le_int, cmp_gt_int, cmp_ge_int, cmp_lt_str, finsE, env0, List.getElem?_cons_zero, List.getElem?_cons_succ, List.length_cons, List.length_nil, List.replicate, List.cons_append, List.nil_append, List.append_nil, reduceIte, Bool.not_true, Bool.not_false, Bool.false_eq_true, if_true, if_false, true_and, and_true, ite_true, ite_false, Option.map_some, List.set_cons_zero, List.set_cons_succ, dIsi, dCmp, hxy]
      exact hk _ ⟨_, _, rfl⟩
    · subst ee
      try simp only [dd_all, un, u_all, wipeE, List.nil_append, ↓S_nil, ↓S_cons, ↓S_pass, ↓S_asg, ↓S_asgt, ↓S_par2, ↓S_par3, ↓S_subT, ↓S_expr, ↓S_ret, ↓S_retN, ↓S_ifs, ↓E_var, ↓E_cint, ↓E_cstr, ↓E_cbl, ↓E_cnon, ↓E_glob, ↓E_bin, ↓E_neg, ↓E_cmp, ↓E_chain, ↓E_andn, ↓E_orn, ↓E_notn, ↓E_ife, ↓E_tupn, ↓E_lstn, ↓E_dnew, ↓E_blt, ↓E_meth, ↓E_mut, ↓E_idx, ↓E_slc, ↓E_isi, ↓T_var, ↓T_cint, ↓T_cstr, ↓T_cbl, ↓T_glob, ↓T_bin, ↓T_cmp, ↓T_neg, ↓T_chain, ↓T_call, ↓T_blt, ↓T_meth, ↓T_idx, ↓T_slc, ↓T_isi, ↓T_comp, ↓T_tupn, ↓T_lstn, ↓T_andn, ↓T_orn, ↓T_notn, ↓T_ife, ↓T_nil, ↓O_nil, ↓O_var, ↓O_cint, ↓O_neg, ↓O_bin, ↓O_blt, ↓O_glob, ↓A_nil, ↓A_cons, ↓B_nil, ↓B_cons, ↓C_nil, ↓C_io, ↓C_im, ↓rd_im, ↓rd_fr, ↓rd_bo, ↓fz_im, ↓fz_fr, ↓fz_bo, ↓rds_nil, ↓rds_cons, ↓ret_im, ↓ret_fr, ↓ret_bo, ↓rdC_nil, ↓rdC_im, ↓rdC_fr, ↓rdC_bo, bos_nil, bos_im, bos_fr, bos_bo, nd_nil, nd_one, ↓putB_nil, ↓putB_im, ↓putB_fr, ↓putB_bo, ↓ex_some, ↓ex_int, ↓post_nx, ↓post_rt, tru_bl, tru_int, tru_lst, tru_tup, tru_non, cmp_eq_int, cmp_ne_int, cmp_lt_int, cmp_le_int, cmp_gt_int, cmp_ge_int, cmp_lt_str, finsE, env0, List.getElem?_cons_zero, List.getElem?_cons_succ, List.length_cons, List.length_nil, List.replicate, List.cons_append, List.nil_append, List.append_nil, reduceIte, Bool.not_true, Bool.not_false, Bool.false_eq_true, if_true, if_false, true_and, and_true, ite_true, ite_false, Option.map_some, List.set_cons_zero, List.set_cons_succ, dIsi]
      exact ⟨_, bls_fm _ _, by rw [all_true]; exact q⟩
  have hlen : (zipD (ps.map .str) ((ps.map .str).drop 1)).length ≤ sizeLine := by
    rw [zipD_len, List.length_map]; omega
  rcases hd with rfl | rfl
  · try simp only [sm_are_rising, fi_are_rising, yes1, ↓S_nil, ↓S_cons, ↓S_pass, ↓S_asg, ↓S_asgt, ↓S_par2, ↓S_par3, ↓S_subT, ↓S_expr, ↓S_ret, ↓S_retN, ↓S_ifs, ↓E_var, ↓E_cint, ↓E_cstr, ↓E_cbl, ↓E_cnon, ↓E_glob, ↓E_bin, ↓E_neg, ↓E_cmp, ↓E_chain, ↓E_andn, ↓E_orn, ↓E_notn, ↓E_ife, ↓E_tupn, ↓E_lstn, ↓E_dnew, ↓E_blt, ↓E_meth, ↓E_mut, ↓E_idx, ↓E_slc, ↓E_isi, ↓T_var, ↓T_cint, ↓T_cstr, ↓T_cbl, ↓T_glob, ↓T_bin, ↓T_cmp, ↓T_neg, ↓T_chain, ↓T_call, ↓T_blt, ↓T_meth, ↓T_idx, ↓T_slc, ↓T_isi, ↓T_comp, ↓T_tupn, ↓T_lstn, ↓T_andn, ↓T_orn, ↓T_notn, ↓T_ife, ↓T_nil, ↓O_nil, ↓O_var, ↓O_cint, ↓O_neg, ↓O_bin, ↓O_blt, ↓O_glob, ↓A_nil, ↓A_cons, ↓B_nil, ↓B_cons, ↓C_nil, ↓C_io, ↓C_im, ↓rd_im, ↓rd_fr, ↓rd_bo, ↓fz_im, ↓fz_fr, ↓fz_bo, ↓rds_nil, ↓rds_cons, ↓ret_im, ↓ret_fr, ↓ret_bo, ↓rdC_nil, ↓rdC_im, ↓rdC_fr, ↓rdC_bo, bos_nil, bos_im, bos_fr, bos_bo, nd_nil, nd_one, ↓putB_nil, ↓putB_im, ↓putB_fr, ↓putB_bo, ↓ex_some, ↓ex_int, ↓post_nx, ↓post_rt, tru_bl, tru_int, tru_lst, tru_tup, tru_non, cmp_eq_int, cmp_ne_int, cmp_lt_int, cmp_le_int, cmp_gt_int, cmp_ge_int, cmp_lt_str, finsE, env0, List.getElem?_cons_zero, List.getElem?_cons_succ, List.length_cons, List.length_nil, List.replicate, List.cons_append, List.nil_append, List.append_nil, reduceIte, Bool.not_true, Bool.not_false, Bool.false_eq_true, if_true, if_false, true_and, and_true, ite_true, ite_false, Option.map_some, List.set_cons_zero, List.set_cons_succ, dIsi, dBlt, ↓E_comp, ↓I_zip2, dSlc, cut1, ↓srcR_im, seqD, List.append_nil]
    exact ⟨_, _, rfl, rfl, hlen, key _ ⟨_, _, rfl⟩⟩
  · try simp only [sm_are_rising, fi_are_rising, yes1, ↓S_nil, ↓S_cons, ↓S_pass, ↓S_asg, ↓S_asgt, ↓S_par2, ↓S_par3, ↓S_subT, ↓S_expr, ↓S_ret, ↓S_retN, ↓S_ifs, ↓E_var, ↓E_cint, ↓E_cstr, ↓E_cbl, ↓E_cnon, ↓E_glob, ↓E_bin, ↓E_neg, ↓E_cmp, ↓E_chain, ↓E_andn, ↓E_orn, ↓E_notn, ↓E_ife, ↓E_tupn, ↓E_lstn, ↓E_dnew, ↓E_blt, ↓E_meth, ↓E_mut, ↓E_idx, ↓E_slc, ↓E_isi, ↓T_var, ↓T_cint, ↓T_cstr, ↓T_cbl, ↓T_glob, ↓T_bin, ↓T_cmp, ↓T_neg, ↓T_chain, ↓T_call, ↓T_blt, ↓T_meth, ↓T_idx, ↓T_slc, ↓T_isi, ↓T_comp, ↓T_tupn, ↓T_lstn, ↓T_andn, ↓T_orn, ↓T_notn, ↓T_ife, ↓T_nil, ↓O_nil, ↓O_var, ↓O_cint, ↓O_neg, ↓O_bin, ↓O_blt, ↓O_glob, ↓A_nil, ↓A_cons, ↓B_nil, ↓B_cons, ↓C_nil, ↓C_io, ↓C_im, ↓rd_im, ↓rd_fr, ↓rd_bo, ↓fz_im, ↓fz_fr, ↓fz_bo, ↓rds_nil, ↓rds_cons, ↓ret_im, ↓ret_fr, ↓ret_bo, ↓rdC_nil, ↓rdC_im, ↓rdC_fr, ↓rdC_bo, bos_nil, bos_im, bos_fr, bos_bo, nd_nil, nd_one, ↓putB_nil, ↓putB_im, ↓putB_fr, ↓putB_bo, ↓ex_some, ↓ex_int, ↓post_nx, ↓post_rt, tru_bl, tru_int, tru_lst, tru_tup, tru_non, cmp_eq_int, cmp_ne_int, cmp_lt_int, cmp_le_int, cmp_gt_int, cmp_ge_int, cmp_lt_str, finsE, env0, List.getElem?_cons_zero, List.getElem?_cons_succ, List.length_cons, List.length_nil, List.replicate, List.cons_append, List.nil_append, List.append_nil, reduceIte, Bool.not_true, Bool.not_false, Bool.false_eq_true, if_true, if_false, true_and, and_true, ite_true, ite_false, Option.map_some, List.set_cons_zero, List.set_cons_succ, dIsi, dBlt, ↓E_comp, ↓I_zip2, dSlc, cut1, ↓srcR_im, ↓srcR_fr, seqD, List.append_nil]
    exact ⟨_, _, rfl, rfl, hlen, key _ ⟨_, _, rfl⟩⟩
theorem letters_ok : letters.cps.toList.all (fun c => decide (97 ≤ c ∧ c ≤ 122)) = true := by decide +kernel
theorem strOk_of {x : Str} (h : NameOk x) : PyData.strOk x = true := by
  unfold PyData.strOk
  rw [Array.all_eq_true_iff_forall_mem]
  intro c hc
  have := List.all_eq_true.mp letters_ok c (h.2.2 c (by simpa using hc))
  have := of_decide_eq_true this
  exact decide_eq_true (by omega)
structure Row where
  t : Str
  a : Str
  b : Str
  r : Int
structure Web where
  ps : List Str
  rows : List Row
def rowD (w : Row) : D := .tup [.str w.t, .str w.a, .str w.b, .int w.r]
def webD (w : Web) : D := .tup [.tup (w.ps.map .str), .tup (w.rows.map rowD)]
structure RowOk (ps : List Str) (w : Row) : Prop where
  t : NameOk w.t
  a : w.a ∈ ps
  b : w.b ∈ ps
  ab : sLt w.a w.b
  r : 0 ≤ w.r
structure WebOk (w : Web) : Prop where
  ne : w.ps ≠ []
  nm : ∀ p ∈ w.ps, NameOk p
  up : Rising w.ps
  rows : ∀ r ∈ w.rows, RowOk w.ps r
  ts : Rising (w.rows.map (·.t))
  pl : w.ps.length ≤ 1000
  rl : w.rows.length ≤ 1000
def yes2 (p : D → D → Prop) : FI := { io := [false, false], sp := fun ds Q _ => ∃ d e, ds = [d, e] ∧ p d e ∧ Q (.im (.bl true)) [] }
def fi_is_place_of : FI := yes2 fun d e => ∃ w x, d = webD w ∧ e = .str x ∧ WebOk w ∧ x ∈ w.ps
def fi_are_places : FI := yes1 fun d => ∃ ps : List Str, d = .tup (ps.map .str) ∧ ps ≠ [] ∧ (∀ p ∈ ps, NameOk p) ∧ Rising ps ∧ ps.length ≤ 1000
theorem any_str {ps : List Str} {x : Str} : ((ps.map D.str).any fun y => D.eqb y (.str x)) = decide (x ∈ ps) := by
  rw [Bool.eq_iff_iff, List.any_eq_true, decide_eq_true_iff]
  constructor
  · rintro ⟨d, hd, e⟩
    obtain ⟨y, hy, rfl⟩ := List.mem_map.mp hd
    have : y = x := by simpa [D.eqb] using e
    exact this ▸ hy
  · exact fun h => ⟨.str x, List.mem_map.mpr ⟨x, h, rfl⟩, by simp [D.eqb]⟩
theorem plns_strs : ∀ {ps : List Str}, (∀ p ∈ ps, NameOk p) → D.plns (ps.map .str) = true
  | [], _ => rfl
  | p :: ps, h => by
    have hp := h p List.mem_cons_self
    rw [List.map_cons, D.plns, plns_strs fun q hq => h q (List.mem_cons_of_mem _ hq)]
    simp only [D.pln, Bool.and_true]
    exact strOk_of hp
theorem pln_strs {ps : List Str} (h : ∀ p ∈ ps, NameOk p) : D.pln (.tup (ps.map .str)) = true := plns_strs h
theorem flat_strs (ps : List Str) : (ps.map D.str).all D.flat = true := by
  rw [List.all_eq_true]
  intro d hd
  obtain ⟨y, _, rfl⟩ := List.mem_map.mp hd
  rfl
theorem at0 {α : Type} {a : α} {l : List α} : L2.atI (a :: l) 0 = some a := L2.atI_nat (j := 0) rfl
theorem k_is_place_of (Γ : Ga) (h1 : Γ.fn "is_name" = some fi_is_name) : Keeps Γ 2 sm_is_place_of fi_is_place_of := by
  rintro ds Q E ⟨_, _, rfl, ⟨w, x, rfl, rfl, ok, hx⟩, q⟩
  refine ⟨rfl, by decide, ?_⟩
  try simp only [sm_is_place_of, fi_is_place_of, yes2, ↓S_nil, ↓S_cons, ↓S_pass, ↓S_asg, ↓S_asgt, ↓S_par2, ↓S_par3, ↓S_subT, ↓S_expr, ↓S_ret, ↓S_retN, ↓S_ifs, ↓E_var, ↓E_cint, ↓E_cstr, ↓E_cbl, ↓E_cnon, ↓E_glob, ↓E_bin, ↓E_neg, ↓E_cmp, ↓E_chain, ↓E_andn, ↓E_orn, ↓E_notn, ↓E_ife, ↓E_tupn, ↓E_lstn, ↓E_dnew, ↓E_blt, ↓E_meth, ↓E_mut, ↓E_idx, ↓E_slc, ↓E_isi, ↓T_var, ↓T_cint, ↓T_cstr, ↓T_cbl, ↓T_glob, ↓T_bin, ↓T_cmp, ↓T_neg, ↓T_chain, ↓T_call, ↓T_blt, ↓T_meth, ↓T_idx, ↓T_slc, ↓T_isi, ↓T_comp, ↓T_tupn, ↓T_lstn, ↓T_andn, ↓T_orn, ↓T_notn, ↓T_ife, ↓T_nil, ↓O_nil, ↓O_var, ↓O_cint, ↓O_neg, ↓O_bin, ↓O_blt, ↓O_glob, ↓A_nil, ↓A_cons, ↓B_nil, ↓B_cons, ↓C_nil, ↓C_io, ↓C_im, ↓rd_im, ↓rd_fr, ↓rd_bo, ↓fz_im, ↓fz_fr, ↓fz_bo, ↓rds_nil, ↓rds_cons, ↓ret_im, ↓ret_fr, ↓ret_bo, ↓rdC_nil, ↓rdC_im, ↓rdC_fr, ↓rdC_bo, bos_nil, bos_im, bos_fr, bos_bo, nd_nil, nd_one, ↓putB_nil, ↓putB_im, ↓putB_fr, ↓putB_bo, ↓ex_some, ↓ex_int, ↓post_nx, ↓post_rt, tru_bl, tru_int, tru_lst, tru_tup, tru_non, cmp_eq_int, cmp_ne_int, cmp_lt_int, cmp_le_int, cmp_gt_int, cmp_ge_int, cmp_lt_str, finsE, env0, List.getElem?_cons_zero, List.getElem?_cons_succ, List.length_cons, List.length_nil, List.replicate, List.cons_append, List.nil_append, List.append_nil, reduceIte, Bool.not_true, Bool.not_false, Bool.false_eq_true, if_true, if_false, true_and, and_true, ite_true, ite_false, Option.map_some, List.set_cons_zero, List.set_cons_succ, dIsi, ↓E_call' h1, fi_is_name, yes1]
  refine ⟨_, rfl, ⟨x, rfl, ok.nm x hx⟩, ?_⟩
  try simp only [webD, ↓S_nil, ↓S_cons, ↓S_pass, ↓S_asg, ↓S_asgt, ↓S_par2, ↓S_par3, ↓S_subT, ↓S_expr, ↓S_ret, ↓S_retN, ↓S_ifs, ↓E_var, ↓E_cint, ↓E_cstr, ↓E_cbl, ↓E_cnon, ↓E_glob, ↓E_bin, ↓E_neg, ↓E_cmp, ↓E_chain, ↓E_andn, ↓E_orn, ↓E_notn, ↓E_ife, ↓E_tupn, ↓E_lstn, ↓E_dnew, ↓E_blt, ↓E_meth, ↓E_mut, ↓E_idx, ↓E_slc, ↓E_isi, ↓T_var, ↓T_cint, ↓T_cstr, ↓T_cbl, ↓T_glob, ↓T_bin, ↓T_cmp, ↓T_neg, ↓T_chain, ↓T_call, ↓T_blt, ↓T_meth, ↓T_idx, ↓T_slc, ↓T_isi, ↓T_comp, ↓T_tupn, ↓T_lstn, ↓T_andn, ↓T_orn, ↓T_notn, ↓T_ife, ↓T_nil, ↓O_nil, ↓O_var, ↓O_cint, ↓O_neg, ↓O_bin, ↓O_blt, ↓O_glob, ↓A_nil, ↓A_cons, ↓B_nil, ↓B_cons, ↓C_nil, ↓C_io, ↓C_im, ↓rd_im, ↓rd_fr, ↓rd_bo, ↓fz_im, ↓fz_fr, ↓fz_bo, ↓rds_nil, ↓rds_cons, ↓ret_im, ↓ret_fr, ↓ret_bo, ↓rdC_nil, ↓rdC_im, ↓rdC_fr, ↓rdC_bo, bos_nil, bos_im, bos_fr, bos_bo, nd_nil, nd_one, ↓putB_nil, ↓putB_im, ↓putB_fr, ↓putB_bo, ↓ex_some, ↓ex_int, ↓post_nx, ↓post_rt, tru_bl, tru_int, tru_lst, tru_tup, tru_non, cmp_eq_int, cmp_ne_int, cmp_lt_int, cmp_le_int, cmp_gt_int, cmp_ge_int, cmp_lt_str, finsE, env0, List.getElem?_cons_zero, List.getElem?_cons_succ, List.length_cons, List.length_nil, List.replicate, List.cons_append, List.nil_append, List.append_nil, reduceIte, Bool.not_true, Bool.not_false, Bool.false_eq_true, if_true, if_false, true_and, and_true, ite_true, ite_false, Option.map_some, List.set_cons_zero, List.set_cons_succ, dIsi, dIdx, at0, dCmp, dIn, any_str, flat_strs, D.flat, decide_eq_true hx]
  exact q
theorem k_are_places (Γ : Ga) (h1 : Γ.fn "is_name" = some fi_is_name) (h2 : Γ.fn "are_rising" = some fi_are_rising) : Keeps Γ 2 sm_are_places fi_are_places := by
  rintro ds Q E ⟨_, rfl, ⟨ps, rfl, ne, nm, up, pl⟩, q⟩
  refine ⟨rfl, by decide, ?_⟩
  have hl : ps.length ≤ sizeLine := by rw [PySem.sizeLine_eq]; omega
  have e0 : D.eqb (.tup (ps.map .str)) (.tup []) = false := by
    cases ps with
    | nil => exact absurd rfl ne
    | cons p ps => simp [D.eqb, D.eqbs]
  try simp only [sm_are_places, fi_are_places, yes1, ↓S_nil, ↓S_cons, ↓S_pass, ↓S_asg, ↓S_asgt, ↓S_par2, ↓S_par3, ↓S_subT, ↓S_expr, ↓S_ret, ↓S_retN, ↓S_ifs, ↓E_var, ↓E_cint, ↓E_cstr, ↓E_cbl, ↓E_cnon, ↓E_glob, ↓E_bin, ↓E_neg, ↓E_cmp, ↓E_chain, ↓E_andn, ↓E_orn, ↓E_notn, ↓E_ife, ↓E_tupn, ↓E_lstn, ↓E_dnew, ↓E_blt, ↓E_meth, ↓E_mut, ↓E_idx, ↓E_slc, ↓E_isi, ↓T_var, ↓T_cint, ↓T_cstr, ↓T_cbl, ↓T_glob, ↓T_bin, ↓T_cmp, ↓T_neg, ↓T_chain, ↓T_call, ↓T_blt, ↓T_meth, ↓T_idx, ↓T_slc, ↓T_isi, ↓T_comp, ↓T_tupn, ↓T_lstn, ↓T_andn, ↓T_orn, ↓T_notn, ↓T_ife, ↓T_nil, ↓O_nil, ↓O_var, ↓O_cint, ↓O_neg, ↓O_bin, ↓O_blt, ↓O_glob, ↓A_nil, ↓A_cons, ↓B_nil, ↓B_cons, ↓C_nil, ↓C_io, ↓C_im, ↓rd_im, ↓rd_fr, ↓rd_bo, ↓fz_im, ↓fz_fr, ↓fz_bo, ↓rds_nil, ↓rds_cons, ↓ret_im, ↓ret_fr, ↓ret_bo, ↓rdC_nil, ↓rdC_im, ↓rdC_fr, ↓rdC_bo, bos_nil, bos_im, bos_fr, bos_bo, nd_nil, nd_one, ↓putB_nil, ↓putB_im, ↓putB_fr, ↓putB_bo, ↓ex_some, ↓ex_int, ↓post_nx, ↓post_rt, tru_bl, tru_int, tru_lst, tru_tup, tru_non, cmp_eq_int, cmp_ne_int, cmp_lt_int, cmp_le_int, cmp_gt_int, cmp_ge_int, cmp_lt_str, finsE, env0, List.getElem?_cons_zero, List.getElem?_cons_succ, List.length_cons, List.length_nil, List.replicate, List.cons_append, List.nil_append, List.append_nil, reduceIte, Bool.not_true, Bool.not_false, Bool.false_eq_true, if_true, if_false, true_and, and_true, ite_true, ite_false, Option.map_some, List.set_cons_zero, List.set_cons_succ, dIsi, dCmp, ↓E_comp, ↓I_var, ↓srcR_im, itD, dBlt, e0]
  refine ⟨Nat.zero_le _, ⟨pln_strs fun p hp => nm p hp, rfl, .inr (by decide)⟩, by rw [List.length_map]; exact hl, compW_map (fun _ => some (.bl true)) (fun e => ∃ s, e = [.im (.tup (ps.map .str)), s]) (fun e ⟨s, e'⟩ => ?_) (fun d hd e k ⟨s, e'⟩ hk => ?_) ⟨_, rfl⟩ fun e' ⟨s, ee⟩ => ?_⟩
  · subst e'
    obtain ⟨c, hc, rfl⟩ := List.mem_map.mp hd
    try simp only [cturn, bindT, wipeE, stS, ↓S_nil, ↓S_cons, ↓S_pass, ↓S_asg, ↓S_asgt, ↓S_par2, ↓S_par3, ↓S_subT, ↓S_expr, ↓S_ret, ↓S_retN, ↓S_ifs, ↓E_var, ↓E_cint, ↓E_cstr, ↓E_cbl, ↓E_cnon, ↓E_glob, ↓E_bin, ↓E_neg, ↓E_cmp, ↓E_chain, ↓E_andn, ↓E_orn, ↓E_notn, ↓E_ife, ↓E_tupn, ↓E_lstn, ↓E_dnew, ↓E_blt, ↓E_meth, ↓E_mut, ↓E_idx, ↓E_slc, ↓E_isi, ↓T_var, ↓T_cint, ↓T_cstr, ↓T_cbl, ↓T_glob, ↓T_bin, ↓T_cmp, ↓T_neg, ↓T_chain, ↓T_call, ↓T_blt, ↓T_meth, ↓T_idx, ↓T_slc, ↓T_isi, ↓T_comp, ↓T_tupn, ↓T_lstn, ↓T_andn, ↓T_orn, ↓T_notn, ↓T_ife, ↓T_nil, ↓O_nil, ↓O_var, ↓O_cint, ↓O_neg, ↓O_bin, ↓O_blt, ↓O_glob, ↓A_nil, ↓A_cons, ↓B_nil, ↓B_cons, ↓C_nil, ↓C_io, ↓C_im, ↓rd_im, ↓rd_fr, ↓rd_bo, ↓fz_im, ↓fz_fr, ↓fz_bo, ↓rds_nil, ↓rds_cons, ↓ret_im, ↓ret_fr, ↓ret_bo, ↓rdC_nil, ↓rdC_im, ↓rdC_fr, ↓rdC_bo, bos_nil, bos_im, bos_fr, bos_bo, nd_nil, nd_one, ↓putB_nil, ↓putB_im, ↓putB_fr, ↓putB_bo, ↓ex_some, ↓ex_int, ↓post_nx, ↓post_rt, tru_bl, tru_int, tru_lst, tru_tup, tru_non, cmp_eq_int, cmp_ne_int, cmp_lt_int, cmp_le_int, cmp_gt_int, cmp_ge_int, cmp_lt_str, finsE, env0, List.getElem?_cons_zero, List.getElem?_cons_succ, List.length_cons, List.length_nil, List.replicate, List.cons_append, List.nil_append, List.append_nil, reduceIte, Bool.not_true, Bool.not_false, Bool.false_eq_true, if_true, if_false, true_and, and_true, ite_true, ite_false, Option.map_some, List.set_cons_zero, List.set_cons_succ, dIsi, ↓E_call' h1, fi_is_name, yes1]
    exact ⟨_, rfl, ⟨c, rfl, nm c hc⟩, hk _ ⟨_, rfl⟩⟩
  · intro i h; cases h
  · subst ee
    try simp only [dd_all, un, u_all, wipeE, ↓S_nil, ↓S_cons, ↓S_pass, ↓S_asg, ↓S_asgt, ↓S_par2, ↓S_par3, ↓S_subT, ↓S_expr, ↓S_ret, ↓S_retN, ↓S_ifs, ↓E_var, ↓E_cint, ↓E_cstr, ↓E_cbl, ↓E_cnon, ↓E_glob, ↓E_bin, ↓E_neg, ↓E_cmp, ↓E_chain, ↓E_andn, ↓E_orn, ↓E_notn, ↓E_ife, ↓E_tupn, ↓E_lstn, ↓E_dnew, ↓E_blt, ↓E_meth, ↓E_mut, ↓E_idx, ↓E_slc, ↓E_isi, ↓T_var, ↓T_cint, ↓T_cstr, ↓T_cbl, ↓T_glob, ↓T_bin, ↓T_cmp, ↓T_neg, ↓T_chain, ↓T_call, ↓T_blt, ↓T_meth, ↓T_idx, ↓T_slc, ↓T_isi, ↓T_comp, ↓T_tupn, ↓T_lstn, ↓T_andn, ↓T_orn, ↓T_notn, ↓T_ife, ↓T_nil, ↓O_nil, ↓O_var, ↓O_cint, ↓O_neg, ↓O_bin, ↓O_blt, ↓O_glob, ↓A_nil, ↓A_cons, ↓B_nil, ↓B_cons, ↓C_nil, ↓C_io, ↓C_im, ↓rd_im, ↓rd_fr, ↓rd_bo, ↓fz_im, ↓fz_fr, ↓fz_bo, ↓rds_nil, ↓rds_cons, ↓ret_im, ↓ret_fr, ↓ret_bo, ↓rdC_nil, ↓rdC_im, ↓rdC_fr, ↓rdC_bo, bos_nil, bos_im, bos_fr, bos_bo, nd_nil, nd_one, ↓putB_nil, ↓putB_im, ↓putB_fr, ↓putB_bo, ↓ex_some, ↓ex_int, ↓post_nx, ↓post_rt, tru_bl, tru_int, tru_lst, tru_tup, tru_non, cmp_eq_int, cmp_ne_int, cmp_lt_int, cmp_le_int, cmp_gt_int, cmp_ge_int, cmp_lt_str, finsE, env0, List.getElem?_cons_zero, List.getElem?_cons_succ, List.length_cons, List.length_nil, List.replicate, List.cons_append, List.nil_append, List.append_nil, reduceIte, Bool.not_true, Bool.not_false, Bool.false_eq_true, if_true, if_false, true_and, and_true, ite_true, ite_false, Option.map_some, List.set_cons_zero, List.set_cons_succ, dIsi]
    refine ⟨_, bls_fm _ _, ?_⟩
    rw [all_true]
    try simp only [↓S_nil, ↓S_cons, ↓S_pass, ↓S_asg, ↓S_asgt, ↓S_par2, ↓S_par3, ↓S_subT, ↓S_expr, ↓S_ret, ↓S_retN, ↓S_ifs, ↓E_var, ↓E_cint, ↓E_cstr, ↓E_cbl, ↓E_cnon, ↓E_glob, ↓E_bin, ↓E_neg, ↓E_cmp, ↓E_chain, ↓E_andn, ↓E_orn, ↓E_notn, ↓E_ife, ↓E_tupn, ↓E_lstn, ↓E_dnew, ↓E_blt, ↓E_meth, ↓E_mut, ↓E_idx, ↓E_slc, ↓E_isi, ↓T_var, ↓T_cint, ↓T_cstr, ↓T_cbl, ↓T_glob, ↓T_bin, ↓T_cmp, ↓T_neg, ↓T_chain, ↓T_call, ↓T_blt, ↓T_meth, ↓T_idx, ↓T_slc, ↓T_isi, ↓T_comp, ↓T_tupn, ↓T_lstn, ↓T_andn, ↓T_orn, ↓T_notn, ↓T_ife, ↓T_nil, ↓O_nil, ↓O_var, ↓O_cint, ↓O_neg, ↓O_bin, ↓O_blt, ↓O_glob, ↓A_nil, ↓A_cons, ↓B_nil, ↓B_cons, ↓C_nil, ↓C_io, ↓C_im, ↓rd_im, ↓rd_fr, ↓rd_bo, ↓fz_im, ↓fz_fr, ↓fz_bo, ↓rds_nil, ↓rds_cons, ↓ret_im, ↓ret_fr, ↓ret_bo, ↓rdC_nil, ↓rdC_im, ↓rdC_fr, ↓rdC_bo, bos_nil, bos_im, bos_fr, bos_bo, nd_nil, nd_one, ↓putB_nil, ↓putB_im, ↓putB_fr, ↓putB_bo, ↓ex_some, ↓ex_int, ↓post_nx, ↓post_rt, tru_bl, tru_int, tru_lst, tru_tup, tru_non, cmp_eq_int, cmp_ne_int, cmp_lt_int, cmp_le_int, cmp_gt_int, cmp_ge_int, cmp_lt_str, finsE, env0, List.getElem?_cons_zero, List.getElem?_cons_succ, List.length_cons, List.length_nil, List.replicate, List.cons_append, List.nil_append, List.append_nil, reduceIte, Bool.not_true, Bool.not_false, Bool.false_eq_true, if_true, if_false, true_and, and_true, ite_true, ite_false, Option.map_some, List.set_cons_zero, List.set_cons_succ, dIsi, ↓E_call' h2, fi_are_rising, yes1]
    exact ⟨_, rfl, ⟨ps, .inl rfl, up, hl⟩, q⟩
theorem any_str' {ps : List Str} {x : Str} (h : x ∈ ps) : ((ps.map D.str).any fun y => D.eqb y (.str x)) = true := by rw [any_str]; exact decide_eq_true h
def fi_is_tie : FI := yes2 fun d e => ∃ ps w, d = .tup (ps.map .str) ∧ e = rowD w ∧ RowOk ps w ∧ (∀ p ∈ ps, NameOk p) ∧ ps.length ≤ 1000
theorem cut3 {α : Type} {a b c d : α} : cutD [a, b, c, d] none (some 3) = [a, b, c] := by
  unfold cutD
  rw [HT.sIx_none, show HT.sIx [a, b, c, d].length [a, b, c, d].length (some 3) = min 3 4 from HT.sIx_nat 4 4 3]
  rfl
theorem k_is_tie (Γ : Ga) (h0 : Γ.cs "PARTS_OF_TIE" = some (.int 4)) (h1 : Γ.fn "is_name" = some fi_is_name) (h2 : Γ.fn "is_whole" = some fi_is_whole) : Keeps Γ 7 sm_is_tie fi_is_tie := by
  rintro ds Q E ⟨_, _, rfl, ⟨ps, ⟨x, a, b, r⟩, rfl, rfl, ok, nm, hl⟩, q⟩
  refine ⟨rfl, by decide, ?_⟩
  have oa : a ∈ ps := ok.a
  have ob : b ∈ ps := ok.b
  have na : NameOk a := nm _ oa
  have nb : NameOk b := nm _ ob
  have nt : NameOk x := ok.t
  have ab : decide (a.cps.toList < b.cps.toList) = true := decide_eq_true ok.ab
  have hr : decide ((0 : Int) ≤ r) = true := decide_eq_true ok.r
  unfold sm_is_tie
  refine S_seq fun nx hnx => ?_
  try simp only [fi_is_tie, yes2, rowD, ↓S_nil, ↓S_cons, ↓S_pass, ↓S_asg, ↓S_asgt, ↓S_par2, ↓S_par3, ↓S_subT, ↓S_expr, ↓S_ret, ↓S_retN, ↓S_ifs, ↓E_var, ↓E_cint, ↓E_cstr, ↓E_cbl, ↓E_cnon, ↓E_glob, ↓E_bin, ↓E_neg, ↓E_cmp, ↓E_chain, ↓E_andn, ↓E_orn, ↓E_notn, ↓E_ife, ↓E_tupn, ↓E_lstn, ↓E_dnew, ↓E_blt, ↓E_meth, ↓E_mut, ↓E_idx, ↓E_slc, ↓E_isi, ↓T_var, ↓T_cint, ↓T_cstr, ↓T_cbl, ↓T_glob, ↓T_bin, ↓T_cmp, ↓T_neg, ↓T_chain, ↓T_call, ↓T_blt, ↓T_meth, ↓T_idx, ↓T_slc, ↓T_isi, ↓T_comp, ↓T_tupn, ↓T_lstn, ↓T_andn, ↓T_orn, ↓T_notn, ↓T_ife, ↓T_nil, ↓O_nil, ↓O_var, ↓O_cint, ↓O_neg, ↓O_bin, ↓O_blt, ↓O_glob, ↓A_nil, ↓A_cons, ↓B_nil, ↓B_cons, ↓C_nil, ↓C_io, ↓C_im, ↓rd_im, ↓rd_fr, ↓rd_bo, ↓fz_im, ↓fz_fr, ↓fz_bo, ↓rds_nil, ↓rds_cons, ↓ret_im, ↓ret_fr, ↓ret_bo, ↓rdC_nil, ↓rdC_im, ↓rdC_fr, ↓rdC_bo, bos_nil, bos_im, bos_fr, bos_bo, nd_nil, nd_one, ↓putB_nil, ↓putB_im, ↓putB_fr, ↓putB_bo, ↓ex_some, ↓ex_int, ↓post_nx, ↓post_rt, tru_bl, tru_int, tru_lst, tru_tup, tru_non, cmp_eq_int, cmp_ne_int, cmp_lt_int, cmp_le_int, cmp_gt_int, cmp_ge_int, cmp_lt_str, finsE, env0, List.getElem?_cons_zero, List.getElem?_cons_succ, List.length_cons, List.length_nil, List.replicate, List.cons_append, List.nil_append, List.append_nil, reduceIte, Bool.not_true, Bool.not_false, Bool.false_eq_true, if_true, if_false, true_and, and_true, ite_true, ite_false, Option.map_some, List.set_cons_zero, List.set_cons_succ, dIsi, h0, dBlt, dd_len, un, u_len]
  try simp only [show ((0 + 1 + 1 + 1 + 1 : Nat) : Int) = 4 from rfl, beq_self_eq_true, ↓S_nil, ↓S_cons, ↓S_pass, ↓S_asg, ↓S_asgt, ↓S_par2, ↓S_par3, ↓S_subT, ↓S_expr, ↓S_ret, ↓S_retN, ↓S_ifs, ↓E_var, ↓E_cint, ↓E_cstr, ↓E_cbl, ↓E_cnon, ↓E_glob, ↓E_bin, ↓E_neg, ↓E_cmp, ↓E_chain, ↓E_andn, ↓E_orn, ↓E_notn, ↓E_ife, ↓E_tupn, ↓E_lstn, ↓E_dnew, ↓E_blt, ↓E_meth, ↓E_mut, ↓E_idx, ↓E_slc, ↓E_isi, ↓T_var, ↓T_cint, ↓T_cstr, ↓T_cbl, ↓T_glob, ↓T_bin, ↓T_cmp, ↓T_neg, ↓T_chain, ↓T_call, ↓T_blt, ↓T_meth, ↓T_idx, ↓T_slc, ↓T_isi, ↓T_comp, ↓T_tupn, ↓T_lstn, ↓T_andn, ↓T_orn, ↓T_notn, ↓T_ife, ↓T_nil, ↓O_nil, ↓O_var, ↓O_cint, ↓O_neg, ↓O_bin, ↓O_blt, ↓O_glob, ↓A_nil, ↓A_cons, ↓B_nil, ↓B_cons, ↓C_nil, ↓C_io, ↓C_im, ↓rd_im, ↓rd_fr, ↓rd_bo, ↓fz_im, ↓fz_fr, ↓fz_bo, ↓rds_nil, ↓rds_cons, ↓ret_im, ↓ret_fr, ↓ret_bo, ↓rdC_nil, ↓rdC_im, ↓rdC_fr, ↓rdC_bo, bos_nil, bos_im, bos_fr, bos_bo, nd_nil, nd_one, ↓putB_nil, ↓putB_im, ↓putB_fr, ↓putB_bo, ↓ex_some, ↓ex_int, ↓post_nx, ↓post_rt, tru_bl, tru_int, tru_lst, tru_tup, tru_non, cmp_eq_int, cmp_ne_int, cmp_lt_int, cmp_le_int, cmp_gt_int, cmp_ge_int, cmp_lt_str, finsE, env0, List.getElem?_cons_zero, List.getElem?_cons_succ, List.length_cons, List.length_nil, List.replicate, List.cons_append, List.nil_append, List.append_nil, reduceIte, Bool.not_true, Bool.not_false, Bool.false_eq_true, if_true, if_false, true_and, and_true, ite_true, ite_false, Option.map_some, List.set_cons_zero, List.set_cons_succ, dIsi, ↓E_comp, ↓I_slc, ↓srcR_im, itD, dSlc, cut3]
  refine ⟨by rw [PySem.sizeLine_eq]; omega, compW_map (fun _ => some (.bl true)) (fun e => ∃ s, e = [.im (.tup (ps.map .str)), .im (.tup [.str x, .str a, .str b, .int r]), .un, .un, .un, .un, s]) (fun e ⟨s, e'⟩ => ?_) (fun d hd e k ⟨s, e'⟩ hk => ?_) ⟨_, rfl⟩ fun e' ⟨s, ee⟩ => ?_⟩
  · subst e'
    have hd : ∃ c, d = .str c ∧ NameOk c := by
      simp only [List.mem_cons, List.not_mem_nil, or_false] at hd
      rcases hd with rfl | rfl | rfl
      · exact ⟨_, rfl, nt⟩
      · exact ⟨_, rfl, na⟩
      · exact ⟨_, rfl, nb⟩
    obtain ⟨c, rfl, hc⟩ := hd
    try simp only [cturn, bindT, wipeE, stS, ↓S_nil, ↓S_cons, ↓S_pass, ↓S_asg, ↓S_asgt, ↓S_par2, ↓S_par3, ↓S_subT, ↓S_expr, ↓S_ret, ↓S_retN, ↓S_ifs, ↓E_var, ↓E_cint, ↓E_cstr, ↓E_cbl, ↓E_cnon, ↓E_glob, ↓E_bin, ↓E_neg, ↓E_cmp, ↓E_chain, ↓E_andn, ↓E_orn, ↓E_notn, ↓E_ife, ↓E_tupn, ↓E_lstn, ↓E_dnew, ↓E_blt, ↓E_meth, ↓E_mut, ↓E_idx, ↓E_slc, ↓E_isi, ↓T_var, ↓T_cint, ↓T_cstr, ↓T_cbl, ↓T_glob, ↓T_bin, ↓T_cmp, ↓T_neg, ↓T_chain, ↓T_call, ↓T_blt, ↓T_meth, ↓T_idx, ↓T_slc, ↓T_isi, ↓T_comp, ↓T_tupn, ↓T_lstn, ↓T_andn, ↓T_orn, ↓T_notn, ↓T_ife, ↓T_nil, ↓O_nil, ↓O_var, ↓O_cint, ↓O_neg, ↓O_bin, ↓O_blt, ↓O_glob, ↓A_nil, ↓A_cons, ↓B_nil, ↓B_cons, ↓C_nil, ↓C_io, ↓C_im, ↓rd_im, ↓rd_fr, ↓rd_bo, ↓fz_im, ↓fz_fr, ↓fz_bo, ↓rds_nil, ↓rds_cons, ↓ret_im, ↓ret_fr, ↓ret_bo, ↓rdC_nil, ↓rdC_im, ↓rdC_fr, ↓rdC_bo, bos_nil, bos_im, bos_fr, bos_bo, nd_nil, nd_one, ↓putB_nil, ↓putB_im, ↓putB_fr, ↓putB_bo, ↓ex_some, ↓ex_int, ↓post_nx, ↓post_rt, tru_bl, tru_int, tru_lst, tru_tup, tru_non, cmp_eq_int, cmp_ne_int, cmp_lt_int, cmp_le_int, cmp_gt_int, cmp_ge_int, cmp_lt_str, finsE, env0, List.getElem?_cons_zero, List.getElem?_cons_succ, List.length_cons, List.length_nil, List.replicate, List.cons_append, List.nil_append, List.append_nil, reduceIte, Bool.not_true, Bool.not_false, Bool.false_eq_true, if_true, if_false, true_and, and_true, ite_true, ite_false, Option.map_some, List.set_cons_zero, List.set_cons_succ, dIsi, ↓E_call' h1, fi_is_name, yes1]
    exact ⟨_, rfl, ⟨c, rfl, hc⟩, hk _ ⟨_, rfl⟩⟩
  · intro i h; cases h
  subst ee
  try simp only [dd_all, un, u_all, wipeE, ↓S_nil, ↓S_cons, ↓S_pass, ↓S_asg, ↓S_asgt, ↓S_par2, ↓S_par3, ↓S_subT, ↓S_expr, ↓S_ret, ↓S_retN, ↓S_ifs, ↓E_var, ↓E_cint, ↓E_cstr, ↓E_cbl, ↓E_cnon, ↓E_glob, ↓E_bin, ↓E_neg, ↓E_cmp, ↓E_chain, ↓E_andn, ↓E_orn, ↓E_notn, ↓E_ife, ↓E_tupn, ↓E_lstn, ↓E_dnew, ↓E_blt, ↓E_meth, ↓E_mut, ↓E_idx, ↓E_slc, ↓E_isi, ↓T_var, ↓T_cint, ↓T_cstr, ↓T_cbl, ↓T_glob, ↓T_bin, ↓T_cmp, ↓T_neg, ↓T_chain, ↓T_call, ↓T_blt, ↓T_meth, ↓T_idx, ↓T_slc, ↓T_isi, ↓T_comp, ↓T_tupn, ↓T_lstn, ↓T_andn, ↓T_orn, ↓T_notn, ↓T_ife, ↓T_nil, ↓O_nil, ↓O_var, ↓O_cint, ↓O_neg, ↓O_bin, ↓O_blt, ↓O_glob, ↓A_nil, ↓A_cons, ↓B_nil, ↓B_cons, ↓C_nil, ↓C_io, ↓C_im, ↓rd_im, ↓rd_fr, ↓rd_bo, ↓fz_im, ↓fz_fr, ↓fz_bo, ↓rds_nil, ↓rds_cons, ↓ret_im, ↓ret_fr, ↓ret_bo, ↓rdC_nil, ↓rdC_im, ↓rdC_fr, ↓rdC_bo, bos_nil, bos_im, bos_fr, bos_bo, nd_nil, nd_one, ↓putB_nil, ↓putB_im, ↓putB_fr, ↓putB_bo, ↓ex_some, ↓ex_int, ↓post_nx, ↓post_rt, tru_bl, tru_int, tru_lst, tru_tup, tru_non, cmp_eq_int, cmp_ne_int, cmp_lt_int, cmp_le_int, cmp_gt_int, cmp_ge_int, cmp_lt_str, finsE, env0, List.getElem?_cons_zero, List.getElem?_cons_succ, List.length_cons, List.length_nil, List.replicate, List.cons_append, List.nil_append, List.append_nil, reduceIte, Bool.not_true, Bool.not_false, Bool.false_eq_true, if_true, if_false, true_and, and_true, ite_true, ite_false, Option.map_some, List.set_cons_zero, List.set_cons_succ, dIsi]
  refine ⟨_, bls_fm _ _, ?_⟩
  rw [all_true]
  try simp only [↓S_nil, ↓S_cons, ↓S_pass, ↓S_asg, ↓S_asgt, ↓S_par2, ↓S_par3, ↓S_subT, ↓S_expr, ↓S_ret, ↓S_retN, ↓S_ifs, ↓E_var, ↓E_cint, ↓E_cstr, ↓E_cbl, ↓E_cnon, ↓E_glob, ↓E_bin, ↓E_neg, ↓E_cmp, ↓E_chain, ↓E_andn, ↓E_orn, ↓E_notn, ↓E_ife, ↓E_tupn, ↓E_lstn, ↓E_dnew, ↓E_blt, ↓E_meth, ↓E_mut, ↓E_idx, ↓E_slc, ↓E_isi, ↓T_var, ↓T_cint, ↓T_cstr, ↓T_cbl, ↓T_glob, ↓T_bin, ↓T_cmp, ↓T_neg, ↓T_chain, ↓T_call, ↓T_blt, ↓T_meth, ↓T_idx, ↓T_slc, ↓T_isi, ↓T_comp, ↓T_tupn, ↓T_lstn, ↓T_andn, ↓T_orn, ↓T_notn, ↓T_ife, ↓T_nil, ↓O_nil, ↓O_var, ↓O_cint, ↓O_neg, ↓O_bin, ↓O_blt, ↓O_glob, ↓A_nil, ↓A_cons, ↓B_nil, ↓B_cons, ↓C_nil, ↓C_io, ↓C_im, ↓rd_im, ↓rd_fr, ↓rd_bo, ↓fz_im, ↓fz_fr, ↓fz_bo, ↓rds_nil, ↓rds_cons, ↓ret_im, ↓ret_fr, ↓ret_bo, ↓rdC_nil, ↓rdC_im, ↓rdC_fr, ↓rdC_bo, bos_nil, bos_im, bos_fr, bos_bo, nd_nil, nd_one, ↓putB_nil, ↓putB_im, ↓putB_fr, ↓putB_bo, ↓ex_some, ↓ex_int, ↓post_nx, ↓post_rt, tru_bl, tru_int, tru_lst, tru_tup, tru_non, cmp_eq_int, cmp_ne_int, cmp_lt_int, cmp_le_int, cmp_gt_int, cmp_ge_int, cmp_lt_str, finsE, env0, List.getElem?_cons_zero, List.getElem?_cons_succ, List.length_cons, List.length_nil, List.replicate, List.cons_append, List.nil_append, List.append_nil, reduceIte, Bool.not_true, Bool.not_false, Bool.false_eq_true, if_true, if_false, true_and, and_true, ite_true, ite_false, Option.map_some, List.set_cons_zero, List.set_cons_succ, dIsi]
  rw [hnx]
  try simp only [↓S_nil, ↓S_cons, ↓S_pass, ↓S_asg, ↓S_asgt, ↓S_par2, ↓S_par3, ↓S_subT, ↓S_expr, ↓S_ret, ↓S_retN, ↓S_ifs, ↓E_var, ↓E_cint, ↓E_cstr, ↓E_cbl, ↓E_cnon, ↓E_glob, ↓E_bin, ↓E_neg, ↓E_cmp, ↓E_chain, ↓E_andn, ↓E_orn, ↓E_notn, ↓E_ife, ↓E_tupn, ↓E_lstn, ↓E_dnew, ↓E_blt, ↓E_meth, ↓E_mut, ↓E_idx, ↓E_slc, ↓E_isi, ↓T_var, ↓T_cint, ↓T_cstr, ↓T_cbl, ↓T_glob, ↓T_bin, ↓T_cmp, ↓T_neg, ↓T_chain, ↓T_call, ↓T_blt, ↓T_meth, ↓T_idx, ↓T_slc, ↓T_isi, ↓T_comp, ↓T_tupn, ↓T_lstn, ↓T_andn, ↓T_orn, ↓T_notn, ↓T_ife, ↓T_nil, ↓O_nil, ↓O_var, ↓O_cint, ↓O_neg, ↓O_bin, ↓O_blt, ↓O_glob, ↓A_nil, ↓A_cons, ↓B_nil, ↓B_cons, ↓C_nil, ↓C_io, ↓C_im, ↓rd_im, ↓rd_fr, ↓rd_bo, ↓fz_im, ↓fz_fr, ↓fz_bo, ↓rds_nil, ↓rds_cons, ↓ret_im, ↓ret_fr, ↓ret_bo, ↓rdC_nil, ↓rdC_im, ↓rdC_fr, ↓rdC_bo, bos_nil, bos_im, bos_fr, bos_bo, nd_nil, nd_one, ↓putB_nil, ↓putB_im, ↓putB_fr, ↓putB_bo, ↓ex_some, ↓ex_int, ↓post_nx, ↓post_rt, tru_bl, tru_int, tru_lst, tru_tup, tru_non, cmp_eq_int, cmp_ne_int, cmp_lt_int, cmp_le_int, cmp_gt_int, cmp_ge_int, cmp_lt_str, finsE, env0, List.getElem?_cons_zero, List.getElem?_cons_succ, List.length_cons, List.length_nil, List.replicate, List.cons_append, List.nil_append, List.append_nil, reduceIte, Bool.not_true, Bool.not_false, Bool.false_eq_true, if_true, if_false, true_and, and_true, ite_true, ite_false, Option.map_some, List.set_cons_zero, List.set_cons_succ, dIsi, bindT, bindTs, Tg.len, stS, dCmp, dIn, any_str' oa, any_str' ob, flat_strs, D.flat, ab, ↓E_call' h2, fi_is_whole, yes1]
  refine ⟨_, rfl, ⟨r, rfl⟩, ?_⟩
  try simp only [↓S_nil, ↓S_cons, ↓S_pass, ↓S_asg, ↓S_asgt, ↓S_par2, ↓S_par3, ↓S_subT, ↓S_expr, ↓S_ret, ↓S_retN, ↓S_ifs, ↓E_var, ↓E_cint, ↓E_cstr, ↓E_cbl, ↓E_cnon, ↓E_glob, ↓E_bin, ↓E_neg, ↓E_cmp, ↓E_chain, ↓E_andn, ↓E_orn, ↓E_notn, ↓E_ife, ↓E_tupn, ↓E_lstn, ↓E_dnew, ↓E_blt, ↓E_meth, ↓E_mut, ↓E_idx, ↓E_slc, ↓E_isi, ↓T_var, ↓T_cint, ↓T_cstr, ↓T_cbl, ↓T_glob, ↓T_bin, ↓T_cmp, ↓T_neg, ↓T_chain, ↓T_call, ↓T_blt, ↓T_meth, ↓T_idx, ↓T_slc, ↓T_isi, ↓T_comp, ↓T_tupn, ↓T_lstn, ↓T_andn, ↓T_orn, ↓T_notn, ↓T_ife, ↓T_nil, ↓O_nil, ↓O_var, ↓O_cint, ↓O_neg, ↓O_bin, ↓O_blt, ↓O_glob, ↓A_nil, ↓A_cons, ↓B_nil, ↓B_cons, ↓C_nil, ↓C_io, ↓C_im, ↓rd_im, ↓rd_fr, ↓rd_bo, ↓fz_im, ↓fz_fr, ↓fz_bo, ↓rds_nil, ↓rds_cons, ↓ret_im, ↓ret_fr, ↓ret_bo, ↓rdC_nil, ↓rdC_im, ↓rdC_fr, ↓rdC_bo, bos_nil, bos_im, bos_fr, bos_bo, nd_nil, nd_one, ↓putB_nil, ↓putB_im, ↓putB_fr, ↓putB_bo, ↓ex_some, ↓ex_int, ↓post_nx, ↓post_rt, tru_bl, tru_int, tru_lst, tru_tup, tru_non, cmp_eq_int, cmp_ne_int, cmp_lt_int, cmp_le_int, cmp_gt_int, cmp_ge_int, cmp_lt_str, finsE, env0, List.getElem?_cons_zero, List.getElem?_cons_succ, List.length_cons, List.length_nil, List.replicate, List.cons_append, List.nil_append, List.append_nil, reduceIte, Bool.not_true, Bool.not_false, Bool.false_eq_true, if_true, if_false, true_and, and_true, ite_true, ite_false, Option.map_some, List.set_cons_zero, List.set_cons_succ, dIsi, dCmp, hr, fi_is_tie, yes2]
  exact q
def fi_is_web : FI := yes1 fun d => ∃ w, d = webD w ∧ WebOk w
def fi_want_web : FI := { io := [false], sp := fun ds Q _ => ∃ w, ds = [webD w] ∧ WebOk w ∧ Q (.im .non) [] }
theorem rowD_at {w : Row} : L2.atI [D.str w.t, .str w.a, .str w.b, .int w.r] 0 = some (.str w.t) := at0
theorem filterMap_row {f : Row → D} {g : D → Option D} (h : ∀ r, g (rowD r) = some (f r)) : ∀ rows : List Row, (rows.map rowD).filterMap g = rows.map f
  | [] => rfl
  | r :: rows => by rw [List.map_cons, List.filterMap_cons, h r, filterMap_row h rows]; rfl
def rowT : D → Option D
  | .tup (x :: _) => some x
  | _ => none
theorem k_is_web (Γ : Ga) (h0 : Γ.cs "PARTS_OF_WEB" = some (.int 2)) (h1 : Γ.fn "are_places" = some fi_are_places) (h2 : Γ.fn "is_tie" = some fi_is_tie) (h3 : Γ.fn "are_rising" = some fi_are_rising) : Keeps Γ 4 sm_is_web fi_is_web := by
  rintro ds Q E ⟨_, rfl, ⟨w, rfl, ok⟩, q⟩
  refine ⟨rfl, by decide, ?_⟩
  have hl : w.rows.length ≤ sizeLine := by have := ok.rl; rw [PySem.sizeLine_eq]; omega
  unfold sm_is_web
  refine S_seq fun nx hnx => ?_
  try simp only [fi_is_web, yes1, webD, ↓S_nil, ↓S_cons, ↓S_pass, ↓S_asg, ↓S_asgt, ↓S_par2, ↓S_par3, ↓S_subT, ↓S_expr, ↓S_ret, ↓S_retN, ↓S_ifs, ↓E_var, ↓E_cint, ↓E_cstr, ↓E_cbl, ↓E_cnon, ↓E_glob, ↓E_bin, ↓E_neg, ↓E_cmp, ↓E_chain, ↓E_andn, ↓E_orn, ↓E_notn, ↓E_ife, ↓E_tupn, ↓E_lstn, ↓E_dnew, ↓E_blt, ↓E_meth, ↓E_mut, ↓E_idx, ↓E_slc, ↓E_isi, ↓T_var, ↓T_cint, ↓T_cstr, ↓T_cbl, ↓T_glob, ↓T_bin, ↓T_cmp, ↓T_neg, ↓T_chain, ↓T_call, ↓T_blt, ↓T_meth, ↓T_idx, ↓T_slc, ↓T_isi, ↓T_comp, ↓T_tupn, ↓T_lstn, ↓T_andn, ↓T_orn, ↓T_notn, ↓T_ife, ↓T_nil, ↓O_nil, ↓O_var, ↓O_cint, ↓O_neg, ↓O_bin, ↓O_blt, ↓O_glob, ↓A_nil, ↓A_cons, ↓B_nil, ↓B_cons, ↓C_nil, ↓C_io, ↓C_im, ↓rd_im, ↓rd_fr, ↓rd_bo, ↓fz_im, ↓fz_fr, ↓fz_bo, ↓rds_nil, ↓rds_cons, ↓ret_im, ↓ret_fr, ↓ret_bo, ↓rdC_nil, ↓rdC_im, ↓rdC_fr, ↓rdC_bo, bos_nil, bos_im, bos_fr, bos_bo, nd_nil, nd_one, ↓putB_nil, ↓putB_im, ↓putB_fr, ↓putB_bo, ↓ex_some, ↓ex_int, ↓post_nx, ↓post_rt, tru_bl, tru_int, tru_lst, tru_tup, tru_non, cmp_eq_int, cmp_ne_int, cmp_lt_int, cmp_le_int, cmp_gt_int, cmp_ge_int, cmp_lt_str, finsE, env0, List.getElem?_cons_zero, List.getElem?_cons_succ, List.length_cons, List.length_nil, List.replicate, List.cons_append, List.nil_append, List.append_nil, reduceIte, Bool.not_true, Bool.not_false, Bool.false_eq_true, if_true, if_false, true_and, and_true, ite_true, ite_false, Option.map_some, List.set_cons_zero, List.set_cons_succ, dIsi, h0, dBlt, dd_len, un, u_len]
  try simp only [show ((0 + 1 + 1 : Nat) : Int) = 2 from rfl, beq_self_eq_true, ↓S_nil, ↓S_cons, ↓S_pass, ↓S_asg, ↓S_asgt, ↓S_par2, ↓S_par3, ↓S_subT, ↓S_expr, ↓S_ret, ↓S_retN, ↓S_ifs, ↓E_var, ↓E_cint, ↓E_cstr, ↓E_cbl, ↓E_cnon, ↓E_glob, ↓E_bin, ↓E_neg, ↓E_cmp, ↓E_chain, ↓E_andn, ↓E_orn, ↓E_notn, ↓E_ife, ↓E_tupn, ↓E_lstn, ↓E_dnew, ↓E_blt, ↓E_meth, ↓E_mut, ↓E_idx, ↓E_slc, ↓E_isi, ↓T_var, ↓T_cint, ↓T_cstr, ↓T_cbl, ↓T_glob, ↓T_bin, ↓T_cmp, ↓T_neg, ↓T_chain, ↓T_call, ↓T_blt, ↓T_meth, ↓T_idx, ↓T_slc, ↓T_isi, ↓T_comp, ↓T_tupn, ↓T_lstn, ↓T_andn, ↓T_orn, ↓T_notn, ↓T_ife, ↓T_nil, ↓O_nil, ↓O_var, ↓O_cint, ↓O_neg, ↓O_bin, ↓O_blt, ↓O_glob, ↓A_nil, ↓A_cons, ↓B_nil, ↓B_cons, ↓C_nil, ↓C_io, ↓C_im, ↓rd_im, ↓rd_fr, ↓rd_bo, ↓fz_im, ↓fz_fr, ↓fz_bo, ↓rds_nil, ↓rds_cons, ↓ret_im, ↓ret_fr, ↓ret_bo, ↓rdC_nil, ↓rdC_im, ↓rdC_fr, ↓rdC_bo, bos_nil, bos_im, bos_fr, bos_bo, nd_nil, nd_one, ↓putB_nil, ↓putB_im, ↓putB_fr, ↓putB_bo, ↓ex_some, ↓ex_int, ↓post_nx, ↓post_rt, tru_bl, tru_int, tru_lst, tru_tup, tru_non, cmp_eq_int, cmp_ne_int, cmp_lt_int, cmp_le_int, cmp_gt_int, cmp_ge_int, cmp_lt_str, finsE, env0, List.getElem?_cons_zero, List.getElem?_cons_succ, List.length_cons, List.length_nil, List.replicate, List.cons_append, List.nil_append, List.append_nil, reduceIte, Bool.not_true, Bool.not_false, Bool.false_eq_true, if_true, if_false, true_and, and_true, ite_true, ite_false, Option.map_some, List.set_cons_zero, List.set_cons_succ, dIsi, ↓E_call' h1, dIdx, at0, fi_are_places, yes1]
  refine ⟨_, rfl, ⟨w.ps, rfl, ok.ne, ok.nm, ok.up, ok.pl⟩, ?_⟩
  try simp only [↓S_nil, ↓S_cons, ↓S_pass, ↓S_asg, ↓S_asgt, ↓S_par2, ↓S_par3, ↓S_subT, ↓S_expr, ↓S_ret, ↓S_retN, ↓S_ifs, ↓E_var, ↓E_cint, ↓E_cstr, ↓E_cbl, ↓E_cnon, ↓E_glob, ↓E_bin, ↓E_neg, ↓E_cmp, ↓E_chain, ↓E_andn, ↓E_orn, ↓E_notn, ↓E_ife, ↓E_tupn, ↓E_lstn, ↓E_dnew, ↓E_blt, ↓E_meth, ↓E_mut, ↓E_idx, ↓E_slc, ↓E_isi, ↓T_var, ↓T_cint, ↓T_cstr, ↓T_cbl, ↓T_glob, ↓T_bin, ↓T_cmp, ↓T_neg, ↓T_chain, ↓T_call, ↓T_blt, ↓T_meth, ↓T_idx, ↓T_slc, ↓T_isi, ↓T_comp, ↓T_tupn, ↓T_lstn, ↓T_andn, ↓T_orn, ↓T_notn, ↓T_ife, ↓T_nil, ↓O_nil, ↓O_var, ↓O_cint, ↓O_neg, ↓O_bin, ↓O_blt, ↓O_glob, ↓A_nil, ↓A_cons, ↓B_nil, ↓B_cons, ↓C_nil, ↓C_io, ↓C_im, ↓rd_im, ↓rd_fr, ↓rd_bo, ↓fz_im, ↓fz_fr, ↓fz_bo, ↓rds_nil, ↓rds_cons, ↓ret_im, ↓ret_fr, ↓ret_bo, ↓rdC_nil, ↓rdC_im, ↓rdC_fr, ↓rdC_bo, bos_nil, bos_im, bos_fr, bos_bo, nd_nil, nd_one, ↓putB_nil, ↓putB_im, ↓putB_fr, ↓putB_bo, ↓ex_some, ↓ex_int, ↓post_nx, ↓post_rt, tru_bl, tru_int, tru_lst, tru_tup, tru_non, cmp_eq_int, cmp_ne_int, cmp_lt_int, cmp_le_int, cmp_gt_int, cmp_ge_int, cmp_lt_str, finsE, env0, List.getElem?_cons_zero, List.getElem?_cons_succ, List.length_cons, List.length_nil, List.replicate, List.cons_append, List.nil_append, List.append_nil, reduceIte, Bool.not_true, Bool.not_false, Bool.false_eq_true, if_true, if_false, true_and, and_true, ite_true, ite_false, Option.map_some, List.set_cons_zero, List.set_cons_succ, dIsi]
  rw [hnx]
  refine S_seq fun nx hnx => ?_
  try simp only [↓S_nil, ↓S_cons, ↓S_pass, ↓S_asg, ↓S_asgt, ↓S_par2, ↓S_par3, ↓S_subT, ↓S_expr, ↓S_ret, ↓S_retN, ↓S_ifs, ↓E_var, ↓E_cint, ↓E_cstr, ↓E_cbl, ↓E_cnon, ↓E_glob, ↓E_bin, ↓E_neg, ↓E_cmp, ↓E_chain, ↓E_andn, ↓E_orn, ↓E_notn, ↓E_ife, ↓E_tupn, ↓E_lstn, ↓E_dnew, ↓E_blt, ↓E_meth, ↓E_mut, ↓E_idx, ↓E_slc, ↓E_isi, ↓T_var, ↓T_cint, ↓T_cstr, ↓T_cbl, ↓T_glob, ↓T_bin, ↓T_cmp, ↓T_neg, ↓T_chain, ↓T_call, ↓T_blt, ↓T_meth, ↓T_idx, ↓T_slc, ↓T_isi, ↓T_comp, ↓T_tupn, ↓T_lstn, ↓T_andn, ↓T_orn, ↓T_notn, ↓T_ife, ↓T_nil, ↓O_nil, ↓O_var, ↓O_cint, ↓O_neg, ↓O_bin, ↓O_blt, ↓O_glob, ↓A_nil, ↓A_cons, ↓B_nil, ↓B_cons, ↓C_nil, ↓C_io, ↓C_im, ↓rd_im, ↓rd_fr, ↓rd_bo, ↓fz_im, ↓fz_fr, ↓fz_bo, ↓rds_nil, ↓rds_cons, ↓ret_im, ↓ret_fr, ↓ret_bo, ↓rdC_nil, ↓rdC_im, ↓rdC_fr, ↓rdC_bo, bos_nil, bos_im, bos_fr, bos_bo, nd_nil, nd_one, ↓putB_nil, ↓putB_im, ↓putB_fr, ↓putB_bo, ↓ex_some, ↓ex_int, ↓post_nx, ↓post_rt, tru_bl, tru_int, tru_lst, tru_tup, tru_non, cmp_eq_int, cmp_ne_int, cmp_lt_int, cmp_le_int, cmp_gt_int, cmp_ge_int, cmp_lt_str, finsE, env0, List.getElem?_cons_zero, List.getElem?_cons_succ, List.length_cons, List.length_nil, List.replicate, List.cons_append, List.nil_append, List.append_nil, reduceIte, Bool.not_true, Bool.not_false, Bool.false_eq_true, if_true, if_false, true_and, and_true, ite_true, ite_false, Option.map_some, List.set_cons_zero, List.set_cons_succ, dIsi, bindT, bindTs, Tg.len, stS]
  rw [hnx]
  refine S_seq fun nx hnx => ?_
  try simp only [↓S_nil, ↓S_cons, ↓S_pass, ↓S_asg, ↓S_asgt, ↓S_par2, ↓S_par3, ↓S_subT, ↓S_expr, ↓S_ret, ↓S_retN, ↓S_ifs, ↓E_var, ↓E_cint, ↓E_cstr, ↓E_cbl, ↓E_cnon, ↓E_glob, ↓E_bin, ↓E_neg, ↓E_cmp, ↓E_chain, ↓E_andn, ↓E_orn, ↓E_notn, ↓E_ife, ↓E_tupn, ↓E_lstn, ↓E_dnew, ↓E_blt, ↓E_meth, ↓E_mut, ↓E_idx, ↓E_slc, ↓E_isi, ↓T_var, ↓T_cint, ↓T_cstr, ↓T_cbl, ↓T_glob, ↓T_bin, ↓T_cmp, ↓T_neg, ↓T_chain, ↓T_call, ↓T_blt, ↓T_meth, ↓T_idx, ↓T_slc, ↓T_isi, ↓T_comp, ↓T_tupn, ↓T_lstn, ↓T_andn, ↓T_orn, ↓T_notn, ↓T_ife, ↓T_nil, ↓O_nil, ↓O_var, ↓O_cint, ↓O_neg, ↓O_bin, ↓O_blt, ↓O_glob, ↓A_nil, ↓A_cons, ↓B_nil, ↓B_cons, ↓C_nil, ↓C_io, ↓C_im, ↓rd_im, ↓rd_fr, ↓rd_bo, ↓fz_im, ↓fz_fr, ↓fz_bo, ↓rds_nil, ↓rds_cons, ↓ret_im, ↓ret_fr, ↓ret_bo, ↓rdC_nil, ↓rdC_im, ↓rdC_fr, ↓rdC_bo, bos_nil, bos_im, bos_fr, bos_bo, nd_nil, nd_one, ↓putB_nil, ↓putB_im, ↓putB_fr, ↓putB_bo, ↓ex_some, ↓ex_int, ↓post_nx, ↓post_rt, tru_bl, tru_int, tru_lst, tru_tup, tru_non, cmp_eq_int, cmp_ne_int, cmp_lt_int, cmp_le_int, cmp_gt_int, cmp_ge_int, cmp_lt_str, finsE, env0, List.getElem?_cons_zero, List.getElem?_cons_succ, List.length_cons, List.length_nil, List.replicate, List.cons_append, List.nil_append, List.append_nil, reduceIte, Bool.not_true, Bool.not_false, Bool.false_eq_true, if_true, if_false, true_and, and_true, ite_true, ite_false, Option.map_some, List.set_cons_zero, List.set_cons_succ, dIsi, dBlt, ↓E_comp, ↓I_var, ↓srcR_im, itD]
  refine ⟨by rw [List.length_map]; exact hl, compW_map (fun _ => some (.bl true)) (fun e => ∃ s, e = [.im (webD w), .im (.tup (w.ps.map .str)), .im (.tup (w.rows.map rowD)), s]) (fun e ⟨s, e'⟩ => ?_) (fun d hd e k ⟨s, e'⟩ hk => ?_) ⟨_, rfl⟩ fun e' ⟨s, ee⟩ => ?_⟩
  · subst e'
    obtain ⟨c, hc, rfl⟩ := List.mem_map.mp hd
    try simp only [cturn, bindT, wipeE, stS, ↓S_nil, ↓S_cons, ↓S_pass, ↓S_asg, ↓S_asgt, ↓S_par2, ↓S_par3, ↓S_subT, ↓S_expr, ↓S_ret, ↓S_retN, ↓S_ifs, ↓E_var, ↓E_cint, ↓E_cstr, ↓E_cbl, ↓E_cnon, ↓E_glob, ↓E_bin, ↓E_neg, ↓E_cmp, ↓E_chain, ↓E_andn, ↓E_orn, ↓E_notn, ↓E_ife, ↓E_tupn, ↓E_lstn, ↓E_dnew, ↓E_blt, ↓E_meth, ↓E_mut, ↓E_idx, ↓E_slc, ↓E_isi, ↓T_var, ↓T_cint, ↓T_cstr, ↓T_cbl, ↓T_glob, ↓T_bin, ↓T_cmp, ↓T_neg, ↓T_chain, ↓T_call, ↓T_blt, ↓T_meth, ↓T_idx, ↓T_slc, ↓T_isi, ↓T_comp, ↓T_tupn, ↓T_lstn, ↓T_andn, ↓T_orn, ↓T_notn, ↓T_ife, ↓T_nil, ↓O_nil, ↓O_var, ↓O_cint, ↓O_neg, ↓O_bin, ↓O_blt, ↓O_glob, ↓A_nil, ↓A_cons, ↓B_nil, ↓B_cons, ↓C_nil, ↓C_io, ↓C_im, ↓rd_im, ↓rd_fr, ↓rd_bo, ↓fz_im, ↓fz_fr, ↓fz_bo, ↓rds_nil, ↓rds_cons, ↓ret_im, ↓ret_fr, ↓ret_bo, ↓rdC_nil, ↓rdC_im, ↓rdC_fr, ↓rdC_bo, bos_nil, bos_im, bos_fr, bos_bo, nd_nil, nd_one, ↓putB_nil, ↓putB_im, ↓putB_fr, ↓putB_bo, ↓ex_some, ↓ex_int, ↓post_nx, ↓post_rt, tru_bl, tru_int, tru_lst, tru_tup, tru_non, cmp_eq_int, cmp_ne_int, cmp_lt_int, cmp_le_int, cmp_gt_int, cmp_ge_int, cmp_lt_str, finsE, env0, List.getElem?_cons_zero, List.getElem?_cons_succ, List.length_cons, List.length_nil, List.replicate, List.cons_append, List.nil_append, List.append_nil, reduceIte, Bool.not_true, Bool.not_false, Bool.false_eq_true, if_true, if_false, true_and, and_true, ite_true, ite_false, Option.map_some, List.set_cons_zero, List.set_cons_succ, dIsi, ↓E_call' h2, fi_is_tie, yes2]
    exact ⟨_, _, rfl, ⟨w.ps, c, rfl, rfl, ok.rows c hc, ok.nm, ok.pl⟩, hk _ ⟨_, rfl⟩⟩
  · intro i h; cases h
  subst ee
  try simp only [dd_all, un, u_all, wipeE, ↓S_nil, ↓S_cons, ↓S_pass, ↓S_asg, ↓S_asgt, ↓S_par2, ↓S_par3, ↓S_subT, ↓S_expr, ↓S_ret, ↓S_retN, ↓S_ifs, ↓E_var, ↓E_cint, ↓E_cstr, ↓E_cbl, ↓E_cnon, ↓E_glob, ↓E_bin, ↓E_neg, ↓E_cmp, ↓E_chain, ↓E_andn, ↓E_orn, ↓E_notn, ↓E_ife, ↓E_tupn, ↓E_lstn, ↓E_dnew, ↓E_blt, ↓E_meth, ↓E_mut, ↓E_idx, ↓E_slc, ↓E_isi, ↓T_var, ↓T_cint, ↓T_cstr, ↓T_cbl, ↓T_glob, ↓T_bin, ↓T_cmp, ↓T_neg, ↓T_chain, ↓T_call, ↓T_blt, ↓T_meth, ↓T_idx, ↓T_slc, ↓T_isi, ↓T_comp, ↓T_tupn, ↓T_lstn, ↓T_andn, ↓T_orn, ↓T_notn, ↓T_ife, ↓T_nil, ↓O_nil, ↓O_var, ↓O_cint, ↓O_neg, ↓O_bin, ↓O_blt, ↓O_glob, ↓A_nil, ↓A_cons, ↓B_nil, ↓B_cons, ↓C_nil, ↓C_io, ↓C_im, ↓rd_im, ↓rd_fr, ↓rd_bo, ↓fz_im, ↓fz_fr, ↓fz_bo, ↓rds_nil, ↓rds_cons, ↓ret_im, ↓ret_fr, ↓ret_bo, ↓rdC_nil, ↓rdC_im, ↓rdC_fr, ↓rdC_bo, bos_nil, bos_im, bos_fr, bos_bo, nd_nil, nd_one, ↓putB_nil, ↓putB_im, ↓putB_fr, ↓putB_bo, ↓ex_some, ↓ex_int, ↓post_nx, ↓post_rt, tru_bl, tru_int, tru_lst, tru_tup, tru_non, cmp_eq_int, cmp_ne_int, cmp_lt_int, cmp_le_int, cmp_gt_int, cmp_ge_int, cmp_lt_str, finsE, env0, List.getElem?_cons_zero, List.getElem?_cons_succ, List.length_cons, List.length_nil, List.replicate, List.cons_append, List.nil_append, List.append_nil, reduceIte, Bool.not_true, Bool.not_false, Bool.false_eq_true, if_true, if_false, true_and, and_true, ite_true, ite_false, Option.map_some, List.set_cons_zero, List.set_cons_succ, dIsi]
  refine ⟨_, bls_fm _ _, ?_⟩
  rw [all_true]
  try simp only [↓S_nil, ↓S_cons, ↓S_pass, ↓S_asg, ↓S_asgt, ↓S_par2, ↓S_par3, ↓S_subT, ↓S_expr, ↓S_ret, ↓S_retN, ↓S_ifs, ↓E_var, ↓E_cint, ↓E_cstr, ↓E_cbl, ↓E_cnon, ↓E_glob, ↓E_bin, ↓E_neg, ↓E_cmp, ↓E_chain, ↓E_andn, ↓E_orn, ↓E_notn, ↓E_ife, ↓E_tupn, ↓E_lstn, ↓E_dnew, ↓E_blt, ↓E_meth, ↓E_mut, ↓E_idx, ↓E_slc, ↓E_isi, ↓T_var, ↓T_cint, ↓T_cstr, ↓T_cbl, ↓T_glob, ↓T_bin, ↓T_cmp, ↓T_neg, ↓T_chain, ↓T_call, ↓T_blt, ↓T_meth, ↓T_idx, ↓T_slc, ↓T_isi, ↓T_comp, ↓T_tupn, ↓T_lstn, ↓T_andn, ↓T_orn, ↓T_notn, ↓T_ife, ↓T_nil, ↓O_nil, ↓O_var, ↓O_cint, ↓O_neg, ↓O_bin, ↓O_blt, ↓O_glob, ↓A_nil, ↓A_cons, ↓B_nil, ↓B_cons, ↓C_nil, ↓C_io, ↓C_im, ↓rd_im, ↓rd_fr, ↓rd_bo, ↓fz_im, ↓fz_fr, ↓fz_bo, ↓rds_nil, ↓rds_cons, ↓ret_im, ↓ret_fr, ↓ret_bo, ↓rdC_nil, ↓rdC_im, ↓rdC_fr, ↓rdC_bo, bos_nil, bos_im, bos_fr, bos_bo, nd_nil, nd_one, ↓putB_nil, ↓putB_im, ↓putB_fr, ↓putB_bo, ↓ex_some, ↓ex_int, ↓post_nx, ↓post_rt, tru_bl, tru_int, tru_lst, tru_tup, tru_non, cmp_eq_int, cmp_ne_int, cmp_lt_int, cmp_le_int, cmp_gt_int, cmp_ge_int, cmp_lt_str, finsE, env0, List.getElem?_cons_zero, List.getElem?_cons_succ, List.length_cons, List.length_nil, List.replicate, List.cons_append, List.nil_append, List.append_nil, reduceIte, Bool.not_true, Bool.not_false, Bool.false_eq_true, if_true, if_false, true_and, and_true, ite_true, ite_false, Option.map_some, List.set_cons_zero, List.set_cons_succ, dIsi]
  rw [hnx]
  try simp only [↓S_nil, ↓S_cons, ↓S_pass, ↓S_asg, ↓S_asgt, ↓S_par2, ↓S_par3, ↓S_subT, ↓S_expr, ↓S_ret, ↓S_retN, ↓S_ifs, ↓E_var, ↓E_cint, ↓E_cstr, ↓E_cbl, ↓E_cnon, ↓E_glob, ↓E_bin, ↓E_neg, ↓E_cmp, ↓E_chain, ↓E_andn, ↓E_orn, ↓E_notn, ↓E_ife, ↓E_tupn, ↓E_lstn, ↓E_dnew, ↓E_blt, ↓E_meth, ↓E_mut, ↓E_idx, ↓E_slc, ↓E_isi, ↓T_var, ↓T_cint, ↓T_cstr, ↓T_cbl, ↓T_glob, ↓T_bin, ↓T_cmp, ↓T_neg, ↓T_chain, ↓T_call, ↓T_blt, ↓T_meth, ↓T_idx, ↓T_slc, ↓T_isi, ↓T_comp, ↓T_tupn, ↓T_lstn, ↓T_andn, ↓T_orn, ↓T_notn, ↓T_ife, ↓T_nil, ↓O_nil, ↓O_var, ↓O_cint, ↓O_neg, ↓O_bin, ↓O_blt, ↓O_glob, ↓A_nil, ↓A_cons, ↓B_nil, ↓B_cons, ↓C_nil, ↓C_io, ↓C_im, ↓rd_im, ↓rd_fr, ↓rd_bo, ↓fz_im, ↓fz_fr, ↓fz_bo, ↓rds_nil, ↓rds_cons, ↓ret_im, ↓ret_fr, ↓ret_bo, ↓rdC_nil, ↓rdC_im, ↓rdC_fr, ↓rdC_bo, bos_nil, bos_im, bos_fr, bos_bo, nd_nil, nd_one, ↓putB_nil, ↓putB_im, ↓putB_fr, ↓putB_bo, ↓ex_some, ↓ex_int, ↓post_nx, ↓post_rt, tru_bl, tru_int, tru_lst, tru_tup, tru_non, cmp_eq_int, cmp_ne_int, cmp_lt_int, cmp_le_int, cmp_gt_int, cmp_ge_int, cmp_lt_str, finsE, env0, List.getElem?_cons_zero, List.getElem?_cons_succ, List.length_cons, List.length_nil, List.replicate, List.cons_append, List.nil_append, List.append_nil, reduceIte, Bool.not_true, Bool.not_false, Bool.false_eq_true, if_true, if_false, true_and, and_true, ite_true, ite_false, Option.map_some, List.set_cons_zero, List.set_cons_succ, dIsi, ↓E_call' h3, fi_are_rising, yes1, ↓E_comp, ↓I_var, ↓srcR_im, itD]
  refine ⟨by rw [List.length_map]; exact hl, compW_map rowT (fun e => ∃ s, e = [.im (webD w), .im (.tup (w.ps.map .str)), .im (.tup (w.rows.map rowD)), s]) (fun e ⟨s, e'⟩ => ?_) (fun d hd e k ⟨s, e'⟩ hk => ?_) ⟨_, rfl⟩ fun e' ⟨s, ee⟩ => ?_⟩
  · subst e'
    obtain ⟨c, hc, rfl⟩ := List.mem_map.mp hd
    try simp only [cturn, bindT, wipeE, stS, rowD, ↓S_nil, ↓S_cons, ↓S_pass, ↓S_asg, ↓S_asgt, ↓S_par2, ↓S_par3, ↓S_subT, ↓S_expr, ↓S_ret, ↓S_retN, ↓S_ifs, ↓E_var, ↓E_cint, ↓E_cstr, ↓E_cbl, ↓E_cnon, ↓E_glob, ↓E_bin, ↓E_neg, ↓E_cmp, ↓E_chain, ↓E_andn, ↓E_orn, ↓E_notn, ↓E_ife, ↓E_tupn, ↓E_lstn, ↓E_dnew, ↓E_blt, ↓E_meth, ↓E_mut, ↓E_idx, ↓E_slc, ↓E_isi, ↓T_var, ↓T_cint, ↓T_cstr, ↓T_cbl, ↓T_glob, ↓T_bin, ↓T_cmp, ↓T_neg, ↓T_chain, ↓T_call, ↓T_blt, ↓T_meth, ↓T_idx, ↓T_slc, ↓T_isi, ↓T_comp, ↓T_tupn, ↓T_lstn, ↓T_andn, ↓T_orn, ↓T_notn, ↓T_ife, ↓T_nil, ↓O_nil, ↓O_var, ↓O_cint, ↓O_neg, ↓O_bin, ↓O_blt, ↓O_glob, ↓A_nil, ↓A_cons, ↓B_nil, ↓B_cons, ↓C_nil, ↓C_io, ↓C_im, ↓rd_im, ↓rd_fr, ↓rd_bo, ↓fz_im, ↓fz_fr, ↓fz_bo, ↓rds_nil, ↓rds_cons, ↓ret_im, ↓ret_fr, ↓ret_bo, ↓rdC_nil, ↓rdC_im, ↓rdC_fr, ↓rdC_bo, bos_nil, bos_im, bos_fr, bos_bo, nd_nil, nd_one, ↓putB_nil, ↓putB_im, ↓putB_fr, ↓putB_bo, ↓ex_some, ↓ex_int, ↓post_nx, ↓post_rt, tru_bl, tru_int, tru_lst, tru_tup, tru_non, cmp_eq_int, cmp_ne_int, cmp_lt_int, cmp_le_int, cmp_gt_int, cmp_ge_int, cmp_lt_str, finsE, env0, List.getElem?_cons_zero, List.getElem?_cons_succ, List.length_cons, List.length_nil, List.replicate, List.cons_append, List.nil_append, List.append_nil, reduceIte, Bool.not_true, Bool.not_false, Bool.false_eq_true, if_true, if_false, true_and, and_true, ite_true, ite_false, Option.map_some, List.set_cons_zero, List.set_cons_succ, dIsi, dIdx, at0]
    exact hk _ ⟨_, rfl⟩
  · intro i h; cases h
  subst ee
  try simp only [wipeE, ↓S_nil, ↓S_cons, ↓S_pass, ↓S_asg, ↓S_asgt, ↓S_par2, ↓S_par3, ↓S_subT, ↓S_expr, ↓S_ret, ↓S_retN, ↓S_ifs, ↓E_var, ↓E_cint, ↓E_cstr, ↓E_cbl, ↓E_cnon, ↓E_glob, ↓E_bin, ↓E_neg, ↓E_cmp, ↓E_chain, ↓E_andn, ↓E_orn, ↓E_notn, ↓E_ife, ↓E_tupn, ↓E_lstn, ↓E_dnew, ↓E_blt, ↓E_meth, ↓E_mut, ↓E_idx, ↓E_slc, ↓E_isi, ↓T_var, ↓T_cint, ↓T_cstr, ↓T_cbl, ↓T_glob, ↓T_bin, ↓T_cmp, ↓T_neg, ↓T_chain, ↓T_call, ↓T_blt, ↓T_meth, ↓T_idx, ↓T_slc, ↓T_isi, ↓T_comp, ↓T_tupn, ↓T_lstn, ↓T_andn, ↓T_orn, ↓T_notn, ↓T_ife, ↓T_nil, ↓O_nil, ↓O_var, ↓O_cint, ↓O_neg, ↓O_bin, ↓O_blt, ↓O_glob, ↓A_nil, ↓A_cons, ↓B_nil, ↓B_cons, ↓C_nil, ↓C_io, ↓C_im, ↓rd_im, ↓rd_fr, ↓rd_bo, ↓fz_im, ↓fz_fr, ↓fz_bo, ↓rds_nil, ↓rds_cons, ↓ret_im, ↓ret_fr, ↓ret_bo, ↓rdC_nil, ↓rdC_im, ↓rdC_fr, ↓rdC_bo, bos_nil, bos_im, bos_fr, bos_bo, nd_nil, nd_one, ↓putB_nil, ↓putB_im, ↓putB_fr, ↓putB_bo, ↓ex_some, ↓ex_int, ↓post_nx, ↓post_rt, tru_bl, tru_int, tru_lst, tru_tup, tru_non, cmp_eq_int, cmp_ne_int, cmp_lt_int, cmp_le_int, cmp_gt_int, cmp_ge_int, cmp_lt_str, finsE, env0, List.getElem?_cons_zero, List.getElem?_cons_succ, List.length_cons, List.length_nil, List.replicate, List.cons_append, List.nil_append, List.append_nil, reduceIte, Bool.not_true, Bool.not_false, Bool.false_eq_true, if_true, if_false, true_and, and_true, ite_true, ite_false, Option.map_some, List.set_cons_zero, List.set_cons_succ, dIsi]
  refine ⟨_, rfl, ⟨w.rows.map (·.t), .inr ?_, ok.ts, by rw [List.length_map]; exact hl⟩, ?_⟩
  · rw [filterMap_row (f := fun r => .str r.t) fun r => rfl, List.map_map]; rfl
  · exact ⟨[], rfl, q⟩
theorem k_want_web (Γ : Ga) (h1 : Γ.fn "is_web" = some fi_is_web) : Keeps Γ 1 sm_want_web fi_want_web := by
  rintro ds Q E ⟨w, rfl, ok, q⟩
  refine ⟨rfl, by decide, ?_⟩
  try simp only [sm_want_web, fi_want_web, ↓S_nil, ↓S_cons, ↓S_pass, ↓S_asg, ↓S_asgt, ↓S_par2, ↓S_par3, ↓S_subT, ↓S_expr, ↓S_ret, ↓S_retN, ↓S_ifs, ↓E_var, ↓E_cint, ↓E_cstr, ↓E_cbl, ↓E_cnon, ↓E_glob, ↓E_bin, ↓E_neg, ↓E_cmp, ↓E_chain, ↓E_andn, ↓E_orn, ↓E_notn, ↓E_ife, ↓E_tupn, ↓E_lstn, ↓E_dnew, ↓E_blt, ↓E_meth, ↓E_mut, ↓E_idx, ↓E_slc, ↓E_isi, ↓T_var, ↓T_cint, ↓T_cstr, ↓T_cbl, ↓T_glob, ↓T_bin, ↓T_cmp, ↓T_neg, ↓T_chain, ↓T_call, ↓T_blt, ↓T_meth, ↓T_idx, ↓T_slc, ↓T_isi, ↓T_comp, ↓T_tupn, ↓T_lstn, ↓T_andn, ↓T_orn, ↓T_notn, ↓T_ife, ↓T_nil, ↓O_nil, ↓O_var, ↓O_cint, ↓O_neg, ↓O_bin, ↓O_blt, ↓O_glob, ↓A_nil, ↓A_cons, ↓B_nil, ↓B_cons, ↓C_nil, ↓C_io, ↓C_im, ↓rd_im, ↓rd_fr, ↓rd_bo, ↓fz_im, ↓fz_fr, ↓fz_bo, ↓rds_nil, ↓rds_cons, ↓ret_im, ↓ret_fr, ↓ret_bo, ↓rdC_nil, ↓rdC_im, ↓rdC_fr, ↓rdC_bo, bos_nil, bos_im, bos_fr, bos_bo, nd_nil, nd_one, ↓putB_nil, ↓putB_im, ↓putB_fr, ↓putB_bo, ↓ex_some, ↓ex_int, ↓post_nx, ↓post_rt, tru_bl, tru_int, tru_lst, tru_tup, tru_non, cmp_eq_int, cmp_ne_int, cmp_lt_int, cmp_le_int, cmp_gt_int, cmp_ge_int, cmp_lt_str, finsE, env0, List.getElem?_cons_zero, List.getElem?_cons_succ, List.length_cons, List.length_nil, List.replicate, List.cons_append, List.nil_append, List.append_nil, reduceIte, Bool.not_true, Bool.not_false, Bool.false_eq_true, if_true, if_false, true_and, and_true, ite_true, ite_false, Option.map_some, List.set_cons_zero, List.set_cons_succ, dIsi, ↓E_call' h1, fi_is_web, yes1]
  exact ⟨_, rfl, ⟨w, rfl, ok⟩, q⟩
def LotOk (w : Web) (l : List Str) : Prop := l ≠ [] ∧ l.length < w.ps.length ∧ (∀ p ∈ l, p ∈ w.ps) ∧ Rising l
def lotD (l : List Str) : D := .tup (l.map .str)
def fi_is_lot_of : FI := yes2 fun d e => ∃ w l, d = webD w ∧ e = lotD l ∧ WebOk w ∧ LotOk w l
def fi_want_lot : FI := { io := [false, false], sp := fun ds Q _ => ∃ w l, ds = [webD w, lotD l] ∧ WebOk w ∧ LotOk w l ∧ Q (.im .non) [] }
def leav (l : List Str) (r : Row) : Bool := decide (r.a ∈ l) != decide (r.b ∈ l)
def fi_leaves : FI := { io := [false, false], sp := fun ds Q _ => ∃ l r, ds = [lotD l, rowD r] ∧ Q (.im (.bl (leav l r))) [] }
def rowsOf (w : Web) (l : List Str) : List Row := w.rows.filter (leav l)
def fi_rows_of : FI := { io := [false, false], sp := fun ds Q _ => ∃ w l, ds = [webD w, lotD l] ∧ WebOk w ∧ Q (.fr (.lst ((rowsOf w l).map rowD))) [] }
theorem at1 {α : Type} {a b : α} {l : List α} : L2.atI (a :: b :: l) 1 = some b := L2.atI_nat (j := 1) rfl
theorem at2 {α : Type} {a b c : α} {l : List α} : L2.atI (a :: b :: c :: l) 2 = some c := L2.atI_nat (j := 2) rfl
theorem at3 {α : Type} {a b c d : α} {l : List α} : L2.atI (a :: b :: c :: d :: l) 3 = some d := L2.atI_nat (j := 3) rfl
theorem cmp_ne_bl {a b : Bool} {K : Bool → Prop} : dCmp .NotEq (.bl a) (.bl b) K = K (!(a == b)) := propext ⟨fun h => h.2, fun h => ⟨⟨rfl, rfl, .inl (Nat.zero_le _)⟩, h⟩⟩
theorem in_strs {ps : List Str} {x : Str} {K : Bool → Prop} : dCmp .In (.str x) (.tup (ps.map .str)) K = K (decide (x ∈ ps)) := propext ⟨fun h => by have := h.2; rwa [any_str] at this, fun h => ⟨⟨rfl, flat_strs ps⟩, by rwa [any_str]⟩⟩
theorem notin_strs {ps : List Str} {x : Str} {K : Bool → Prop} : dCmp .NotIn (.str x) (.tup (ps.map .str)) K = K (!decide (x ∈ ps)) := propext ⟨fun h => by have := h.2; rwa [any_str] at this, fun h => ⟨⟨rfl, flat_strs ps⟩, by rwa [any_str]⟩⟩
theorem k_leaves (Γ : Ga) : Keeps Γ 2 sm_leaves fi_leaves := by
  rintro ds Q E ⟨l, r, rfl, q⟩
  refine ⟨rfl, by decide, ?_⟩
  try simp only [sm_leaves, fi_leaves, lotD, rowD, ↓S_nil, ↓S_cons, ↓S_pass, ↓S_asg, ↓S_asgt, ↓S_par2, ↓S_par3, ↓S_subT, ↓S_expr, ↓S_ret, ↓S_retN, ↓S_ifs, ↓E_var, ↓E_cint, ↓E_cstr, ↓E_cbl, ↓E_cnon, ↓E_glob, ↓E_bin, ↓E_neg, ↓E_cmp, ↓E_chain, ↓E_andn, ↓E_orn, ↓E_notn, ↓E_ife, ↓E_tupn, ↓E_lstn, ↓E_dnew, ↓E_blt, ↓E_meth, ↓E_mut, ↓E_idx, ↓E_slc, ↓E_isi, ↓T_var, ↓T_cint, ↓T_cstr, ↓T_cbl, ↓T_glob, ↓T_bin, ↓T_cmp, ↓T_neg, ↓T_chain, ↓T_call, ↓T_blt, ↓T_meth, ↓T_idx, ↓T_slc, ↓T_isi, ↓T_comp, ↓T_tupn, ↓T_lstn, ↓T_andn, ↓T_orn, ↓T_notn, ↓T_ife, ↓T_nil, ↓O_nil, ↓O_var, ↓O_cint, ↓O_neg, ↓O_bin, ↓O_blt, ↓O_glob, ↓A_nil, ↓A_cons, ↓B_nil, ↓B_cons, ↓C_nil, ↓C_io, ↓C_im, ↓rd_im, ↓rd_fr, ↓rd_bo, ↓fz_im, ↓fz_fr, ↓fz_bo, ↓rds_nil, ↓rds_cons, ↓ret_im, ↓ret_fr, ↓ret_bo, ↓rdC_nil, ↓rdC_im, ↓rdC_fr, ↓rdC_bo, bos_nil, bos_im, bos_fr, bos_bo, nd_nil, nd_one, ↓putB_nil, ↓putB_im, ↓putB_fr, ↓putB_bo, ↓ex_some, ↓ex_int, ↓post_nx, ↓post_rt, tru_bl, tru_int, tru_lst, tru_tup, tru_non, cmp_eq_int, cmp_ne_int, cmp_lt_int, cmp_le_int, cmp_gt_int, cmp_ge_int, cmp_lt_str, finsE, env0, List.getElem?_cons_zero, List.getElem?_cons_succ, List.length_cons, List.length_nil, List.replicate, List.cons_append, List.nil_append, List.append_nil, reduceIte, Bool.not_true, Bool.not_false, Bool.false_eq_true, if_true, if_false, true_and, and_true, ite_true, ite_false, Option.map_some, List.set_cons_zero, List.set_cons_succ, dIsi, dIdx, at1, at2, in_strs, cmp_ne_bl]
  exact q
theorem k_rows_of (Γ : Ga) (h1 : Γ.fn "leaves" = some fi_leaves) : Keeps Γ 3 sm_rows_of fi_rows_of := by
  rintro ds Q E ⟨w, l, rfl, ok, q⟩
  refine ⟨rfl, by decide, ?_⟩
  have hl : w.rows.length ≤ sizeLine := by have := ok.rl; rw [PySem.sizeLine_eq]; omega
  try simp only [sm_rows_of, fi_rows_of, webD, ↓S_nil, ↓S_cons, ↓S_pass, ↓S_asg, ↓S_asgt, ↓S_par2, ↓S_par3, ↓S_subT, ↓S_expr, ↓S_ret, ↓S_retN, ↓S_ifs, ↓E_var, ↓E_cint, ↓E_cstr, ↓E_cbl, ↓E_cnon, ↓E_glob, ↓E_bin, ↓E_neg, ↓E_cmp, ↓E_chain, ↓E_andn, ↓E_orn, ↓E_notn, ↓E_ife, ↓E_tupn, ↓E_lstn, ↓E_dnew, ↓E_blt, ↓E_meth, ↓E_mut, ↓E_idx, ↓E_slc, ↓E_isi, ↓T_var, ↓T_cint, ↓T_cstr, ↓T_cbl, ↓T_glob, ↓T_bin, ↓T_cmp, ↓T_neg, ↓T_chain, ↓T_call, ↓T_blt, ↓T_meth, ↓T_idx, ↓T_slc, ↓T_isi, ↓T_comp, ↓T_tupn, ↓T_lstn, ↓T_andn, ↓T_orn, ↓T_notn, ↓T_ife, ↓T_nil, ↓O_nil, ↓O_var, ↓O_cint, ↓O_neg, ↓O_bin, ↓O_blt, ↓O_glob, ↓A_nil, ↓A_cons, ↓B_nil, ↓B_cons, ↓C_nil, ↓C_io, ↓C_im, ↓rd_im, ↓rd_fr, ↓rd_bo, ↓fz_im, ↓fz_fr, ↓fz_bo, ↓rds_nil, ↓rds_cons, ↓ret_im, ↓ret_fr, ↓ret_bo, ↓rdC_nil, ↓rdC_im, ↓rdC_fr, ↓rdC_bo, bos_nil, bos_im, bos_fr, bos_bo, nd_nil, nd_one, ↓putB_nil, ↓putB_im, ↓putB_fr, ↓putB_bo, ↓ex_some, ↓ex_int, ↓post_nx, ↓post_rt, tru_bl, tru_int, tru_lst, tru_tup, tru_non, cmp_eq_int, cmp_ne_int, cmp_lt_int, cmp_le_int, cmp_gt_int, cmp_ge_int, cmp_lt_str, finsE, env0, List.getElem?_cons_zero, List.getElem?_cons_succ, List.length_cons, List.length_nil, List.replicate, List.cons_append, List.nil_append, List.append_nil, reduceIte, Bool.not_true, Bool.not_false, Bool.false_eq_true, if_true, if_false, true_and, and_true, ite_true, ite_false, Option.map_some, List.set_cons_zero, List.set_cons_succ, dIsi, ↓E_comp, ↓I_idx, dIdx, at1, ↓srcR_im, itD]
  refine ⟨by rw [List.length_map]; exact hl, compW_state (fun r acc e => (∃ s, e = [.im (webD w), .im (lotD l), s]) ∧ ∃ rs, r = rs.map rowD ∧ acc ++ (rs.filter (leav l)).map rowD = (rowsOf w l).map rowD) (fun r acc e _ => ?_) (fun d r acc e k ⟨⟨s, e'⟩, rs, er, ea⟩ hk => ?_) ⟨⟨_, rfl⟩, w.rows, rfl, rfl⟩ fun acc' e' ⟨⟨s, ee⟩, rs, er, ea⟩ => ?_⟩
  · intro i h; cases h
  · subst ee
    cases rs with
    | cons c rs => cases er
    | nil =>
      simp only [List.filter_nil, List.map_nil, List.append_nil] at ea
      subst ea
      exact ⟨[], rfl, q⟩
  · cases rs with
    | nil => cases er
    | cons c rs =>
      cases er
      subst e'
      try simp only [cturn, bindT, wipeE, stS, ↓S_nil, ↓S_cons, ↓S_pass, ↓S_asg, ↓S_asgt, ↓S_par2, ↓S_par3, ↓S_subT, ↓S_expr, ↓S_ret, ↓S_retN, ↓S_ifs, ↓E_var, ↓E_cint, ↓E_cstr, ↓E_cbl, ↓E_cnon, ↓E_glob, ↓E_bin, ↓E_neg, ↓E_cmp, ↓E_chain, ↓E_andn, ↓E_orn, ↓E_notn, ↓E_ife, ↓E_tupn, ↓E_lstn, ↓E_dnew, ↓E_blt, ↓E_meth, ↓E_mut, ↓E_idx, ↓E_slc, ↓E_isi, ↓T_var, ↓T_cint, ↓T_cstr, ↓T_cbl, ↓T_glob, ↓T_bin, ↓T_cmp, ↓T_neg, ↓T_chain, ↓T_call, ↓T_blt, ↓T_meth, ↓T_idx, ↓T_slc, ↓T_isi, ↓T_comp, ↓T_tupn, ↓T_lstn, ↓T_andn, ↓T_orn, ↓T_notn, ↓T_ife, ↓T_nil, ↓O_nil, ↓O_var, ↓O_cint, ↓O_neg, ↓O_bin, ↓O_blt, ↓O_glob, ↓A_nil, ↓A_cons, ↓B_nil, ↓B_cons, ↓C_nil, ↓C_io, ↓C_im, ↓rd_im, ↓rd_fr, ↓rd_bo, ↓fz_im, ↓fz_fr, ↓fz_bo, ↓rds_nil, ↓rds_cons, ↓ret_im, ↓ret_fr, ↓ret_bo, ↓rdC_nil, ↓rdC_im, ↓rdC_fr, ↓rdC_bo, bos_nil, bos_im, bos_fr, bos_bo, nd_nil, nd_one, ↓putB_nil, ↓putB_im, ↓putB_fr, ↓putB_bo, ↓ex_some, ↓ex_int, ↓post_nx, ↓post_rt, tru_bl, tru_int, tru_lst, tru_tup, tru_non, cmp_eq_int, cmp_ne_int, cmp_lt_int, cmp_le_int, cmp_gt_int, cmp_ge_int, cmp_lt_str, finsE, env0, List.getElem?_cons_zero, List.getElem?_cons_succ, List.length_cons, List.length_nil, List.replicate, List.cons_append, List.nil_append, List.append_nil, reduceIte, Bool.not_true, Bool.not_false, Bool.false_eq_true, if_true, if_false, true_and, and_true, ite_true, ite_false, Option.map_some, List.set_cons_zero, List.set_cons_succ, dIsi, ↓E_call' h1, fi_leaves]
      refine ⟨l, c, rfl, ?_⟩
      try simp only [↓S_nil, ↓S_cons, ↓S_pass, ↓S_asg, ↓S_asgt, ↓S_par2, ↓S_par3, ↓S_subT, ↓S_expr, ↓S_ret, ↓S_retN, ↓S_ifs, ↓E_var, ↓E_cint, ↓E_cstr, ↓E_cbl, ↓E_cnon, ↓E_glob, ↓E_bin, ↓E_neg, ↓E_cmp, ↓E_chain, ↓E_andn, ↓E_orn, ↓E_notn, ↓E_ife, ↓E_tupn, ↓E_lstn, ↓E_dnew, ↓E_blt, ↓E_meth, ↓E_mut, ↓E_idx, ↓E_slc, ↓E_isi, ↓T_var, ↓T_cint, ↓T_cstr, ↓T_cbl, ↓T_glob, ↓T_bin, ↓T_cmp, ↓T_neg, ↓T_chain, ↓T_call, ↓T_blt, ↓T_meth, ↓T_idx, ↓T_slc, ↓T_isi, ↓T_comp, ↓T_tupn, ↓T_lstn, ↓T_andn, ↓T_orn, ↓T_notn, ↓T_ife, ↓T_nil, ↓O_nil, ↓O_var, ↓O_cint, ↓O_neg, ↓O_bin, ↓O_blt, ↓O_glob, ↓A_nil, ↓A_cons, ↓B_nil, ↓B_cons, ↓C_nil, ↓C_io, ↓C_im, ↓rd_im, ↓rd_fr, ↓rd_bo, ↓fz_im, ↓fz_fr, ↓fz_bo, ↓rds_nil, ↓rds_cons, ↓ret_im, ↓ret_fr, ↓ret_bo, ↓rdC_nil, ↓rdC_im, ↓rdC_fr, ↓rdC_bo, bos_nil, bos_im, bos_fr, bos_bo, nd_nil, nd_one, ↓putB_nil, ↓putB_im, ↓putB_fr, ↓putB_bo, ↓ex_some, ↓ex_int, ↓post_nx, ↓post_rt, tru_bl, tru_int, tru_lst, tru_tup, tru_non, cmp_eq_int, cmp_ne_int, cmp_lt_int, cmp_le_int, cmp_gt_int, cmp_ge_int, cmp_lt_str, finsE, env0, List.getElem?_cons_zero, List.getElem?_cons_succ, List.length_cons, List.length_nil, List.replicate, List.cons_append, List.nil_append, List.append_nil, reduceIte, Bool.not_true, Bool.not_false, Bool.false_eq_true, if_true, if_false, true_and, and_true, ite_true, ite_false, Option.map_some, List.set_cons_zero, List.set_cons_succ, dIsi]
      cases hb : leav l c with
      | true =>
        try simp only [↓S_nil, ↓S_cons, ↓S_pass, ↓S_asg, ↓S_asgt, ↓S_par2, ↓S_par3, ↓S_subT, ↓S_expr, ↓S_ret, ↓S_retN, ↓S_ifs, ↓E_var, ↓E_cint, ↓E_cstr, ↓E_cbl, ↓E_cnon, ↓E_glob, ↓E_bin, ↓E_neg, ↓E_cmp, ↓E_chain, ↓E_andn, ↓E_orn, ↓E_notn, ↓E_ife, ↓E_tupn, ↓E_lstn, ↓E_dnew, ↓E_blt, ↓E_meth, ↓E_mut, ↓E_idx, ↓E_slc, ↓E_isi, ↓T_var, ↓T_cint, ↓T_cstr, ↓T_cbl, ↓T_glob, ↓T_bin, ↓T_cmp, ↓T_neg, ↓T_chain, ↓T_call, ↓T_blt, ↓T_meth, ↓T_idx, ↓T_slc, ↓T_isi, ↓T_comp, ↓T_tupn, ↓T_lstn, ↓T_andn, ↓T_orn, ↓T_notn, ↓T_ife, ↓T_nil, ↓O_nil, ↓O_var, ↓O_cint, ↓O_neg, ↓O_bin, ↓O_blt, ↓O_glob, ↓A_nil, ↓A_cons, ↓B_nil, ↓B_cons, ↓C_nil, ↓C_io, ↓C_im, ↓rd_im, ↓rd_fr, ↓rd_bo, ↓fz_im, ↓fz_fr, ↓fz_bo, ↓rds_nil, ↓rds_cons, ↓ret_im, ↓ret_fr, ↓ret_bo, ↓rdC_nil, ↓rdC_im, ↓rdC_fr, ↓rdC_bo, bos_nil, bos_im, bos_fr, bos_bo, nd_nil, nd_one, ↓putB_nil, ↓putB_im, ↓putB_fr, ↓putB_bo, ↓ex_some, ↓ex_int, ↓post_nx, ↓post_rt, tru_bl, tru_int, tru_lst, tru_tup, tru_non, cmp_eq_int, cmp_ne_int, cmp_lt_int, cmp_le_int, cmp_gt_int, cmp_ge_int, cmp_lt_str, finsE, env0, List.getElem?_cons_zero, List.getElem?_cons_succ, List.length_cons, List.length_nil, List.replicate, List.cons_append, List.nil_append, List.append_nil, reduceIte, Bool.not_true, Bool.not_false, Bool.false_eq_true, if_true, if_false, true_and, and_true, ite_true, ite_false, Option.map_some, List.set_cons_zero, List.set_cons_succ, dIsi]
        exact hk (some (rowD c)) _ ⟨⟨_, rfl⟩, rs, rfl, by rw [← ea, List.filter_cons_of_pos hb, List.map_cons, List.append_assoc]; rfl⟩
      | false =>
        try simp only [↓S_nil, ↓S_cons, ↓S_pass, ↓S_asg, ↓S_asgt, ↓S_par2, ↓S_par3, ↓S_subT, ↓S_expr, ↓S_ret, ↓S_retN, ↓S_ifs, ↓E_var, ↓E_cint, ↓E_cstr, ↓E_cbl, ↓E_cnon, ↓E_glob, ↓E_bin, ↓E_neg, ↓E_cmp, ↓E_chain, ↓E_andn, ↓E_orn, ↓E_notn, ↓E_ife, ↓E_tupn, ↓E_lstn, ↓E_dnew, ↓E_blt, ↓E_meth, ↓E_mut, ↓E_idx, ↓E_slc, ↓E_isi, ↓T_var, ↓T_cint, ↓T_cstr, ↓T_cbl, ↓T_glob, ↓T_bin, ↓T_cmp, ↓T_neg, ↓T_chain, ↓T_call, ↓T_blt, ↓T_meth, ↓T_idx, ↓T_slc, ↓T_isi, ↓T_comp, ↓T_tupn, ↓T_lstn, ↓T_andn, ↓T_orn, ↓T_notn, ↓T_ife, ↓T_nil, ↓O_nil, ↓O_var, ↓O_cint, ↓O_neg, ↓O_bin, ↓O_blt, ↓O_glob, ↓A_nil, ↓A_cons, ↓B_nil, ↓B_cons, ↓C_nil, ↓C_io, ↓C_im, ↓rd_im, ↓rd_fr, ↓rd_bo, ↓fz_im, ↓fz_fr, ↓fz_bo, ↓rds_nil, ↓rds_cons, ↓ret_im, ↓ret_fr, ↓ret_bo, ↓rdC_nil, ↓rdC_im, ↓rdC_fr, ↓rdC_bo, bos_nil, bos_im, bos_fr, bos_bo, nd_nil, nd_one, ↓putB_nil, ↓putB_im, ↓putB_fr, ↓putB_bo, ↓ex_some, ↓ex_int, ↓post_nx, ↓post_rt, tru_bl, tru_int, tru_lst, tru_tup, tru_non, cmp_eq_int, cmp_ne_int, cmp_lt_int, cmp_le_int, cmp_gt_int, cmp_ge_int, cmp_lt_str, finsE, env0, List.getElem?_cons_zero, List.getElem?_cons_succ, List.length_cons, List.length_nil, List.replicate, List.cons_append, List.nil_append, List.append_nil, reduceIte, Bool.not_true, Bool.not_false, Bool.false_eq_true, if_true, if_false, true_and, and_true, ite_true, ite_false, Option.map_some, List.set_cons_zero, List.set_cons_succ, dIsi]
        exact hk none _ ⟨⟨_, rfl⟩, rs, rfl, by rw [← ea, List.filter_cons_of_neg (by rw [hb]; decide)]⟩
theorem k_is_lot_of (Γ : Ga) (h1 : Γ.fn "is_place_of" = some fi_is_place_of) (h2 : Γ.fn "are_rising" = some fi_are_rising) : Keeps Γ 3 sm_is_lot_of fi_is_lot_of := by
  rintro ds Q E ⟨_, _, rfl, ⟨w, l, rfl, rfl, ok, ne, lt, mem, up⟩, q⟩
  refine ⟨rfl, by decide, ?_⟩
  have hp := ok.pl
  have hl : l.length ≤ sizeLine := by rw [PySem.sizeLine_eq]; omega
  have l1 : 1 ≤ l.length := by cases l with | nil => exact absurd rfl ne | cons _ _ => simp
  have g1 : decide ((1 : Int) ≤ (l.length : Int)) = true := decide_eq_true (by omega)
  have g2 : decide ((l.length : Int) < (w.ps.length : Int)) = true := decide_eq_true (by omega)
  unfold sm_is_lot_of
  refine S_seq fun nx hnx => ?_
  try simp only [fi_is_lot_of, yes2, lotD, webD, ↓S_nil, ↓S_cons, ↓S_pass, ↓S_asg, ↓S_asgt, ↓S_par2, ↓S_par3, ↓S_subT, ↓S_expr, ↓S_ret, ↓S_retN, ↓S_ifs, ↓E_var, ↓E_cint, ↓E_cstr, ↓E_cbl, ↓E_cnon, ↓E_glob, ↓E_bin, ↓E_neg, ↓E_cmp, ↓E_chain, ↓E_andn, ↓E_orn, ↓E_notn, ↓E_ife, ↓E_tupn, ↓E_lstn, ↓E_dnew, ↓E_blt, ↓E_meth, ↓E_mut, ↓E_idx, ↓E_slc, ↓E_isi, ↓T_var, ↓T_cint, ↓T_cstr, ↓T_cbl, ↓T_glob, ↓T_bin, ↓T_cmp, ↓T_neg, ↓T_chain, ↓T_call, ↓T_blt, ↓T_meth, ↓T_idx, ↓T_slc, ↓T_isi, ↓T_comp, ↓T_tupn, ↓T_lstn, ↓T_andn, ↓T_orn, ↓T_notn, ↓T_ife, ↓T_nil, ↓O_nil, ↓O_var, ↓O_cint, ↓O_neg, ↓O_bin, ↓O_blt, ↓O_glob, ↓A_nil, ↓A_cons, ↓B_nil, ↓B_cons, ↓C_nil, ↓C_io, ↓C_im, ↓rd_im, ↓rd_fr, ↓rd_bo, ↓fz_im, ↓fz_fr, ↓fz_bo, ↓rds_nil, ↓rds_cons, ↓ret_im, ↓ret_fr, ↓ret_bo, ↓rdC_nil, ↓rdC_im, ↓rdC_fr, ↓rdC_bo, bos_nil, bos_im, bos_fr, bos_bo, nd_nil, nd_one, ↓putB_nil, ↓putB_im, ↓putB_fr, ↓putB_bo, ↓ex_some, ↓ex_int, ↓post_nx, ↓post_rt, tru_bl, tru_int, tru_lst, tru_tup, tru_non, cmp_eq_int, cmp_ne_int, cmp_lt_int, cmp_le_int, cmp_gt_int, cmp_ge_int, cmp_lt_str, finsE, env0, List.getElem?_cons_zero, List.getElem?_cons_succ, List.length_cons, List.length_nil, List.replicate, List.cons_append, List.nil_append, List.append_nil, reduceIte, Bool.not_true, Bool.not_false, Bool.false_eq_true, if_true, if_false, true_and, and_true, ite_true, ite_false, Option.map_some, List.set_cons_zero, List.set_cons_succ, dIsi, dBlt, dd_len, un, u_len, List.length_map, g1, g2, dIdx, at0]
  rw [hnx]
  try simp only [↓S_nil, ↓S_cons, ↓S_pass, ↓S_asg, ↓S_asgt, ↓S_par2, ↓S_par3, ↓S_subT, ↓S_expr, ↓S_ret, ↓S_retN, ↓S_ifs, ↓E_var, ↓E_cint, ↓E_cstr, ↓E_cbl, ↓E_cnon, ↓E_glob, ↓E_bin, ↓E_neg, ↓E_cmp, ↓E_chain, ↓E_andn, ↓E_orn, ↓E_notn, ↓E_ife, ↓E_tupn, ↓E_lstn, ↓E_dnew, ↓E_blt, ↓E_meth, ↓E_mut, ↓E_idx, ↓E_slc, ↓E_isi, ↓T_var, ↓T_cint, ↓T_cstr, ↓T_cbl, ↓T_glob, ↓T_bin, ↓T_cmp, ↓T_neg, ↓T_chain, ↓T_call, ↓T_blt, ↓T_meth, ↓T_idx, ↓T_slc, ↓T_isi, ↓T_comp, ↓T_tupn, ↓T_lstn, ↓T_andn, ↓T_orn, ↓T_notn, ↓T_ife, ↓T_nil, ↓O_nil, ↓O_var, ↓O_cint, ↓O_neg, ↓O_bin, ↓O_blt, ↓O_glob, ↓A_nil, ↓A_cons, ↓B_nil, ↓B_cons, ↓C_nil, ↓C_io, ↓C_im, ↓rd_im, ↓rd_fr, ↓rd_bo, ↓fz_im, ↓fz_fr, ↓fz_bo, ↓rds_nil, ↓rds_cons, ↓ret_im, ↓ret_fr, ↓ret_bo, ↓rdC_nil, ↓rdC_im, ↓rdC_fr, ↓rdC_bo, bos_nil, bos_im, bos_fr, bos_bo, nd_nil, nd_one, ↓putB_nil, ↓putB_im, ↓putB_fr, ↓putB_bo, ↓ex_some, ↓ex_int, ↓post_nx, ↓post_rt, tru_bl, tru_int, tru_lst, tru_tup, tru_non, cmp_eq_int, cmp_ne_int, cmp_lt_int, cmp_le_int, cmp_gt_int, cmp_ge_int, cmp_lt_str, finsE, env0, List.getElem?_cons_zero, List.getElem?_cons_succ, List.length_cons, List.length_nil, List.replicate, List.cons_append, List.nil_append, List.append_nil, reduceIte, Bool.not_true, Bool.not_false, Bool.false_eq_true, if_true, if_false, true_and, and_true, ite_true, ite_false, Option.map_some, List.set_cons_zero, List.set_cons_succ, dIsi, dBlt, ↓E_comp, ↓I_var, ↓srcR_im, itD]
  refine ⟨by rw [List.length_map]; exact hl, compW_map (fun _ => some (.bl true)) (fun e => ∃ s, e = [.im (webD w), .im (lotD l), s]) (fun e ⟨s, e'⟩ => ?_) (fun d hd e k ⟨s, e'⟩ hk => ?_) ⟨_, rfl⟩ fun e' ⟨s, ee⟩ => ?_⟩
  · subst e'
    obtain ⟨c, hc, rfl⟩ := List.mem_map.mp hd
    try simp only [cturn, bindT, wipeE, stS, ↓S_nil, ↓S_cons, ↓S_pass, ↓S_asg, ↓S_asgt, ↓S_par2, ↓S_par3, ↓S_subT, ↓S_expr, ↓S_ret, ↓S_retN, ↓S_ifs, ↓E_var, ↓E_cint, ↓E_cstr, ↓E_cbl, ↓E_cnon, ↓E_glob, ↓E_bin, ↓E_neg, ↓E_cmp, ↓E_chain, ↓E_andn, ↓E_orn, ↓E_notn, ↓E_ife, ↓E_tupn, ↓E_lstn, ↓E_dnew, ↓E_blt, ↓E_meth, ↓E_mut, ↓E_idx, ↓E_slc, ↓E_isi, ↓T_var, ↓T_cint, ↓T_cstr, ↓T_cbl, ↓T_glob, ↓T_bin, ↓T_cmp, ↓T_neg, ↓T_chain, ↓T_call, ↓T_blt, ↓T_meth, ↓T_idx, ↓T_slc, ↓T_isi, ↓T_comp, ↓T_tupn, ↓T_lstn, ↓T_andn, ↓T_orn, ↓T_notn, ↓T_ife, ↓T_nil, ↓O_nil, ↓O_var, ↓O_cint, ↓O_neg, ↓O_bin, ↓O_blt, ↓O_glob, ↓A_nil, ↓A_cons, ↓B_nil, ↓B_cons, ↓C_nil, ↓C_io, ↓C_im, ↓rd_im, ↓rd_fr, ↓rd_bo, ↓fz_im, ↓fz_fr, ↓fz_bo, ↓rds_nil, ↓rds_cons, ↓ret_im, ↓ret_fr, ↓ret_bo, ↓rdC_nil, ↓rdC_im, ↓rdC_fr, ↓rdC_bo, bos_nil, bos_im, bos_fr, bos_bo, nd_nil, nd_one, ↓putB_nil, ↓putB_im, ↓putB_fr, ↓putB_bo, ↓ex_some, ↓ex_int, ↓post_nx, ↓post_rt, tru_bl, tru_int, tru_lst, tru_tup, tru_non, cmp_eq_int, cmp_ne_int, cmp_lt_int, cmp_le_int, cmp_gt_int, cmp_ge_int, cmp_lt_str, finsE, env0, List.getElem?_cons_zero, List.getElem?_cons_succ, List.length_cons, List.length_nil, List.replicate, List.cons_append, List.nil_append, List.append_nil, reduceIte, Bool.not_true, Bool.not_false, Bool.false_eq_true, if_true, if_false, true_and, and_true, ite_true, ite_false, Option.map_some, List.set_cons_zero, List.set_cons_succ, dIsi, ↓E_call' h1, fi_is_place_of, yes2]
    exact ⟨_, _, rfl, ⟨w, c, rfl, rfl, ok, mem c hc⟩, hk _ ⟨_, rfl⟩⟩
  · intro i h; cases h
  subst ee
  try simp only [dd_all, un, u_all, wipeE, ↓S_nil, ↓S_cons, ↓S_pass, ↓S_asg, ↓S_asgt, ↓S_par2, ↓S_par3, ↓S_subT, ↓S_expr, ↓S_ret, ↓S_retN, ↓S_ifs, ↓E_var, ↓E_cint, ↓E_cstr, ↓E_cbl, ↓E_cnon, ↓E_glob, ↓E_bin, ↓E_neg, ↓E_cmp, ↓E_chain, ↓E_andn, ↓E_orn, ↓E_notn, ↓E_ife, ↓E_tupn, ↓E_lstn, ↓E_dnew, ↓E_blt, ↓E_meth, ↓E_mut, ↓E_idx, ↓E_slc, ↓E_isi, ↓T_var, ↓T_cint, ↓T_cstr, ↓T_cbl, ↓T_glob, ↓T_bin, ↓T_cmp, ↓T_neg, ↓T_chain, ↓T_call, ↓T_blt, ↓T_meth, ↓T_idx, ↓T_slc, ↓T_isi, ↓T_comp, ↓T_tupn, ↓T_lstn, ↓T_andn, ↓T_orn, ↓T_notn, ↓T_ife, ↓T_nil, ↓O_nil, ↓O_var, ↓O_cint, ↓O_neg, ↓O_bin, ↓O_blt, ↓O_glob, ↓A_nil, ↓A_cons, ↓B_nil, ↓B_cons, ↓C_nil, ↓C_io, ↓C_im, ↓rd_im, ↓rd_fr, ↓rd_bo, ↓fz_im, ↓fz_fr, ↓fz_bo, ↓rds_nil, ↓rds_cons, ↓ret_im, ↓ret_fr, ↓ret_bo, ↓rdC_nil, ↓rdC_im, ↓rdC_fr, ↓rdC_bo, bos_nil, bos_im, bos_fr, bos_bo, nd_nil, nd_one, ↓putB_nil, ↓putB_im, ↓putB_fr, ↓putB_bo, ↓ex_some, ↓ex_int, ↓post_nx, ↓post_rt, tru_bl, tru_int, tru_lst, tru_tup, tru_non, cmp_eq_int, cmp_ne_int, cmp_lt_int, cmp_le_int, cmp_gt_int, cmp_ge_int, cmp_lt_str, finsE, env0, List.getElem?_cons_zero, List.getElem?_cons_succ, List.length_cons, List.length_nil, List.replicate, List.cons_append, List.nil_append, List.append_nil, reduceIte, Bool.not_true, Bool.not_false, Bool.false_eq_true, if_true, if_false, true_and, and_true, ite_true, ite_false, Option.map_some, List.set_cons_zero, List.set_cons_succ, dIsi]
  refine ⟨_, bls_fm _ _, ?_⟩
  rw [all_true]
  try simp only [↓S_nil, ↓S_cons, ↓S_pass, ↓S_asg, ↓S_asgt, ↓S_par2, ↓S_par3, ↓S_subT, ↓S_expr, ↓S_ret, ↓S_retN, ↓S_ifs, ↓E_var, ↓E_cint, ↓E_cstr, ↓E_cbl, ↓E_cnon, ↓E_glob, ↓E_bin, ↓E_neg, ↓E_cmp, ↓E_chain, ↓E_andn, ↓E_orn, ↓E_notn, ↓E_ife, ↓E_tupn, ↓E_lstn, ↓E_dnew, ↓E_blt, ↓E_meth, ↓E_mut, ↓E_idx, ↓E_slc, ↓E_isi, ↓T_var, ↓T_cint, ↓T_cstr, ↓T_cbl, ↓T_glob, ↓T_bin, ↓T_cmp, ↓T_neg, ↓T_chain, ↓T_call, ↓T_blt, ↓T_meth, ↓T_idx, ↓T_slc, ↓T_isi, ↓T_comp, ↓T_tupn, ↓T_lstn, ↓T_andn, ↓T_orn, ↓T_notn, ↓T_ife, ↓T_nil, ↓O_nil, ↓O_var, ↓O_cint, ↓O_neg, ↓O_bin, ↓O_blt, ↓O_glob, ↓A_nil, ↓A_cons, ↓B_nil, ↓B_cons, ↓C_nil, ↓C_io, ↓C_im, ↓rd_im, ↓rd_fr, ↓rd_bo, ↓fz_im, ↓fz_fr, ↓fz_bo, ↓rds_nil, ↓rds_cons, ↓ret_im, ↓ret_fr, ↓ret_bo, ↓rdC_nil, ↓rdC_im, ↓rdC_fr, ↓rdC_bo, bos_nil, bos_im, bos_fr, bos_bo, nd_nil, nd_one, ↓putB_nil, ↓putB_im, ↓putB_fr, ↓putB_bo, ↓ex_some, ↓ex_int, ↓post_nx, ↓post_rt, tru_bl, tru_int, tru_lst, tru_tup, tru_non, cmp_eq_int, cmp_ne_int, cmp_lt_int, cmp_le_int, cmp_gt_int, cmp_ge_int, cmp_lt_str, finsE, env0, List.getElem?_cons_zero, List.getElem?_cons_succ, List.length_cons, List.length_nil, List.replicate, List.cons_append, List.nil_append, List.append_nil, reduceIte, Bool.not_true, Bool.not_false, Bool.false_eq_true, if_true, if_false, true_and, and_true, ite_true, ite_false, Option.map_some, List.set_cons_zero, List.set_cons_succ, dIsi, ↓E_call' h2, fi_are_rising, yes1]
  exact ⟨_, rfl, ⟨l, .inl rfl, up, hl⟩, [], rfl, q⟩
theorem k_want_lot (Γ : Ga) (h1 : Γ.fn "is_lot_of" = some fi_is_lot_of) : Keeps Γ 2 sm_want_lot fi_want_lot := by
  rintro ds Q E ⟨w, l, rfl, ok, lo, q⟩
  refine ⟨rfl, by decide, ?_⟩
  try simp only [sm_want_lot, fi_want_lot, ↓S_nil, ↓S_cons, ↓S_pass, ↓S_asg, ↓S_asgt, ↓S_par2, ↓S_par3, ↓S_subT, ↓S_expr, ↓S_ret, ↓S_retN, ↓S_ifs, ↓E_var, ↓E_cint, ↓E_cstr, ↓E_cbl, ↓E_cnon, ↓E_glob, ↓E_bin, ↓E_neg, ↓E_cmp, ↓E_chain, ↓E_andn, ↓E_orn, ↓E_notn, ↓E_ife, ↓E_tupn, ↓E_lstn, ↓E_dnew, ↓E_blt, ↓E_meth, ↓E_mut, ↓E_idx, ↓E_slc, ↓E_isi, ↓T_var, ↓T_cint, ↓T_cstr, ↓T_cbl, ↓T_glob, ↓T_bin, ↓T_cmp, ↓T_neg, ↓T_chain, ↓T_call, ↓T_blt, ↓T_meth, ↓T_idx, ↓T_slc, ↓T_isi, ↓T_comp, ↓T_tupn, ↓T_lstn, ↓T_andn, ↓T_orn, ↓T_notn, ↓T_ife, ↓T_nil, ↓O_nil, ↓O_var, ↓O_cint, ↓O_neg, ↓O_bin, ↓O_blt, ↓O_glob, ↓A_nil, ↓A_cons, ↓B_nil, ↓B_cons, ↓C_nil, ↓C_io, ↓C_im, ↓rd_im, ↓rd_fr, ↓rd_bo, ↓fz_im, ↓fz_fr, ↓fz_bo, ↓rds_nil, ↓rds_cons, ↓ret_im, ↓ret_fr, ↓ret_bo, ↓rdC_nil, ↓rdC_im, ↓rdC_fr, ↓rdC_bo, bos_nil, bos_im, bos_fr, bos_bo, nd_nil, nd_one, ↓putB_nil, ↓putB_im, ↓putB_fr, ↓putB_bo, ↓ex_some, ↓ex_int, ↓post_nx, ↓post_rt, tru_bl, tru_int, tru_lst, tru_tup, tru_non, cmp_eq_int, cmp_ne_int, cmp_lt_int, cmp_le_int, cmp_gt_int, cmp_ge_int, cmp_lt_str, finsE, env0, List.getElem?_cons_zero, List.getElem?_cons_succ, List.length_cons, List.length_nil, List.replicate, List.cons_append, List.nil_append, List.append_nil, reduceIte, Bool.not_true, Bool.not_false, Bool.false_eq_true, if_true, if_false, true_and, and_true, ite_true, ite_false, Option.map_some, List.set_cons_zero, List.set_cons_succ, dIsi, ↓E_call' h1, fi_is_lot_of, yes2]
  exact ⟨_, _, rfl, ⟨w, l, rfl, rfl, ok, lo⟩, q⟩
def roomSum (w : Web) (l : List Str) : Int := ((rowsOf w l).map (·.r)).sum
def restOf (w : Web) (l : List Str) : List Str := w.ps.filter fun p => !decide (p ∈ l)
def fnWL (lo : Bool) (f : Web → List Str → D) : FI := { io := [false, false], sp := fun ds Q _ => ∃ w l, ds = [webD w, lotD l] ∧ WebOk w ∧ (lo = true → LotOk w l) ∧ Q (.im (f w l)) [] }
def fi_room_sum : FI := fnWL false fun w l => .int (roomSum w l)
def fi_rest_of : FI := fnWL false fun w l => lotD (restOf w l)
def fi_ties_of : FI := fnWL true fun w l => lotD ((rowsOf w l).map (·.t))
def fi_lot_room : FI := fnWL true fun w l => .int (roomSum w l)
def fi_other_side : FI := fnWL true fun w l => lotD (restOf w l)
def rowR : D → Option D
  | .tup [_, _, _, x] => some x
  | _ => none
theorem ints_rows : ∀ rows : List Row, intsD (rows.map fun r => .int r.r) = some (rows.map (·.r))
  | [] => rfl
  | r :: rows => by rw [List.map_cons, List.map_cons, intsD, ints_rows rows]; rfl
theorem rows_len (w : Web) (l : List Str) (ok : WebOk w) : ((rowsOf w l).map rowD).length ≤ sizeLine := by
  rw [List.length_map, PySem.sizeLine_eq]
  have := List.length_filter_le (leav l) w.rows
  have := ok.rl
  unfold rowsOf
  omega
theorem k_room_sum (Γ : Ga) (h1 : Γ.fn "rows_of" = some fi_rows_of) : Keeps Γ 3 sm_room_sum fi_room_sum := by
  rintro ds Q E ⟨w, l, rfl, ok, _, q⟩
  refine ⟨rfl, by decide, ?_⟩
  try simp only [sm_room_sum, fi_room_sum, fnWL, ↓S_nil, ↓S_cons, ↓S_pass, ↓S_asg, ↓S_asgt, ↓S_par2, ↓S_par3, ↓S_subT, ↓S_expr, ↓S_ret, ↓S_retN, ↓S_ifs, ↓E_var, ↓E_cint, ↓E_cstr, ↓E_cbl, ↓E_cnon, ↓E_glob, ↓E_bin, ↓E_neg, ↓E_cmp, ↓E_chain, ↓E_andn, ↓E_orn, ↓E_notn, ↓E_ife, ↓E_tupn, ↓E_lstn, ↓E_dnew, ↓E_blt, ↓E_meth, ↓E_mut, ↓E_idx, ↓E_slc, ↓E_isi, ↓T_var, ↓T_cint, ↓T_cstr, ↓T_cbl, ↓T_glob, ↓T_bin, ↓T_cmp, ↓T_neg, ↓T_chain, ↓T_call, ↓T_blt, ↓T_meth, ↓T_idx, ↓T_slc, ↓T_isi, ↓T_comp, ↓T_tupn, ↓T_lstn, ↓T_andn, ↓T_orn, ↓T_notn, ↓T_ife, ↓T_nil, ↓O_nil, ↓O_var, ↓O_cint, ↓O_neg, ↓O_bin, ↓O_blt, ↓O_glob, ↓A_nil, ↓A_cons, ↓B_nil, ↓B_cons, ↓C_nil, ↓C_io, ↓C_im, ↓rd_im, ↓rd_fr, ↓rd_bo, ↓fz_im, ↓fz_fr, ↓fz_bo, ↓rds_nil, ↓rds_cons, ↓ret_im, ↓ret_fr, ↓ret_bo, ↓rdC_nil, ↓rdC_im, ↓rdC_fr, ↓rdC_bo, bos_nil, bos_im, bos_fr, bos_bo, nd_nil, nd_one, ↓putB_nil, ↓putB_im, ↓putB_fr, ↓putB_bo, ↓ex_some, ↓ex_int, ↓post_nx, ↓post_rt, tru_bl, tru_int, tru_lst, tru_tup, tru_non, cmp_eq_int, cmp_ne_int, cmp_lt_int, cmp_le_int, cmp_gt_int, cmp_ge_int, cmp_lt_str, finsE, env0, List.getElem?_cons_zero, List.getElem?_cons_succ, List.length_cons, List.length_nil, List.replicate, List.cons_append, List.nil_append, List.append_nil, reduceIte, Bool.not_true, Bool.not_false, Bool.false_eq_true, if_true, if_false, true_and, and_true, ite_true, ite_false, Option.map_some, List.set_cons_zero, List.set_cons_succ, dIsi, dBlt, ↓E_comp, ↓I_call, ↓E_call' h1, fi_rows_of]
  refine ⟨w, l, rfl, ok, ?_⟩
  try simp only [↓S_nil, ↓S_cons, ↓S_pass, ↓S_asg, ↓S_asgt, ↓S_par2, ↓S_par3, ↓S_subT, ↓S_expr, ↓S_ret, ↓S_retN, ↓S_ifs, ↓E_var, ↓E_cint, ↓E_cstr, ↓E_cbl, ↓E_cnon, ↓E_glob, ↓E_bin, ↓E_neg, ↓E_cmp, ↓E_chain, ↓E_andn, ↓E_orn, ↓E_notn, ↓E_ife, ↓E_tupn, ↓E_lstn, ↓E_dnew, ↓E_blt, ↓E_meth, ↓E_mut, ↓E_idx, ↓E_slc, ↓E_isi, ↓T_var, ↓T_cint, ↓T_cstr, ↓T_cbl, ↓T_glob, ↓T_bin, ↓T_cmp, ↓T_neg, ↓T_chain, ↓T_call, ↓T_blt, ↓T_meth, ↓T_idx, ↓T_slc, ↓T_isi, ↓T_comp, ↓T_tupn, ↓T_lstn, ↓T_andn, ↓T_orn, ↓T_notn, ↓T_ife, ↓T_nil, ↓O_nil, ↓O_var, ↓O_cint, ↓O_neg, ↓O_bin, ↓O_blt, ↓O_glob, ↓A_nil, ↓A_cons, ↓B_nil, ↓B_cons, ↓C_nil, ↓C_io, ↓C_im, ↓rd_im, ↓rd_fr, ↓rd_bo, ↓fz_im, ↓fz_fr, ↓fz_bo, ↓rds_nil, ↓rds_cons, ↓ret_im, ↓ret_fr, ↓ret_bo, ↓rdC_nil, ↓rdC_im, ↓rdC_fr, ↓rdC_bo, bos_nil, bos_im, bos_fr, bos_bo, nd_nil, nd_one, ↓putB_nil, ↓putB_im, ↓putB_fr, ↓putB_bo, ↓ex_some, ↓ex_int, ↓post_nx, ↓post_rt, tru_bl, tru_int, tru_lst, tru_tup, tru_non, cmp_eq_int, cmp_ne_int, cmp_lt_int, cmp_le_int, cmp_gt_int, cmp_ge_int, cmp_lt_str, finsE, env0, List.getElem?_cons_zero, List.getElem?_cons_succ, List.length_cons, List.length_nil, List.replicate, List.cons_append, List.nil_append, List.append_nil, reduceIte, Bool.not_true, Bool.not_false, Bool.false_eq_true, if_true, if_false, true_and, and_true, ite_true, ite_false, Option.map_some, List.set_cons_zero, List.set_cons_succ, dIsi, ↓srcR_fr, itD]
  refine ⟨rows_len w l ok, compW_map rowR (fun e => ∃ s, e = [.im (webD w), .im (lotD l), s]) (fun e ⟨s, e'⟩ => ?_) (fun d hd e k ⟨s, e'⟩ hk => ?_) ⟨_, rfl⟩ fun e' ⟨s, ee⟩ => ?_⟩
  · subst e'
    obtain ⟨c, hc, rfl⟩ := List.mem_map.mp hd
    try simp only [cturn, bindT, wipeE, stS, rowD, ↓S_nil, ↓S_cons, ↓S_pass, ↓S_asg, ↓S_asgt, ↓S_par2, ↓S_par3, ↓S_subT, ↓S_expr, ↓S_ret, ↓S_retN, ↓S_ifs, ↓E_var, ↓E_cint, ↓E_cstr, ↓E_cbl, ↓E_cnon, ↓E_glob, ↓E_bin, ↓E_neg, ↓E_cmp, ↓E_chain, ↓E_andn, ↓E_orn, ↓E_notn, ↓E_ife, ↓E_tupn, ↓E_lstn, ↓E_dnew, ↓E_blt, ↓E_meth, ↓E_mut, ↓E_idx, ↓E_slc, ↓E_isi, ↓T_var, ↓T_cint, ↓T_cstr, ↓T_cbl, ↓T_glob, ↓T_bin, ↓T_cmp, ↓T_neg, ↓T_chain, ↓T_call, ↓T_blt, ↓T_meth, ↓T_idx, ↓T_slc, ↓T_isi, ↓T_comp, ↓T_tupn, ↓T_lstn, ↓T_andn, ↓T_orn, ↓T_notn, ↓T_ife, ↓T_nil, ↓O_nil, ↓O_var, ↓O_cint, ↓O_neg, ↓O_bin, ↓O_blt, ↓O_glob, ↓A_nil, ↓A_cons, ↓B_nil, ↓B_cons, ↓C_nil, ↓C_io, ↓C_im, ↓rd_im, ↓rd_fr, ↓rd_bo, ↓fz_im, ↓fz_fr, ↓fz_bo, ↓rds_nil, ↓rds_cons, ↓ret_im, ↓ret_fr, ↓ret_bo, ↓rdC_nil, ↓rdC_im, ↓rdC_fr, ↓rdC_bo, bos_nil, bos_im, bos_fr, bos_bo, nd_nil, nd_one, ↓putB_nil, ↓putB_im, ↓putB_fr, ↓putB_bo, ↓ex_some, ↓ex_int, ↓post_nx, ↓post_rt, tru_bl, tru_int, tru_lst, tru_tup, tru_non, cmp_eq_int, cmp_ne_int, cmp_lt_int, cmp_le_int, cmp_gt_int, cmp_ge_int, cmp_lt_str, finsE, env0, List.getElem?_cons_zero, List.getElem?_cons_succ, List.length_cons, List.length_nil, List.replicate, List.cons_append, List.nil_append, List.append_nil, reduceIte, Bool.not_true, Bool.not_false, Bool.false_eq_true, if_true, if_false, true_and, and_true, ite_true, ite_false, Option.map_some, List.set_cons_zero, List.set_cons_succ, dIsi, dIdx, at3]
    exact hk _ ⟨_, rfl⟩
  · intro i h; cases h
  subst ee
  try simp only [dd_sum, un, u_sum, wipeE, ↓S_nil, ↓S_cons, ↓S_pass, ↓S_asg, ↓S_asgt, ↓S_par2, ↓S_par3, ↓S_subT, ↓S_expr, ↓S_ret, ↓S_retN, ↓S_ifs, ↓E_var, ↓E_cint, ↓E_cstr, ↓E_cbl, ↓E_cnon, ↓E_glob, ↓E_bin, ↓E_neg, ↓E_cmp, ↓E_chain, ↓E_andn, ↓E_orn, ↓E_notn, ↓E_ife, ↓E_tupn, ↓E_lstn, ↓E_dnew, ↓E_blt, ↓E_meth, ↓E_mut, ↓E_idx, ↓E_slc, ↓E_isi, ↓T_var, ↓T_cint, ↓T_cstr, ↓T_cbl, ↓T_glob, ↓T_bin, ↓T_cmp, ↓T_neg, ↓T_chain, ↓T_call, ↓T_blt, ↓T_meth, ↓T_idx, ↓T_slc, ↓T_isi, ↓T_comp, ↓T_tupn, ↓T_lstn, ↓T_andn, ↓T_orn, ↓T_notn, ↓T_ife, ↓T_nil, ↓O_nil, ↓O_var, ↓O_cint, ↓O_neg, ↓O_bin, ↓O_blt, ↓O_glob, ↓A_nil, ↓A_cons, ↓B_nil, ↓B_cons, ↓C_nil, ↓C_io, ↓C_im, ↓rd_im, ↓rd_fr, ↓rd_bo, ↓fz_im, ↓fz_fr, ↓fz_bo, ↓rds_nil, ↓rds_cons, ↓ret_im, ↓ret_fr, ↓ret_bo, ↓rdC_nil, ↓rdC_im, ↓rdC_fr, ↓rdC_bo, bos_nil, bos_im, bos_fr, bos_bo, nd_nil, nd_one, ↓putB_nil, ↓putB_im, ↓putB_fr, ↓putB_bo, ↓ex_some, ↓ex_int, ↓post_nx, ↓post_rt, tru_bl, tru_int, tru_lst, tru_tup, tru_non, cmp_eq_int, cmp_ne_int, cmp_lt_int, cmp_le_int, cmp_gt_int, cmp_ge_int, cmp_lt_str, finsE, env0, List.getElem?_cons_zero, List.getElem?_cons_succ, List.length_cons, List.length_nil, List.replicate, List.cons_append, List.nil_append, List.append_nil, reduceIte, Bool.not_true, Bool.not_false, Bool.false_eq_true, if_true, if_false, true_and, and_true, ite_true, ite_false, Option.map_some, List.set_cons_zero, List.set_cons_succ, dIsi]
  exact ⟨_, by rw [filterMap_row (f := fun r => .int r.r) fun r => rfl]; exact ints_rows _, by first | exact q | exact ⟨[], rfl, q⟩⟩
def outS (l : List Str) : D → Option D
  | .str x => if x ∈ l then none else some (.str x)
  | _ => none
theorem k_rest_of (Γ : Ga) : Keeps Γ 3 sm_rest_of fi_rest_of := by
  rintro ds Q E ⟨w, l, rfl, ok, _, q⟩
  refine ⟨rfl, by decide, ?_⟩
  have hl : w.ps.length ≤ sizeLine := by have := ok.pl; rw [PySem.sizeLine_eq]; omega
  try simp only [sm_rest_of, fi_rest_of, fnWL, webD, ↓S_nil, ↓S_cons, ↓S_pass, ↓S_asg, ↓S_asgt, ↓S_par2, ↓S_par3, ↓S_subT, ↓S_expr, ↓S_ret, ↓S_retN, ↓S_ifs, ↓E_var, ↓E_cint, ↓E_cstr, ↓E_cbl, ↓E_cnon, ↓E_glob, ↓E_bin, ↓E_neg, ↓E_cmp, ↓E_chain, ↓E_andn, ↓E_orn, ↓E_notn, ↓E_ife, ↓E_tupn, ↓E_lstn, ↓E_dnew, ↓E_blt, ↓E_meth, ↓E_mut, ↓E_idx, ↓E_slc, ↓E_isi, ↓T_var, ↓T_cint, ↓T_cstr, ↓T_cbl, ↓T_glob, ↓T_bin, ↓T_cmp, ↓T_neg, ↓T_chain, ↓T_call, ↓T_blt, ↓T_meth, ↓T_idx, ↓T_slc, ↓T_isi, ↓T_comp, ↓T_tupn, ↓T_lstn, ↓T_andn, ↓T_orn, ↓T_notn, ↓T_ife, ↓T_nil, ↓O_nil, ↓O_var, ↓O_cint, ↓O_neg, ↓O_bin, ↓O_blt, ↓O_glob, ↓A_nil, ↓A_cons, ↓B_nil, ↓B_cons, ↓C_nil, ↓C_io, ↓C_im, ↓rd_im, ↓rd_fr, ↓rd_bo, ↓fz_im, ↓fz_fr, ↓fz_bo, ↓rds_nil, ↓rds_cons, ↓ret_im, ↓ret_fr, ↓ret_bo, ↓rdC_nil, ↓rdC_im, ↓rdC_fr, ↓rdC_bo, bos_nil, bos_im, bos_fr, bos_bo, nd_nil, nd_one, ↓putB_nil, ↓putB_im, ↓putB_fr, ↓putB_bo, ↓ex_some, ↓ex_int, ↓post_nx, ↓post_rt, tru_bl, tru_int, tru_lst, tru_tup, tru_non, cmp_eq_int, cmp_ne_int, cmp_lt_int, cmp_le_int, cmp_gt_int, cmp_ge_int, cmp_lt_str, finsE, env0, List.getElem?_cons_zero, List.getElem?_cons_succ, List.length_cons, List.length_nil, List.replicate, List.cons_append, List.nil_append, List.append_nil, reduceIte, Bool.not_true, Bool.not_false, Bool.false_eq_true, if_true, if_false, true_and, and_true, ite_true, ite_false, Option.map_some, List.set_cons_zero, List.set_cons_succ, dIsi, dBlt, ↓E_comp, ↓I_idx, dIdx, at0, ↓srcR_im, itD]
  refine ⟨by rw [List.length_map]; exact hl, compW_map (outS l) (fun e => ∃ s, e = [.im (webD w), .im (lotD l), s]) (fun e ⟨s, e'⟩ => ?_) (fun d hd e k ⟨s, e'⟩ hk => ?_) ⟨_, rfl⟩ fun e' ⟨s, ee⟩ => ?_⟩
  · subst e'
    obtain ⟨c, hc, rfl⟩ := List.mem_map.mp hd
    try simp only [cturn, bindT, wipeE, stS, lotD, ↓S_nil, ↓S_cons, ↓S_pass, ↓S_asg, ↓S_asgt, ↓S_par2, ↓S_par3, ↓S_subT, ↓S_expr, ↓S_ret, ↓S_retN, ↓S_ifs, ↓E_var, ↓E_cint, ↓E_cstr, ↓E_cbl, ↓E_cnon, ↓E_glob, ↓E_bin, ↓E_neg, ↓E_cmp, ↓E_chain, ↓E_andn, ↓E_orn, ↓E_notn, ↓E_ife, ↓E_tupn, ↓E_lstn, ↓E_dnew, ↓E_blt, ↓E_meth, ↓E_mut, ↓E_idx, ↓E_slc, ↓E_isi, ↓T_var, ↓T_cint, ↓T_cstr, ↓T_cbl, ↓T_glob, ↓T_bin, ↓T_cmp, ↓T_neg, ↓T_chain, ↓T_call, ↓T_blt, ↓T_meth, ↓T_idx, ↓T_slc, ↓T_isi, ↓T_comp, ↓T_tupn, ↓T_lstn, ↓T_andn, ↓T_orn, ↓T_notn, ↓T_ife, ↓T_nil, ↓O_nil, ↓O_var, ↓O_cint, ↓O_neg, ↓O_bin, ↓O_blt, ↓O_glob, ↓A_nil, ↓A_cons, ↓B_nil, ↓B_cons, ↓C_nil, ↓C_io, ↓C_im, ↓rd_im, ↓rd_fr, ↓rd_bo, ↓fz_im, ↓fz_fr, ↓fz_bo, ↓rds_nil, ↓rds_cons, ↓ret_im, ↓ret_fr, ↓ret_bo, ↓rdC_nil, ↓rdC_im, ↓rdC_fr, ↓rdC_bo, bos_nil, bos_im, bos_fr, bos_bo, nd_nil, nd_one, ↓putB_nil, ↓putB_im, ↓putB_fr, ↓putB_bo, ↓ex_some, ↓ex_int, ↓post_nx, ↓post_rt, tru_bl, tru_int, tru_lst, tru_tup, tru_non, cmp_eq_int, cmp_ne_int, cmp_lt_int, cmp_le_int, cmp_gt_int, cmp_ge_int, cmp_lt_str, finsE, env0, List.getElem?_cons_zero, List.getElem?_cons_succ, List.length_cons, List.length_nil, List.replicate, List.cons_append, List.nil_append, List.append_nil, reduceIte, Bool.not_true, Bool.not_false, Bool.false_eq_true, if_true, if_false, true_and, and_true, ite_true, ite_false, Option.map_some, List.set_cons_zero, List.set_cons_succ, dIsi, notin_strs]
    by_cases hm : c ∈ l
    · rw [decide_eq_true hm]
      try simp only [↓S_nil, ↓S_cons, ↓S_pass, ↓S_asg, ↓S_asgt, ↓S_par2, ↓S_par3, ↓S_subT, ↓S_expr, ↓S_ret, ↓S_retN, ↓S_ifs, ↓E_var, ↓E_cint, ↓E_cstr, ↓E_cbl, ↓E_cnon, ↓E_glob, ↓E_bin, ↓E_neg, ↓E_cmp, ↓E_chain, ↓E_andn, ↓E_orn, ↓E_notn, ↓E_ife, ↓E_tupn, ↓E_lstn, ↓E_dnew, ↓E_blt, ↓E_meth, ↓E_mut, ↓E_idx, ↓E_slc, ↓E_isi, ↓T_var, ↓T_cint, ↓T_cstr, ↓T_cbl, ↓T_glob, ↓T_bin, ↓T_cmp, ↓T_neg, ↓T_chain, ↓T_call, ↓T_blt, ↓T_meth, ↓T_idx, ↓T_slc, ↓T_isi, ↓T_comp, ↓T_tupn, ↓T_lstn, ↓T_andn, ↓T_orn, ↓T_notn, ↓T_ife, ↓T_nil, ↓O_nil, ↓O_var, ↓O_cint, ↓O_neg, ↓O_bin, ↓O_blt, ↓O_glob, ↓A_nil, ↓A_cons, ↓B_nil, ↓B_cons, ↓C_nil, ↓C_io, ↓C_im, ↓rd_im, ↓rd_fr, ↓rd_bo, ↓fz_im, ↓fz_fr, ↓fz_bo, ↓rds_nil, ↓rds_cons, ↓ret_im, ↓ret_fr, ↓ret_bo, ↓rdC_nil, ↓rdC_im, ↓rdC_fr, ↓rdC_bo, bos_nil, bos_im, bos_fr, bos_bo, nd_nil, nd_one, ↓putB_nil, ↓putB_im, ↓putB_fr, ↓putB_bo, ↓ex_some, ↓ex_int, ↓post_nx, ↓post_rt, tru_bl, tru_int, tru_lst, tru_tup, tru_non, cmp_eq_int, cmp_ne_int, cmp_lt_int, cmp_le_int, cmp_gt_int, cmp_ge_int, cmp_lt_str, finsE, env0, List.getElem?_cons_zero, List.getElem?_cons_succ, List.length_cons, List.length_nil, List.replicate, List.cons_append, List.nil_append, List.append_nil, reduceIte, Bool.not_true, Bool.not_false, Bool.false_eq_true, if_true, if_false, true_and, and_true, ite_true, ite_false, Option.map_some, List.set_cons_zero, List.set_cons_succ, dIsi]
      have := hk [.im (webD w), .im (lotD l), .im (.str c)] ⟨_, rfl⟩
      rwa [show outS l (.str c) = none from if_pos hm] at this
    · rw [decide_eq_false hm]
      try simp only [↓S_nil, ↓S_cons, ↓S_pass, ↓S_asg, ↓S_asgt, ↓S_par2, ↓S_par3, ↓S_subT, ↓S_expr, ↓S_ret, ↓S_retN, ↓S_ifs, ↓E_var, ↓E_cint, ↓E_cstr, ↓E_cbl, ↓E_cnon, ↓E_glob, ↓E_bin, ↓E_neg, ↓E_cmp, ↓E_chain, ↓E_andn, ↓E_orn, ↓E_notn, ↓E_ife, ↓E_tupn, ↓E_lstn, ↓E_dnew, ↓E_blt, ↓E_meth, ↓E_mut, ↓E_idx, ↓E_slc, ↓E_isi, ↓T_var, ↓T_cint, ↓T_cstr, ↓T_cbl, ↓T_glob, ↓T_bin, ↓T_cmp, ↓T_neg, ↓T_chain, ↓T_call, ↓T_blt, ↓T_meth, ↓T_idx, ↓T_slc, ↓T_isi, ↓T_comp, ↓T_tupn, ↓T_lstn, ↓T_andn, ↓T_orn, ↓T_notn, ↓T_ife, ↓T_nil, ↓O_nil, ↓O_var, ↓O_cint, ↓O_neg, ↓O_bin, ↓O_blt, ↓O_glob, ↓A_nil, ↓A_cons, ↓B_nil, ↓B_cons, ↓C_nil, ↓C_io, ↓C_im, ↓rd_im, ↓rd_fr, ↓rd_bo, ↓fz_im, ↓fz_fr, ↓fz_bo, ↓rds_nil, ↓rds_cons, ↓ret_im, ↓ret_fr, ↓ret_bo, ↓rdC_nil, ↓rdC_im, ↓rdC_fr, ↓rdC_bo, bos_nil, bos_im, bos_fr, bos_bo, nd_nil, nd_one, ↓putB_nil, ↓putB_im, ↓putB_fr, ↓putB_bo, ↓ex_some, ↓ex_int, ↓post_nx, ↓post_rt, tru_bl, tru_int, tru_lst, tru_tup, tru_non, cmp_eq_int, cmp_ne_int, cmp_lt_int, cmp_le_int, cmp_gt_int, cmp_ge_int, cmp_lt_str, finsE, env0, List.getElem?_cons_zero, List.getElem?_cons_succ, List.length_cons, List.length_nil, List.replicate, List.cons_append, List.nil_append, List.append_nil, reduceIte, Bool.not_true, Bool.not_false, Bool.false_eq_true, if_true, if_false, true_and, and_true, ite_true, ite_false, Option.map_some, List.set_cons_zero, List.set_cons_succ, dIsi]
      have := hk [.im (webD w), .im (lotD l), .im (.str c)] ⟨_, rfl⟩
      rwa [show outS l (.str c) = some (.str c) from if_neg hm] at this
  · intro i h; cases h
  subst ee
  try simp only [dd_tuple, un, u_tuple, wipeE, ↓S_nil, ↓S_cons, ↓S_pass, ↓S_asg, ↓S_asgt, ↓S_par2, ↓S_par3, ↓S_subT, ↓S_expr, ↓S_ret, ↓S_retN, ↓S_ifs, ↓E_var, ↓E_cint, ↓E_cstr, ↓E_cbl, ↓E_cnon, ↓E_glob, ↓E_bin, ↓E_neg, ↓E_cmp, ↓E_chain, ↓E_andn, ↓E_orn, ↓E_notn, ↓E_ife, ↓E_tupn, ↓E_lstn, ↓E_dnew, ↓E_blt, ↓E_meth, ↓E_mut, ↓E_idx, ↓E_slc, ↓E_isi, ↓T_var, ↓T_cint, ↓T_cstr, ↓T_cbl, ↓T_glob, ↓T_bin, ↓T_cmp, ↓T_neg, ↓T_chain, ↓T_call, ↓T_blt, ↓T_meth, ↓T_idx, ↓T_slc, ↓T_isi, ↓T_comp, ↓T_tupn, ↓T_lstn, ↓T_andn, ↓T_orn, ↓T_notn, ↓T_ife, ↓T_nil, ↓O_nil, ↓O_var, ↓O_cint, ↓O_neg, ↓O_bin, ↓O_blt, ↓O_glob, ↓A_nil, ↓A_cons, ↓B_nil, ↓B_cons, ↓C_nil, ↓C_io, ↓C_im, ↓rd_im, ↓rd_fr, ↓rd_bo, ↓fz_im, ↓fz_fr, ↓fz_bo, ↓rds_nil, ↓rds_cons, ↓ret_im, ↓ret_fr, ↓ret_bo, ↓rdC_nil, ↓rdC_im, ↓rdC_fr, ↓rdC_bo, bos_nil, bos_im, bos_fr, bos_bo, nd_nil, nd_one, ↓putB_nil, ↓putB_im, ↓putB_fr, ↓putB_bo, ↓ex_some, ↓ex_int, ↓post_nx, ↓post_rt, tru_bl, tru_int, tru_lst, tru_tup, tru_non, cmp_eq_int, cmp_ne_int, cmp_lt_int, cmp_le_int, cmp_gt_int, cmp_ge_int, cmp_lt_str, finsE, env0, List.getElem?_cons_zero, List.getElem?_cons_succ, List.length_cons, List.length_nil, List.replicate, List.cons_append, List.nil_append, List.append_nil, reduceIte, Bool.not_true, Bool.not_false, Bool.false_eq_true, if_true, if_false, true_and, and_true, ite_true, ite_false, Option.map_some, List.set_cons_zero, List.set_cons_succ, dIsi]
  have e : (w.ps.map D.str).filterMap (outS l) = (restOf w l).map .str := by
    unfold restOf
    induction w.ps with
    | nil => rfl
    | cons p ps ih =>
      rw [List.map_cons, List.filterMap_cons, List.filter_cons]
      by_cases hm : p ∈ l
      · rw [show outS l (.str p) = none from if_pos hm, decide_eq_true hm]; exact ih
      · rw [show outS l (.str p) = some (.str p) from if_neg hm, decide_eq_false hm, ih]; rfl
  rw [e]
  exact q
theorem k_lot_room (Γ : Ga) (h1 : Γ.fn "want_web" = some fi_want_web) (h2 : Γ.fn "want_lot" = some fi_want_lot) (h3 : Γ.fn "room_sum" = some fi_room_sum) : Keeps Γ 2 sm_lot_room fi_lot_room := by
  rintro ds Q E ⟨w, l, rfl, ok, lo, q⟩
  refine ⟨rfl, by decide, ?_⟩
  have lo := lo rfl
  try simp only [sm_lot_room, fi_lot_room, fnWL, ↓S_nil, ↓S_cons, ↓S_pass, ↓S_asg, ↓S_asgt, ↓S_par2, ↓S_par3, ↓S_subT, ↓S_expr, ↓S_ret, ↓S_retN, ↓S_ifs, ↓E_var, ↓E_cint, ↓E_cstr, ↓E_cbl, ↓E_cnon, ↓E_glob, ↓E_bin, ↓E_neg, ↓E_cmp, ↓E_chain, ↓E_andn, ↓E_orn, ↓E_notn, ↓E_ife, ↓E_tupn, ↓E_lstn, ↓E_dnew, ↓E_blt, ↓E_meth, ↓E_mut, ↓E_idx, ↓E_slc, ↓E_isi, ↓T_var, ↓T_cint, ↓T_cstr, ↓T_cbl, ↓T_glob, ↓T_bin, ↓T_cmp, ↓T_neg, ↓T_chain, ↓T_call, ↓T_blt, ↓T_meth, ↓T_idx, ↓T_slc, ↓T_isi, ↓T_comp, ↓T_tupn, ↓T_lstn, ↓T_andn, ↓T_orn, ↓T_notn, ↓T_ife, ↓T_nil, ↓O_nil, ↓O_var, ↓O_cint, ↓O_neg, ↓O_bin, ↓O_blt, ↓O_glob, ↓A_nil, ↓A_cons, ↓B_nil, ↓B_cons, ↓C_nil, ↓C_io, ↓C_im, ↓rd_im, ↓rd_fr, ↓rd_bo, ↓fz_im, ↓fz_fr, ↓fz_bo, ↓rds_nil, ↓rds_cons, ↓ret_im, ↓ret_fr, ↓ret_bo, ↓rdC_nil, ↓rdC_im, ↓rdC_fr, ↓rdC_bo, bos_nil, bos_im, bos_fr, bos_bo, nd_nil, nd_one, ↓putB_nil, ↓putB_im, ↓putB_fr, ↓putB_bo, ↓ex_some, ↓ex_int, ↓post_nx, ↓post_rt, tru_bl, tru_int, tru_lst, tru_tup, tru_non, cmp_eq_int, cmp_ne_int, cmp_lt_int, cmp_le_int, cmp_gt_int, cmp_ge_int, cmp_lt_str, finsE, env0, List.getElem?_cons_zero, List.getElem?_cons_succ, List.length_cons, List.length_nil, List.replicate, List.cons_append, List.nil_append, List.append_nil, reduceIte, Bool.not_true, Bool.not_false, Bool.false_eq_true, if_true, if_false, true_and, and_true, ite_true, ite_false, Option.map_some, List.set_cons_zero, List.set_cons_succ, dIsi, ↓E_call' h1, fi_want_web]
  refine ⟨w, rfl, ok, ?_⟩
  try simp only [↓S_nil, ↓S_cons, ↓S_pass, ↓S_asg, ↓S_asgt, ↓S_par2, ↓S_par3, ↓S_subT, ↓S_expr, ↓S_ret, ↓S_retN, ↓S_ifs, ↓E_var, ↓E_cint, ↓E_cstr, ↓E_cbl, ↓E_cnon, ↓E_glob, ↓E_bin, ↓E_neg, ↓E_cmp, ↓E_chain, ↓E_andn, ↓E_orn, ↓E_notn, ↓E_ife, ↓E_tupn, ↓E_lstn, ↓E_dnew, ↓E_blt, ↓E_meth, ↓E_mut, ↓E_idx, ↓E_slc, ↓E_isi, ↓T_var, ↓T_cint, ↓T_cstr, ↓T_cbl, ↓T_glob, ↓T_bin, ↓T_cmp, ↓T_neg, ↓T_chain, ↓T_call, ↓T_blt, ↓T_meth, ↓T_idx, ↓T_slc, ↓T_isi, ↓T_comp, ↓T_tupn, ↓T_lstn, ↓T_andn, ↓T_orn, ↓T_notn, ↓T_ife, ↓T_nil, ↓O_nil, ↓O_var, ↓O_cint, ↓O_neg, ↓O_bin, ↓O_blt, ↓O_glob, ↓A_nil, ↓A_cons, ↓B_nil, ↓B_cons, ↓C_nil, ↓C_io, ↓C_im, ↓rd_im, ↓rd_fr, ↓rd_bo, ↓fz_im, ↓fz_fr, ↓fz_bo, ↓rds_nil, ↓rds_cons, ↓ret_im, ↓ret_fr, ↓ret_bo, ↓rdC_nil, ↓rdC_im, ↓rdC_fr, ↓rdC_bo, bos_nil, bos_im, bos_fr, bos_bo, nd_nil, nd_one, ↓putB_nil, ↓putB_im, ↓putB_fr, ↓putB_bo, ↓ex_some, ↓ex_int, ↓post_nx, ↓post_rt, tru_bl, tru_int, tru_lst, tru_tup, tru_non, cmp_eq_int, cmp_ne_int, cmp_lt_int, cmp_le_int, cmp_gt_int, cmp_ge_int, cmp_lt_str, finsE, env0, List.getElem?_cons_zero, List.getElem?_cons_succ, List.length_cons, List.length_nil, List.replicate, List.cons_append, List.nil_append, List.append_nil, reduceIte, Bool.not_true, Bool.not_false, Bool.false_eq_true, if_true, if_false, true_and, and_true, ite_true, ite_false, Option.map_some, List.set_cons_zero, List.set_cons_succ, dIsi, ↓E_call' h2, fi_want_lot]
  refine ⟨w, l, rfl, ok, lo, ?_⟩
  try simp only [↓S_nil, ↓S_cons, ↓S_pass, ↓S_asg, ↓S_asgt, ↓S_par2, ↓S_par3, ↓S_subT, ↓S_expr, ↓S_ret, ↓S_retN, ↓S_ifs, ↓E_var, ↓E_cint, ↓E_cstr, ↓E_cbl, ↓E_cnon, ↓E_glob, ↓E_bin, ↓E_neg, ↓E_cmp, ↓E_chain, ↓E_andn, ↓E_orn, ↓E_notn, ↓E_ife, ↓E_tupn, ↓E_lstn, ↓E_dnew, ↓E_blt, ↓E_meth, ↓E_mut, ↓E_idx, ↓E_slc, ↓E_isi, ↓T_var, ↓T_cint, ↓T_cstr, ↓T_cbl, ↓T_glob, ↓T_bin, ↓T_cmp, ↓T_neg, ↓T_chain, ↓T_call, ↓T_blt, ↓T_meth, ↓T_idx, ↓T_slc, ↓T_isi, ↓T_comp, ↓T_tupn, ↓T_lstn, ↓T_andn, ↓T_orn, ↓T_notn, ↓T_ife, ↓T_nil, ↓O_nil, ↓O_var, ↓O_cint, ↓O_neg, ↓O_bin, ↓O_blt, ↓O_glob, ↓A_nil, ↓A_cons, ↓B_nil, ↓B_cons, ↓C_nil, ↓C_io, ↓C_im, ↓rd_im, ↓rd_fr, ↓rd_bo, ↓fz_im, ↓fz_fr, ↓fz_bo, ↓rds_nil, ↓rds_cons, ↓ret_im, ↓ret_fr, ↓ret_bo, ↓rdC_nil, ↓rdC_im, ↓rdC_fr, ↓rdC_bo, bos_nil, bos_im, bos_fr, bos_bo, nd_nil, nd_one, ↓putB_nil, ↓putB_im, ↓putB_fr, ↓putB_bo, ↓ex_some, ↓ex_int, ↓post_nx, ↓post_rt, tru_bl, tru_int, tru_lst, tru_tup, tru_non, cmp_eq_int, cmp_ne_int, cmp_lt_int, cmp_le_int, cmp_gt_int, cmp_ge_int, cmp_lt_str, finsE, env0, List.getElem?_cons_zero, List.getElem?_cons_succ, List.length_cons, List.length_nil, List.replicate, List.cons_append, List.nil_append, List.append_nil, reduceIte, Bool.not_true, Bool.not_false, Bool.false_eq_true, if_true, if_false, true_and, and_true, ite_true, ite_false, Option.map_some, List.set_cons_zero, List.set_cons_succ, dIsi, ↓E_call' h3, fi_room_sum, fnWL]
  exact ⟨w, l, rfl, ok, (fun h => nomatch h), by first | exact q | exact ⟨[], rfl, q⟩⟩
theorem k_other_side (Γ : Ga) (h1 : Γ.fn "want_web" = some fi_want_web) (h2 : Γ.fn "want_lot" = some fi_want_lot) (h3 : Γ.fn "rest_of" = some fi_rest_of) : Keeps Γ 2 sm_other_side fi_other_side := by
  rintro ds Q E ⟨w, l, rfl, ok, lo, q⟩
  refine ⟨rfl, by decide, ?_⟩
  have lo := lo rfl
  try simp only [sm_other_side, fi_other_side, fnWL, ↓S_nil, ↓S_cons, ↓S_pass, ↓S_asg, ↓S_asgt, ↓S_par2, ↓S_par3, ↓S_subT, ↓S_expr, ↓S_ret, ↓S_retN, ↓S_ifs, ↓E_var, ↓E_cint, ↓E_cstr, ↓E_cbl, ↓E_cnon, ↓E_glob, ↓E_bin, ↓E_neg, ↓E_cmp, ↓E_chain, ↓E_andn, ↓E_orn, ↓E_notn, ↓E_ife, ↓E_tupn, ↓E_lstn, ↓E_dnew, ↓E_blt, ↓E_meth, ↓E_mut, ↓E_idx, ↓E_slc, ↓E_isi, ↓T_var, ↓T_cint, ↓T_cstr, ↓T_cbl, ↓T_glob, ↓T_bin, ↓T_cmp, ↓T_neg, ↓T_chain, ↓T_call, ↓T_blt, ↓T_meth, ↓T_idx, ↓T_slc, ↓T_isi, ↓T_comp, ↓T_tupn, ↓T_lstn, ↓T_andn, ↓T_orn, ↓T_notn, ↓T_ife, ↓T_nil, ↓O_nil, ↓O_var, ↓O_cint, ↓O_neg, ↓O_bin, ↓O_blt, ↓O_glob, ↓A_nil, ↓A_cons, ↓B_nil, ↓B_cons, ↓C_nil, ↓C_io, ↓C_im, ↓rd_im, ↓rd_fr, ↓rd_bo, ↓fz_im, ↓fz_fr, ↓fz_bo, ↓rds_nil, ↓rds_cons, ↓ret_im, ↓ret_fr, ↓ret_bo, ↓rdC_nil, ↓rdC_im, ↓rdC_fr, ↓rdC_bo, bos_nil, bos_im, bos_fr, bos_bo, nd_nil, nd_one, ↓putB_nil, ↓putB_im, ↓putB_fr, ↓putB_bo, ↓ex_some, ↓ex_int, ↓post_nx, ↓post_rt, tru_bl, tru_int, tru_lst, tru_tup, tru_non, cmp_eq_int, cmp_ne_int, cmp_lt_int, cmp_le_int, cmp_gt_int, cmp_ge_int, cmp_lt_str, finsE, env0, List.getElem?_cons_zero, List.getElem?_cons_succ, List.length_cons, List.length_nil, List.replicate, List.cons_append, List.nil_append, List.append_nil, reduceIte, Bool.not_true, Bool.not_false, Bool.false_eq_true, if_true, if_false, true_and, and_true, ite_true, ite_false, Option.map_some, List.set_cons_zero, List.set_cons_succ, dIsi, ↓E_call' h1, fi_want_web]
  refine ⟨w, rfl, ok, ?_⟩
  try simp only [↓S_nil, ↓S_cons, ↓S_pass, ↓S_asg, ↓S_asgt, ↓S_par2, ↓S_par3, ↓S_subT, ↓S_expr, ↓S_ret, ↓S_retN, ↓S_ifs, ↓E_var, ↓E_cint, ↓E_cstr, ↓E_cbl, ↓E_cnon, ↓E_glob, ↓E_bin, ↓E_neg, ↓E_cmp, ↓E_chain, ↓E_andn, ↓E_orn, ↓E_notn, ↓E_ife, ↓E_tupn, ↓E_lstn, ↓E_dnew, ↓E_blt, ↓E_meth, ↓E_mut, ↓E_idx, ↓E_slc, ↓E_isi, ↓T_var, ↓T_cint, ↓T_cstr, ↓T_cbl, ↓T_glob, ↓T_bin, ↓T_cmp, ↓T_neg, ↓T_chain, ↓T_call, ↓T_blt, ↓T_meth, ↓T_idx, ↓T_slc, ↓T_isi, ↓T_comp, ↓T_tupn, ↓T_lstn, ↓T_andn, ↓T_orn, ↓T_notn, ↓T_ife, ↓T_nil, ↓O_nil, ↓O_var, ↓O_cint, ↓O_neg, ↓O_bin, ↓O_blt, ↓O_glob, ↓A_nil, ↓A_cons, ↓B_nil, ↓B_cons, ↓C_nil, ↓C_io, ↓C_im, ↓rd_im, ↓rd_fr, ↓rd_bo, ↓fz_im, ↓fz_fr, ↓fz_bo, ↓rds_nil, ↓rds_cons, ↓ret_im, ↓ret_fr, ↓ret_bo, ↓rdC_nil, ↓rdC_im, ↓rdC_fr, ↓rdC_bo, bos_nil, bos_im, bos_fr, bos_bo, nd_nil, nd_one, ↓putB_nil, ↓putB_im, ↓putB_fr, ↓putB_bo, ↓ex_some, ↓ex_int, ↓post_nx, ↓post_rt, tru_bl, tru_int, tru_lst, tru_tup, tru_non, cmp_eq_int, cmp_ne_int, cmp_lt_int, cmp_le_int, cmp_gt_int, cmp_ge_int, cmp_lt_str, finsE, env0, List.getElem?_cons_zero, List.getElem?_cons_succ, List.length_cons, List.length_nil, List.replicate, List.cons_append, List.nil_append, List.append_nil, reduceIte, Bool.not_true, Bool.not_false, Bool.false_eq_true, if_true, if_false, true_and, and_true, ite_true, ite_false, Option.map_some, List.set_cons_zero, List.set_cons_succ, dIsi, ↓E_call' h2, fi_want_lot]
  refine ⟨w, l, rfl, ok, lo, ?_⟩
  try simp only [↓S_nil, ↓S_cons, ↓S_pass, ↓S_asg, ↓S_asgt, ↓S_par2, ↓S_par3, ↓S_subT, ↓S_expr, ↓S_ret, ↓S_retN, ↓S_ifs, ↓E_var, ↓E_cint, ↓E_cstr, ↓E_cbl, ↓E_cnon, ↓E_glob, ↓E_bin, ↓E_neg, ↓E_cmp, ↓E_chain, ↓E_andn, ↓E_orn, ↓E_notn, ↓E_ife, ↓E_tupn, ↓E_lstn, ↓E_dnew, ↓E_blt, ↓E_meth, ↓E_mut, ↓E_idx, ↓E_slc, ↓E_isi, ↓T_var, ↓T_cint, ↓T_cstr, ↓T_cbl, ↓T_glob, ↓T_bin, ↓T_cmp, ↓T_neg, ↓T_chain, ↓T_call, ↓T_blt, ↓T_meth, ↓T_idx, ↓T_slc, ↓T_isi, ↓T_comp, ↓T_tupn, ↓T_lstn, ↓T_andn, ↓T_orn, ↓T_notn, ↓T_ife, ↓T_nil, ↓O_nil, ↓O_var, ↓O_cint, ↓O_neg, ↓O_bin, ↓O_blt, ↓O_glob, ↓A_nil, ↓A_cons, ↓B_nil, ↓B_cons, ↓C_nil, ↓C_io, ↓C_im, ↓rd_im, ↓rd_fr, ↓rd_bo, ↓fz_im, ↓fz_fr, ↓fz_bo, ↓rds_nil, ↓rds_cons, ↓ret_im, ↓ret_fr, ↓ret_bo, ↓rdC_nil, ↓rdC_im, ↓rdC_fr, ↓rdC_bo, bos_nil, bos_im, bos_fr, bos_bo, nd_nil, nd_one, ↓putB_nil, ↓putB_im, ↓putB_fr, ↓putB_bo, ↓ex_some, ↓ex_int, ↓post_nx, ↓post_rt, tru_bl, tru_int, tru_lst, tru_tup, tru_non, cmp_eq_int, cmp_ne_int, cmp_lt_int, cmp_le_int, cmp_gt_int, cmp_ge_int, cmp_lt_str, finsE, env0, List.getElem?_cons_zero, List.getElem?_cons_succ, List.length_cons, List.length_nil, List.replicate, List.cons_append, List.nil_append, List.append_nil, reduceIte, Bool.not_true, Bool.not_false, Bool.false_eq_true, if_true, if_false, true_and, and_true, ite_true, ite_false, Option.map_some, List.set_cons_zero, List.set_cons_succ, dIsi, ↓E_call' h3, fi_rest_of, fnWL]
  exact ⟨w, l, rfl, ok, (fun h => nomatch h), by first | exact q | exact ⟨[], rfl, q⟩⟩
theorem k_ties_of (Γ : Ga) (h1 : Γ.fn "want_web" = some fi_want_web) (h2 : Γ.fn "want_lot" = some fi_want_lot) (h3 : Γ.fn "rows_of" = some fi_rows_of) : Keeps Γ 3 sm_ties_of fi_ties_of := by
  rintro ds Q E ⟨w, l, rfl, ok, lo, q⟩
  refine ⟨rfl, by decide, ?_⟩
  have lo := lo rfl
  try simp only [sm_ties_of, fi_ties_of, fnWL, ↓S_nil, ↓S_cons, ↓S_pass, ↓S_asg, ↓S_asgt, ↓S_par2, ↓S_par3, ↓S_subT, ↓S_expr, ↓S_ret, ↓S_retN, ↓S_ifs, ↓E_var, ↓E_cint, ↓E_cstr, ↓E_cbl, ↓E_cnon, ↓E_glob, ↓E_bin, ↓E_neg, ↓E_cmp, ↓E_chain, ↓E_andn, ↓E_orn, ↓E_notn, ↓E_ife, ↓E_tupn, ↓E_lstn, ↓E_dnew, ↓E_blt, ↓E_meth, ↓E_mut, ↓E_idx, ↓E_slc, ↓E_isi, ↓T_var, ↓T_cint, ↓T_cstr, ↓T_cbl, ↓T_glob, ↓T_bin, ↓T_cmp, ↓T_neg, ↓T_chain, ↓T_call, ↓T_blt, ↓T_meth, ↓T_idx, ↓T_slc, ↓T_isi, ↓T_comp, ↓T_tupn, ↓T_lstn, ↓T_andn, ↓T_orn, ↓T_notn, ↓T_ife, ↓T_nil, ↓O_nil, ↓O_var, ↓O_cint, ↓O_neg, ↓O_bin, ↓O_blt, ↓O_glob, ↓A_nil, ↓A_cons, ↓B_nil, ↓B_cons, ↓C_nil, ↓C_io, ↓C_im, ↓rd_im, ↓rd_fr, ↓rd_bo, ↓fz_im, ↓fz_fr, ↓fz_bo, ↓rds_nil, ↓rds_cons, ↓ret_im, ↓ret_fr, ↓ret_bo, ↓rdC_nil, ↓rdC_im, ↓rdC_fr, ↓rdC_bo, bos_nil, bos_im, bos_fr, bos_bo, nd_nil, nd_one, ↓putB_nil, ↓putB_im, ↓putB_fr, ↓putB_bo, ↓ex_some, ↓ex_int, ↓post_nx, ↓post_rt, tru_bl, tru_int, tru_lst, tru_tup, tru_non, cmp_eq_int, cmp_ne_int, cmp_lt_int, cmp_le_int, cmp_gt_int, cmp_ge_int, cmp_lt_str, finsE, env0, List.getElem?_cons_zero, List.getElem?_cons_succ, List.length_cons, List.length_nil, List.replicate, List.cons_append, List.nil_append, List.append_nil, reduceIte, Bool.not_true, Bool.not_false, Bool.false_eq_true, if_true, if_false, true_and, and_true, ite_true, ite_false, Option.map_some, List.set_cons_zero, List.set_cons_succ, dIsi, ↓E_call' h1, fi_want_web]
  refine ⟨w, rfl, ok, ?_⟩
  try simp only [↓S_nil, ↓S_cons, ↓S_pass, ↓S_asg, ↓S_asgt, ↓S_par2, ↓S_par3, ↓S_subT, ↓S_expr, ↓S_ret, ↓S_retN, ↓S_ifs, ↓E_var, ↓E_cint, ↓E_cstr, ↓E_cbl, ↓E_cnon, ↓E_glob, ↓E_bin, ↓E_neg, ↓E_cmp, ↓E_chain, ↓E_andn, ↓E_orn, ↓E_notn, ↓E_ife, ↓E_tupn, ↓E_lstn, ↓E_dnew, ↓E_blt, ↓E_meth, ↓E_mut, ↓E_idx, ↓E_slc, ↓E_isi, ↓T_var, ↓T_cint, ↓T_cstr, ↓T_cbl, ↓T_glob, ↓T_bin, ↓T_cmp, ↓T_neg, ↓T_chain, ↓T_call, ↓T_blt, ↓T_meth, ↓T_idx, ↓T_slc, ↓T_isi, ↓T_comp, ↓T_tupn, ↓T_lstn, ↓T_andn, ↓T_orn, ↓T_notn, ↓T_ife, ↓T_nil, ↓O_nil, ↓O_var, ↓O_cint, ↓O_neg, ↓O_bin, ↓O_blt, ↓O_glob, ↓A_nil, ↓A_cons, ↓B_nil, ↓B_cons, ↓C_nil, ↓C_io, ↓C_im, ↓rd_im, ↓rd_fr, ↓rd_bo, ↓fz_im, ↓fz_fr, ↓fz_bo, ↓rds_nil, ↓rds_cons, ↓ret_im, ↓ret_fr, ↓ret_bo, ↓rdC_nil, ↓rdC_im, ↓rdC_fr, ↓rdC_bo, bos_nil, bos_im, bos_fr, bos_bo, nd_nil, nd_one, ↓putB_nil, ↓putB_im, ↓putB_fr, ↓putB_bo, ↓ex_some, ↓ex_int, ↓post_nx, ↓post_rt, tru_bl, tru_int, tru_lst, tru_tup, tru_non, cmp_eq_int, cmp_ne_int, cmp_lt_int, cmp_le_int, cmp_gt_int, cmp_ge_int, cmp_lt_str, finsE, env0, List.getElem?_cons_zero, List.getElem?_cons_succ, List.length_cons, List.length_nil, List.replicate, List.cons_append, List.nil_append, List.append_nil, reduceIte, Bool.not_true, Bool.not_false, Bool.false_eq_true, if_true, if_false, true_and, and_true, ite_true, ite_false, Option.map_some, List.set_cons_zero, List.set_cons_succ, dIsi, ↓E_call' h2, fi_want_lot]
  refine ⟨w, l, rfl, ok, lo, ?_⟩
  try simp only [↓S_nil, ↓S_cons, ↓S_pass, ↓S_asg, ↓S_asgt, ↓S_par2, ↓S_par3, ↓S_subT, ↓S_expr, ↓S_ret, ↓S_retN, ↓S_ifs, ↓E_var, ↓E_cint, ↓E_cstr, ↓E_cbl, ↓E_cnon, ↓E_glob, ↓E_bin, ↓E_neg, ↓E_cmp, ↓E_chain, ↓E_andn, ↓E_orn, ↓E_notn, ↓E_ife, ↓E_tupn, ↓E_lstn, ↓E_dnew, ↓E_blt, ↓E_meth, ↓E_mut, ↓E_idx, ↓E_slc, ↓E_isi, ↓T_var, ↓T_cint, ↓T_cstr, ↓T_cbl, ↓T_glob, ↓T_bin, ↓T_cmp, ↓T_neg, ↓T_chain, ↓T_call, ↓T_blt, ↓T_meth, ↓T_idx, ↓T_slc, ↓T_isi, ↓T_comp, ↓T_tupn, ↓T_lstn, ↓T_andn, ↓T_orn, ↓T_notn, ↓T_ife, ↓T_nil, ↓O_nil, ↓O_var, ↓O_cint, ↓O_neg, ↓O_bin, ↓O_blt, ↓O_glob, ↓A_nil, ↓A_cons, ↓B_nil, ↓B_cons, ↓C_nil, ↓C_io, ↓C_im, ↓rd_im, ↓rd_fr, ↓rd_bo, ↓fz_im, ↓fz_fr, ↓fz_bo, ↓rds_nil, ↓rds_cons, ↓ret_im, ↓ret_fr, ↓ret_bo, ↓rdC_nil, ↓rdC_im, ↓rdC_fr, ↓rdC_bo, bos_nil, bos_im, bos_fr, bos_bo, nd_nil, nd_one, ↓putB_nil, ↓putB_im, ↓putB_fr, ↓putB_bo, ↓ex_some, ↓ex_int, ↓post_nx, ↓post_rt, tru_bl, tru_int, tru_lst, tru_tup, tru_non, cmp_eq_int, cmp_ne_int, cmp_lt_int, cmp_le_int, cmp_gt_int, cmp_ge_int, cmp_lt_str, finsE, env0, List.getElem?_cons_zero, List.getElem?_cons_succ, List.length_cons, List.length_nil, List.replicate, List.cons_append, List.nil_append, List.append_nil, reduceIte, Bool.not_true, Bool.not_false, Bool.false_eq_true, if_true, if_false, true_and, and_true, ite_true, ite_false, Option.map_some, List.set_cons_zero, List.set_cons_succ, dIsi, dBlt, ↓E_comp, ↓I_call, ↓E_call' h3, fi_rows_of]
  refine ⟨w, l, rfl, ok, ?_⟩
  try simp only [↓S_nil, ↓S_cons, ↓S_pass, ↓S_asg, ↓S_asgt, ↓S_par2, ↓S_par3, ↓S_subT, ↓S_expr, ↓S_ret, ↓S_retN, ↓S_ifs, ↓E_var, ↓E_cint, ↓E_cstr, ↓E_cbl, ↓E_cnon, ↓E_glob, ↓E_bin, ↓E_neg, ↓E_cmp, ↓E_chain, ↓E_andn, ↓E_orn, ↓E_notn, ↓E_ife, ↓E_tupn, ↓E_lstn, ↓E_dnew, ↓E_blt, ↓E_meth, ↓E_mut, ↓E_idx, ↓E_slc, ↓E_isi, ↓T_var, ↓T_cint, ↓T_cstr, ↓T_cbl, ↓T_glob, ↓T_bin, ↓T_cmp, ↓T_neg, ↓T_chain, ↓T_call, ↓T_blt, ↓T_meth, ↓T_idx, ↓T_slc, ↓T_isi, ↓T_comp, ↓T_tupn, ↓T_lstn, ↓T_andn, ↓T_orn, ↓T_notn, ↓T_ife, ↓T_nil, ↓O_nil, ↓O_var, ↓O_cint, ↓O_neg, ↓O_bin, ↓O_blt, ↓O_glob, ↓A_nil, ↓A_cons, ↓B_nil, ↓B_cons, ↓C_nil, ↓C_io, ↓C_im, ↓rd_im, ↓rd_fr, ↓rd_bo, ↓fz_im, ↓fz_fr, ↓fz_bo, ↓rds_nil, ↓rds_cons, ↓ret_im, ↓ret_fr, ↓ret_bo, ↓rdC_nil, ↓rdC_im, ↓rdC_fr, ↓rdC_bo, bos_nil, bos_im, bos_fr, bos_bo, nd_nil, nd_one, ↓putB_nil, ↓putB_im, ↓putB_fr, ↓putB_bo, ↓ex_some, ↓ex_int, ↓post_nx, ↓post_rt, tru_bl, tru_int, tru_lst, tru_tup, tru_non, cmp_eq_int, cmp_ne_int, cmp_lt_int, cmp_le_int, cmp_gt_int, cmp_ge_int, cmp_lt_str, finsE, env0, List.getElem?_cons_zero, List.getElem?_cons_succ, List.length_cons, List.length_nil, List.replicate, List.cons_append, List.nil_append, List.append_nil, reduceIte, Bool.not_true, Bool.not_false, Bool.false_eq_true, if_true, if_false, true_and, and_true, ite_true, ite_false, Option.map_some, List.set_cons_zero, List.set_cons_succ, dIsi, ↓srcR_fr, itD]
  refine ⟨rows_len w l ok, compW_map rowT (fun e => ∃ s, e = [.im (webD w), .im (lotD l), s]) (fun e ⟨s, e'⟩ => ?_) (fun d hd e k ⟨s, e'⟩ hk => ?_) ⟨_, rfl⟩ fun e' ⟨s, ee⟩ => ?_⟩
  · subst e'
    obtain ⟨c, hc, rfl⟩ := List.mem_map.mp hd
    try simp only [cturn, bindT, wipeE, stS, rowD, ↓S_nil, ↓S_cons, ↓S_pass, ↓S_asg, ↓S_asgt, ↓S_par2, ↓S_par3, ↓S_subT, ↓S_expr, ↓S_ret, ↓S_retN, ↓S_ifs, ↓E_var, ↓E_cint, ↓E_cstr, ↓E_cbl, ↓E_cnon, ↓E_glob, ↓E_bin, ↓E_neg, ↓E_cmp, ↓E_chain, ↓E_andn, ↓E_orn, ↓E_notn, ↓E_ife, ↓E_tupn, ↓E_lstn, ↓E_dnew, ↓E_blt, ↓E_meth, ↓E_mut, ↓E_idx, ↓E_slc, ↓E_isi, ↓T_var, ↓T_cint, ↓T_cstr, ↓T_cbl, ↓T_glob, ↓T_bin, ↓T_cmp, ↓T_neg, ↓T_chain, ↓T_call, ↓T_blt, ↓T_meth, ↓T_idx, ↓T_slc, ↓T_isi, ↓T_comp, ↓T_tupn, ↓T_lstn, ↓T_andn, ↓T_orn, ↓T_notn, ↓T_ife, ↓T_nil, ↓O_nil, ↓O_var, ↓O_cint, ↓O_neg, ↓O_bin, ↓O_blt, ↓O_glob, ↓A_nil, ↓A_cons, ↓B_nil, ↓B_cons, ↓C_nil, ↓C_io, ↓C_im, ↓rd_im, ↓rd_fr, ↓rd_bo, ↓fz_im, ↓fz_fr, ↓fz_bo, ↓rds_nil, ↓rds_cons, ↓ret_im, ↓ret_fr, ↓ret_bo, ↓rdC_nil, ↓rdC_im, ↓rdC_fr, ↓rdC_bo, bos_nil, bos_im, bos_fr, bos_bo, nd_nil, nd_one, ↓putB_nil, ↓putB_im, ↓putB_fr, ↓putB_bo, ↓ex_some, ↓ex_int, ↓post_nx, ↓post_rt, tru_bl, tru_int, tru_lst, tru_tup, tru_non, cmp_eq_int, cmp_ne_int, cmp_lt_int, cmp_le_int, cmp_gt_int, cmp_ge_int, cmp_lt_str, finsE, env0, List.getElem?_cons_zero, List.getElem?_cons_succ, List.length_cons, List.length_nil, List.replicate, List.cons_append, List.nil_append, List.append_nil, reduceIte, Bool.not_true, Bool.not_false, Bool.false_eq_true, if_true, if_false, true_and, and_true, ite_true, ite_false, Option.map_some, List.set_cons_zero, List.set_cons_succ, dIsi, dIdx, at0]
    exact hk _ ⟨_, rfl⟩
  · intro i h; cases h
  subst ee
  try simp only [dd_tuple, un, u_tuple, wipeE, ↓S_nil, ↓S_cons, ↓S_pass, ↓S_asg, ↓S_asgt, ↓S_par2, ↓S_par3, ↓S_subT, ↓S_expr, ↓S_ret, ↓S_retN, ↓S_ifs, ↓E_var, ↓E_cint, ↓E_cstr, ↓E_cbl, ↓E_cnon, ↓E_glob, ↓E_bin, ↓E_neg, ↓E_cmp, ↓E_chain, ↓E_andn, ↓E_orn, ↓E_notn, ↓E_ife, ↓E_tupn, ↓E_lstn, ↓E_dnew, ↓E_blt, ↓E_meth, ↓E_mut, ↓E_idx, ↓E_slc, ↓E_isi, ↓T_var, ↓T_cint, ↓T_cstr, ↓T_cbl, ↓T_glob, ↓T_bin, ↓T_cmp, ↓T_neg, ↓T_chain, ↓T_call, ↓T_blt, ↓T_meth, ↓T_idx, ↓T_slc, ↓T_isi, ↓T_comp, ↓T_tupn, ↓T_lstn, ↓T_andn, ↓T_orn, ↓T_notn, ↓T_ife, ↓T_nil, ↓O_nil, ↓O_var, ↓O_cint, ↓O_neg, ↓O_bin, ↓O_blt, ↓O_glob, ↓A_nil, ↓A_cons, ↓B_nil, ↓B_cons, ↓C_nil, ↓C_io, ↓C_im, ↓rd_im, ↓rd_fr, ↓rd_bo, ↓fz_im, ↓fz_fr, ↓fz_bo, ↓rds_nil, ↓rds_cons, ↓ret_im, ↓ret_fr, ↓ret_bo, ↓rdC_nil, ↓rdC_im, ↓rdC_fr, ↓rdC_bo, bos_nil, bos_im, bos_fr, bos_bo, nd_nil, nd_one, ↓putB_nil, ↓putB_im, ↓putB_fr, ↓putB_bo, ↓ex_some, ↓ex_int, ↓post_nx, ↓post_rt, tru_bl, tru_int, tru_lst, tru_tup, tru_non, cmp_eq_int, cmp_ne_int, cmp_lt_int, cmp_le_int, cmp_gt_int, cmp_ge_int, cmp_lt_str, finsE, env0, List.getElem?_cons_zero, List.getElem?_cons_succ, List.length_cons, List.length_nil, List.replicate, List.cons_append, List.nil_append, List.append_nil, reduceIte, Bool.not_true, Bool.not_false, Bool.false_eq_true, if_true, if_false, true_and, and_true, ite_true, ite_false, Option.map_some, List.set_cons_zero, List.set_cons_succ, dIsi]
  rw [filterMap_row (f := fun r => .str r.t) fun r => rfl]
  have e : lotD ((rowsOf w l).map (·.t)) = .tup ((rowsOf w l).map fun r => .str r.t) := by unfold lotD; rw [List.map_map]; rfl
  simp only [e] at q
  first | exact q | exact ⟨[], rfl, q⟩
def PotOk (p q : Int) : Prop := 0 ≤ p ∧ 0 ≤ q ∧ q < 2147483648
def potD (p q : Int) : D := .lst [.int p, .int q]
def fi__law_cell : FI := { io := [false, false], sp := fun ds Q _ => ∃ (ns : List Int) (k : Nat), ds = [.scr (ns.map .int), .int k] ∧ ∀ i, Q (.im (.int i)) [] }
def fi__law_pot : FI := { io := [false], sp := fun ds Q _ => ∃ i, ds = [.int i] ∧ ∀ p q, PotOk p q → Q (.fr (potD p q)) [] }
def fi__law_draw : FI := { io := [true, false], sp := fun ds Q _ => ∃ p q m, ds = [potD p q, .int m] ∧ PotOk p q ∧ 1 ≤ m ∧ m < 2 ^ 200 ∧ ∀ x p' q', 0 ≤ x → x < m → PotOk p' q' → Q (.im (.int x)) [potD p' q'] }
theorem k__law_cell (Γ : Ga) : Keeps Γ 2 sm__law_cell fi__law_cell := by
  rintro ds Q E ⟨ns, k, rfl, q⟩
  refine ⟨rfl, by decide, ?_⟩
  unfold sm__law_cell
  refine S_seq fun nx hnx => ?_
  try simp only [fi__law_cell, ↓S_nil, ↓S_cons, ↓S_pass, ↓S_asg, ↓S_asgt, ↓S_par2, ↓S_par3, ↓S_subT, ↓S_expr, ↓S_ret, ↓S_retN, ↓S_ifs, ↓E_var, ↓E_cint, ↓E_cstr, ↓E_cbl, ↓E_cnon, ↓E_glob, ↓E_bin, ↓E_neg, ↓E_cmp, ↓E_chain, ↓E_andn, ↓E_orn, ↓E_notn, ↓E_ife, ↓E_tupn, ↓E_lstn, ↓E_dnew, ↓E_blt, ↓E_meth, ↓E_mut, ↓E_idx, ↓E_slc, ↓E_isi, ↓T_var, ↓T_cint, ↓T_cstr, ↓T_cbl, ↓T_glob, ↓T_bin, ↓T_cmp, ↓T_neg, ↓T_chain, ↓T_call, ↓T_blt, ↓T_meth, ↓T_idx, ↓T_slc, ↓T_isi, ↓T_comp, ↓T_tupn, ↓T_lstn, ↓T_andn, ↓T_orn, ↓T_notn, ↓T_ife, ↓T_nil, ↓O_nil, ↓O_var, ↓O_cint, ↓O_neg, ↓O_bin, ↓O_blt, ↓O_glob, ↓A_nil, ↓A_cons, ↓B_nil, ↓B_cons, ↓C_nil, ↓C_io, ↓C_im, ↓rd_im, ↓rd_fr, ↓rd_bo, ↓fz_im, ↓fz_fr, ↓fz_bo, ↓rds_nil, ↓rds_cons, ↓ret_im, ↓ret_fr, ↓ret_bo, ↓rdC_nil, ↓rdC_im, ↓rdC_fr, ↓rdC_bo, bos_nil, bos_im, bos_fr, bos_bo, nd_nil, nd_one, ↓putB_nil, ↓putB_im, ↓putB_fr, ↓putB_bo, ↓ex_some, ↓ex_int, ↓post_nx, ↓post_rt, tru_bl, tru_int, tru_lst, tru_tup, tru_non, cmp_eq_int, cmp_ne_int, cmp_lt_int, cmp_le_int, cmp_gt_int, cmp_ge_int, cmp_lt_str, finsE, env0, List.getElem?_cons_zero, List.getElem?_cons_succ, List.length_cons, List.length_nil, List.replicate, List.cons_append, List.nil_append, List.append_nil, reduceIte, Bool.not_true, Bool.not_false, Bool.false_eq_true, if_true, if_false, true_and, and_true, ite_true, ite_false, Option.map_some, List.set_cons_zero, List.set_cons_succ, dIsi, dBlt, dd_len, un, u_len, List.length_map]
  by_cases h : (k : Int) < (ns.length : Int)
  · rw [decide_eq_true h]
    have hk : k < ns.length := by omega
    try simp only [↓S_nil, ↓S_cons, ↓S_pass, ↓S_asg, ↓S_asgt, ↓S_par2, ↓S_par3, ↓S_subT, ↓S_expr, ↓S_ret, ↓S_retN, ↓S_ifs, ↓E_var, ↓E_cint, ↓E_cstr, ↓E_cbl, ↓E_cnon, ↓E_glob, ↓E_bin, ↓E_neg, ↓E_cmp, ↓E_chain, ↓E_andn, ↓E_orn, ↓E_notn, ↓E_ife, ↓E_tupn, ↓E_lstn, ↓E_dnew, ↓E_blt, ↓E_meth, ↓E_mut, ↓E_idx, ↓E_slc, ↓E_isi, ↓T_var, ↓T_cint, ↓T_cstr, ↓T_cbl, ↓T_glob, ↓T_bin, ↓T_cmp, ↓T_neg, ↓T_chain, ↓T_call, ↓T_blt, ↓T_meth, ↓T_idx, ↓T_slc, ↓T_isi, ↓T_comp, ↓T_tupn, ↓T_lstn, ↓T_andn, ↓T_orn, ↓T_notn, ↓T_ife, ↓T_nil, ↓O_nil, ↓O_var, ↓O_cint, ↓O_neg, ↓O_bin, ↓O_blt, ↓O_glob, ↓A_nil, ↓A_cons, ↓B_nil, ↓B_cons, ↓C_nil, ↓C_io, ↓C_im, ↓rd_im, ↓rd_fr, ↓rd_bo, ↓fz_im, ↓fz_fr, ↓fz_bo, ↓rds_nil, ↓rds_cons, ↓ret_im, ↓ret_fr, ↓ret_bo, ↓rdC_nil, ↓rdC_im, ↓rdC_fr, ↓rdC_bo, bos_nil, bos_im, bos_fr, bos_bo, nd_nil, nd_one, ↓putB_nil, ↓putB_im, ↓putB_fr, ↓putB_bo, ↓ex_some, ↓ex_int, ↓post_nx, ↓post_rt, tru_bl, tru_int, tru_lst, tru_tup, tru_non, cmp_eq_int, cmp_ne_int, cmp_lt_int, cmp_le_int, cmp_gt_int, cmp_ge_int, cmp_lt_str, finsE, env0, List.getElem?_cons_zero, List.getElem?_cons_succ, List.length_cons, List.length_nil, List.replicate, List.cons_append, List.nil_append, List.append_nil, reduceIte, Bool.not_true, Bool.not_false, Bool.false_eq_true, if_true, if_false, true_and, and_true, ite_true, ite_false, Option.map_some, List.set_cons_zero, List.set_cons_succ, dIsi, dIdx]
    refine ⟨.int ns[k], ?_, q _⟩
    refine L2.atI_nat ?_
    rw [List.getElem?_map, List.getElem?_eq_getElem hk]; rfl
  · rw [decide_eq_false h]
    try simp only [↓S_nil, ↓S_cons, ↓S_pass, ↓S_asg, ↓S_asgt, ↓S_par2, ↓S_par3, ↓S_subT, ↓S_expr, ↓S_ret, ↓S_retN, ↓S_ifs, ↓E_var, ↓E_cint, ↓E_cstr, ↓E_cbl, ↓E_cnon, ↓E_glob, ↓E_bin, ↓E_neg, ↓E_cmp, ↓E_chain, ↓E_andn, ↓E_orn, ↓E_notn, ↓E_ife, ↓E_tupn, ↓E_lstn, ↓E_dnew, ↓E_blt, ↓E_meth, ↓E_mut, ↓E_idx, ↓E_slc, ↓E_isi, ↓T_var, ↓T_cint, ↓T_cstr, ↓T_cbl, ↓T_glob, ↓T_bin, ↓T_cmp, ↓T_neg, ↓T_chain, ↓T_call, ↓T_blt, ↓T_meth, ↓T_idx, ↓T_slc, ↓T_isi, ↓T_comp, ↓T_tupn, ↓T_lstn, ↓T_andn, ↓T_orn, ↓T_notn, ↓T_ife, ↓T_nil, ↓O_nil, ↓O_var, ↓O_cint, ↓O_neg, ↓O_bin, ↓O_blt, ↓O_glob, ↓A_nil, ↓A_cons, ↓B_nil, ↓B_cons, ↓C_nil, ↓C_io, ↓C_im, ↓rd_im, ↓rd_fr, ↓rd_bo, ↓fz_im, ↓fz_fr, ↓fz_bo, ↓rds_nil, ↓rds_cons, ↓ret_im, ↓ret_fr, ↓ret_bo, ↓rdC_nil, ↓rdC_im, ↓rdC_fr, ↓rdC_bo, bos_nil, bos_im, bos_fr, bos_bo, nd_nil, nd_one, ↓putB_nil, ↓putB_im, ↓putB_fr, ↓putB_bo, ↓ex_some, ↓ex_int, ↓post_nx, ↓post_rt, tru_bl, tru_int, tru_lst, tru_tup, tru_non, cmp_eq_int, cmp_ne_int, cmp_lt_int, cmp_le_int, cmp_gt_int, cmp_ge_int, cmp_lt_str, finsE, env0, List.getElem?_cons_zero, List.getElem?_cons_succ, List.length_cons, List.length_nil, List.replicate, List.cons_append, List.nil_append, List.append_nil, reduceIte, Bool.not_true, Bool.not_false, Bool.false_eq_true, if_true, if_false, true_and, and_true, ite_true, ite_false, Option.map_some, List.set_cons_zero, List.set_cons_succ, dIsi]
    rw [hnx]
    try simp only [↓S_nil, ↓S_cons, ↓S_pass, ↓S_asg, ↓S_asgt, ↓S_par2, ↓S_par3, ↓S_subT, ↓S_expr, ↓S_ret, ↓S_retN, ↓S_ifs, ↓E_var, ↓E_cint, ↓E_cstr, ↓E_cbl, ↓E_cnon, ↓E_glob, ↓E_bin, ↓E_neg, ↓E_cmp, ↓E_chain, ↓E_andn, ↓E_orn, ↓E_notn, ↓E_ife, ↓E_tupn, ↓E_lstn, ↓E_dnew, ↓E_blt, ↓E_meth, ↓E_mut, ↓E_idx, ↓E_slc, ↓E_isi, ↓T_var, ↓T_cint, ↓T_cstr, ↓T_cbl, ↓T_glob, ↓T_bin, ↓T_cmp, ↓T_neg, ↓T_chain, ↓T_call, ↓T_blt, ↓T_meth, ↓T_idx, ↓T_slc, ↓T_isi, ↓T_comp, ↓T_tupn, ↓T_lstn, ↓T_andn, ↓T_orn, ↓T_notn, ↓T_ife, ↓T_nil, ↓O_nil, ↓O_var, ↓O_cint, ↓O_neg, ↓O_bin, ↓O_blt, ↓O_glob, ↓A_nil, ↓A_cons, ↓B_nil, ↓B_cons, ↓C_nil, ↓C_io, ↓C_im, ↓rd_im, ↓rd_fr, ↓rd_bo, ↓fz_im, ↓fz_fr, ↓fz_bo, ↓rds_nil, ↓rds_cons, ↓ret_im, ↓ret_fr, ↓ret_bo, ↓rdC_nil, ↓rdC_im, ↓rdC_fr, ↓rdC_bo, bos_nil, bos_im, bos_fr, bos_bo, nd_nil, nd_one, ↓putB_nil, ↓putB_im, ↓putB_fr, ↓putB_bo, ↓ex_some, ↓ex_int, ↓post_nx, ↓post_rt, tru_bl, tru_int, tru_lst, tru_tup, tru_non, cmp_eq_int, cmp_ne_int, cmp_lt_int, cmp_le_int, cmp_gt_int, cmp_ge_int, cmp_lt_str, finsE, env0, List.getElem?_cons_zero, List.getElem?_cons_succ, List.length_cons, List.length_nil, List.replicate, List.cons_append, List.nil_append, List.append_nil, reduceIte, Bool.not_true, Bool.not_false, Bool.false_eq_true, if_true, if_false, true_and, and_true, ite_true, ite_false, Option.map_some, List.set_cons_zero, List.set_cons_succ, dIsi]
    first | exact q _ | exact ⟨[], rfl, q _⟩
theorem k__law_pot (Γ : Ga) : Keeps Γ 1 sm__law_pot fi__law_pot := by
  rintro ds Q E ⟨i, rfl, q⟩
  refine ⟨rfl, by decide, ?_⟩
  try simp only [sm__law_pot, fi__law_pot, ↓S_nil, ↓S_cons, ↓S_pass, ↓S_asg, ↓S_asgt, ↓S_par2, ↓S_par3, ↓S_subT, ↓S_expr, ↓S_ret, ↓S_retN, ↓S_ifs, ↓E_var, ↓E_cint, ↓E_cstr, ↓E_cbl, ↓E_cnon, ↓E_glob, ↓E_bin, ↓E_neg, ↓E_cmp, ↓E_chain, ↓E_andn, ↓E_orn, ↓E_notn, ↓E_ife, ↓E_tupn, ↓E_lstn, ↓E_dnew, ↓E_blt, ↓E_meth, ↓E_mut, ↓E_idx, ↓E_slc, ↓E_isi, ↓T_var, ↓T_cint, ↓T_cstr, ↓T_cbl, ↓T_glob, ↓T_bin, ↓T_cmp, ↓T_neg, ↓T_chain, ↓T_call, ↓T_blt, ↓T_meth, ↓T_idx, ↓T_slc, ↓T_isi, ↓T_comp, ↓T_tupn, ↓T_lstn, ↓T_andn, ↓T_orn, ↓T_notn, ↓T_ife, ↓T_nil, ↓O_nil, ↓O_var, ↓O_cint, ↓O_neg, ↓O_bin, ↓O_blt, ↓O_glob, ↓A_nil, ↓A_cons, ↓B_nil, ↓B_cons, ↓C_nil, ↓C_io, ↓C_im, ↓rd_im, ↓rd_fr, ↓rd_bo, ↓fz_im, ↓fz_fr, ↓fz_bo, ↓rds_nil, ↓rds_cons, ↓ret_im, ↓ret_fr, ↓ret_bo, ↓rdC_nil, ↓rdC_im, ↓rdC_fr, ↓rdC_bo, bos_nil, bos_im, bos_fr, bos_bo, nd_nil, nd_one, ↓putB_nil, ↓putB_im, ↓putB_fr, ↓putB_bo, ↓ex_some, ↓ex_int, ↓post_nx, ↓post_rt, tru_bl, tru_int, tru_lst, tru_tup, tru_non, cmp_eq_int, cmp_ne_int, cmp_lt_int, cmp_le_int, cmp_gt_int, cmp_ge_int, cmp_lt_str, finsE, env0, List.getElem?_cons_zero, List.getElem?_cons_succ, List.length_cons, List.length_nil, List.replicate, List.cons_append, List.nil_append, List.append_nil, reduceIte, Bool.not_true, Bool.not_false, Bool.false_eq_true, if_true, if_false, true_and, and_true, ite_true, ite_false, Option.map_some, List.set_cons_zero, List.set_cons_succ, dIsi, dBlt, dd_max, dd_abs, ub, un, u_abs, b_max, dBin]
  refine ⟨⟨by decide, by decide, by decide⟩, by decide, by rw [PySem.sizeLine_eq]; omega, q _ _ ⟨?_, ?_, ?_⟩⟩
  · split <;> omega
  · have := Int.emod_nonneg (if i < 0 then -i else i) (b := 2147483629) (by decide)
    omega
  · have := Int.emod_lt_of_pos (if i < 0 then -i else i) (b := 2147483629) (by decide)
    omega
theorem log_le {n k : Nat} (h : n < 2 ^ (k + 1)) : n.log2 ≤ k := by
  by_cases z : n = 0
  · subst z; simp
  · have := (Nat.log2_lt z).mpr h
    omega
theorem div_plain {a m : Int} (h1 : 1 ≤ m) (h2 : m < 2 ^ 200) : Builtin.divisionGoesByPylong a m = false := by
  unfold Builtin.divisionGoesByPylong
  have : m.natAbs.log2 ≤ 199 := log_le (by omega)
  have h0 : (m == 0) = false := by simp; omega
  simp only [h0, Bool.false_eq_true, if_false]
  rw [show decide (m.natAbs.log2 / 30 + 1 > 300) = false from decide_eq_false (by omega)]
  rfl
theorem k__law_draw (Γ : Ga) : Keeps Γ 3 sm__law_draw fi__law_draw := by
  rintro ds Q E ⟨p, q, m, rfl, ⟨p0, q0, q1⟩, m1, m2, hq⟩
  refine ⟨rfl, by decide, ?_⟩
  unfold sm__law_draw
  refine S_seq fun nx hnx => ?_
  try simp only [fi__law_draw, potD, ↓S_nil, ↓S_cons, ↓S_pass, ↓S_asg, ↓S_asgt, ↓S_par2, ↓S_par3, ↓S_subT, ↓S_expr, ↓S_ret, ↓S_retN, ↓S_ifs, ↓E_var, ↓E_cint, ↓E_cstr, ↓E_cbl, ↓E_cnon, ↓E_glob, ↓E_bin, ↓E_neg, ↓E_cmp, ↓E_chain, ↓E_andn, ↓E_orn, ↓E_notn, ↓E_ife, ↓E_tupn, ↓E_lstn, ↓E_dnew, ↓E_blt, ↓E_meth, ↓E_mut, ↓E_idx, ↓E_slc, ↓E_isi, ↓T_var, ↓T_cint, ↓T_cstr, ↓T_cbl, ↓T_glob, ↓T_bin, ↓T_cmp, ↓T_neg, ↓T_chain, ↓T_call, ↓T_blt, ↓T_meth, ↓T_idx, ↓T_slc, ↓T_isi, ↓T_comp, ↓T_tupn, ↓T_lstn, ↓T_andn, ↓T_orn, ↓T_notn, ↓T_ife, ↓T_nil, ↓O_nil, ↓O_var, ↓O_cint, ↓O_neg, ↓O_bin, ↓O_blt, ↓O_glob, ↓A_nil, ↓A_cons, ↓B_nil, ↓B_cons, ↓C_nil, ↓C_io, ↓C_im, ↓rd_im, ↓rd_fr, ↓rd_bo, ↓fz_im, ↓fz_fr, ↓fz_bo, ↓rds_nil, ↓rds_cons, ↓ret_im, ↓ret_fr, ↓ret_bo, ↓rdC_nil, ↓rdC_im, ↓rdC_fr, ↓rdC_bo, bos_nil, bos_im, bos_fr, bos_bo, nd_nil, nd_one, ↓putB_nil, ↓putB_im, ↓putB_fr, ↓putB_bo, ↓ex_some, ↓ex_int, ↓post_nx, ↓post_rt, tru_bl, tru_int, tru_lst, tru_tup, tru_non, cmp_eq_int, cmp_ne_int, cmp_lt_int, cmp_le_int, cmp_gt_int, cmp_ge_int, cmp_lt_str, finsE, env0, List.getElem?_cons_zero, List.getElem?_cons_succ, List.length_cons, List.length_nil, List.replicate, List.cons_append, List.nil_append, List.append_nil, reduceIte, Bool.not_true, Bool.not_false, Bool.false_eq_true, if_true, if_false, true_and, and_true, ite_true, ite_false, Option.map_some, List.set_cons_zero, List.set_cons_succ, dIsi, dIdx, at0, at1]
  by_cases h : 0 < p
  · rw [decide_eq_true h]
    try simp only [↓S_nil, ↓S_cons, ↓S_pass, ↓S_asg, ↓S_asgt, ↓S_par2, ↓S_par3, ↓S_subT, ↓S_expr, ↓S_ret, ↓S_retN, ↓S_ifs, ↓E_var, ↓E_cint, ↓E_cstr, ↓E_cbl, ↓E_cnon, ↓E_glob, ↓E_bin, ↓E_neg, ↓E_cmp, ↓E_chain, ↓E_andn, ↓E_orn, ↓E_notn, ↓E_ife, ↓E_tupn, ↓E_lstn, ↓E_dnew, ↓E_blt, ↓E_meth, ↓E_mut, ↓E_idx, ↓E_slc, ↓E_isi, ↓T_var, ↓T_cint, ↓T_cstr, ↓T_cbl, ↓T_glob, ↓T_bin, ↓T_cmp, ↓T_neg, ↓T_chain, ↓T_call, ↓T_blt, ↓T_meth, ↓T_idx, ↓T_slc, ↓T_isi, ↓T_comp, ↓T_tupn, ↓T_lstn, ↓T_andn, ↓T_orn, ↓T_notn, ↓T_ife, ↓T_nil, ↓O_nil, ↓O_var, ↓O_cint, ↓O_neg, ↓O_bin, ↓O_blt, ↓O_glob, ↓A_nil, ↓A_cons, ↓B_nil, ↓B_cons, ↓C_nil, ↓C_io, ↓C_im, ↓rd_im, ↓rd_fr, ↓rd_bo, ↓fz_im, ↓fz_fr, ↓fz_bo, ↓rds_nil, ↓rds_cons, ↓ret_im, ↓ret_fr, ↓ret_bo, ↓rdC_nil, ↓rdC_im, ↓rdC_fr, ↓rdC_bo, bos_nil, bos_im, bos_fr, bos_bo, nd_nil, nd_one, ↓putB_nil, ↓putB_im, ↓putB_fr, ↓putB_bo, ↓ex_some, ↓ex_int, ↓post_nx, ↓post_rt, tru_bl, tru_int, tru_lst, tru_tup, tru_non, cmp_eq_int, cmp_ne_int, cmp_lt_int, cmp_le_int, cmp_gt_int, cmp_ge_int, cmp_lt_str, finsE, env0, List.getElem?_cons_zero, List.getElem?_cons_succ, List.length_cons, List.length_nil, List.replicate, List.cons_append, List.nil_append, List.append_nil, reduceIte, Bool.not_true, Bool.not_false, Bool.false_eq_true, if_true, if_false, true_and, and_true, ite_true, ite_false, Option.map_some, List.set_cons_zero, List.set_cons_succ, dIsi, dBlt, dd_divmod, bi, b_divmod, dIdx, at0]
    refine ⟨⟨by omega, div_plain m1 m2⟩, ?_⟩
    try simp only [bindT, bindTs, Tg.len, wrS, dSet, stS, ↓S_nil, ↓S_cons, ↓S_pass, ↓S_asg, ↓S_asgt, ↓S_par2, ↓S_par3, ↓S_subT, ↓S_expr, ↓S_ret, ↓S_retN, ↓S_ifs, ↓E_var, ↓E_cint, ↓E_cstr, ↓E_cbl, ↓E_cnon, ↓E_glob, ↓E_bin, ↓E_neg, ↓E_cmp, ↓E_chain, ↓E_andn, ↓E_orn, ↓E_notn, ↓E_ife, ↓E_tupn, ↓E_lstn, ↓E_dnew, ↓E_blt, ↓E_meth, ↓E_mut, ↓E_idx, ↓E_slc, ↓E_isi, ↓T_var, ↓T_cint, ↓T_cstr, ↓T_cbl, ↓T_glob, ↓T_bin, ↓T_cmp, ↓T_neg, ↓T_chain, ↓T_call, ↓T_blt, ↓T_meth, ↓T_idx, ↓T_slc, ↓T_isi, ↓T_comp, ↓T_tupn, ↓T_lstn, ↓T_andn, ↓T_orn, ↓T_notn, ↓T_ife, ↓T_nil, ↓O_nil, ↓O_var, ↓O_cint, ↓O_neg, ↓O_bin, ↓O_blt, ↓O_glob, ↓A_nil, ↓A_cons, ↓B_nil, ↓B_cons, ↓C_nil, ↓C_io, ↓C_im, ↓rd_im, ↓rd_fr, ↓rd_bo, ↓fz_im, ↓fz_fr, ↓fz_bo, ↓rds_nil, ↓rds_cons, ↓ret_im, ↓ret_fr, ↓ret_bo, ↓rdC_nil, ↓rdC_im, ↓rdC_fr, ↓rdC_bo, bos_nil, bos_im, bos_fr, bos_bo, nd_nil, nd_one, ↓putB_nil, ↓putB_im, ↓putB_fr, ↓putB_bo, ↓ex_some, ↓ex_int, ↓post_nx, ↓post_rt, tru_bl, tru_int, tru_lst, tru_tup, tru_non, cmp_eq_int, cmp_ne_int, cmp_lt_int, cmp_le_int, cmp_gt_int, cmp_ge_int, cmp_lt_str, finsE, env0, List.getElem?_cons_zero, List.getElem?_cons_succ, List.length_cons, List.length_nil, List.replicate, List.cons_append, List.nil_append, List.append_nil, reduceIte, Bool.not_true, Bool.not_false, Bool.false_eq_true, if_true, if_false, true_and, and_true, ite_true, ite_false, Option.map_some, List.set_cons_zero, List.set_cons_succ, dIsi]
    refine ⟨0, rfl, ?_⟩
    try simp only [stS, ↓S_nil, ↓S_cons, ↓S_pass, ↓S_asg, ↓S_asgt, ↓S_par2, ↓S_par3, ↓S_subT, ↓S_expr, ↓S_ret, ↓S_retN, ↓S_ifs, ↓E_var, ↓E_cint, ↓E_cstr, ↓E_cbl, ↓E_cnon, ↓E_glob, ↓E_bin, ↓E_neg, ↓E_cmp, ↓E_chain, ↓E_andn, ↓E_orn, ↓E_notn, ↓E_ife, ↓E_tupn, ↓E_lstn, ↓E_dnew, ↓E_blt, ↓E_meth, ↓E_mut, ↓E_idx, ↓E_slc, ↓E_isi, ↓T_var, ↓T_cint, ↓T_cstr, ↓T_cbl, ↓T_glob, ↓T_bin, ↓T_cmp, ↓T_neg, ↓T_chain, ↓T_call, ↓T_blt, ↓T_meth, ↓T_idx, ↓T_slc, ↓T_isi, ↓T_comp, ↓T_tupn, ↓T_lstn, ↓T_andn, ↓T_orn, ↓T_notn, ↓T_ife, ↓T_nil, ↓O_nil, ↓O_var, ↓O_cint, ↓O_neg, ↓O_bin, ↓O_blt, ↓O_glob, ↓A_nil, ↓A_cons, ↓B_nil, ↓B_cons, ↓C_nil, ↓C_io, ↓C_im, ↓rd_im, ↓rd_fr, ↓rd_bo, ↓fz_im, ↓fz_fr, ↓fz_bo, ↓rds_nil, ↓rds_cons, ↓ret_im, ↓ret_fr, ↓ret_bo, ↓rdC_nil, ↓rdC_im, ↓rdC_fr, ↓rdC_bo, bos_nil, bos_im, bos_fr, bos_bo, nd_nil, nd_one, ↓putB_nil, ↓putB_im, ↓putB_fr, ↓putB_bo, ↓ex_some, ↓ex_int, ↓post_nx, ↓post_rt, tru_bl, tru_int, tru_lst, tru_tup, tru_non, cmp_eq_int, cmp_ne_int, cmp_lt_int, cmp_le_int, cmp_gt_int, cmp_ge_int, cmp_lt_str, finsE, env0, List.getElem?_cons_zero, List.getElem?_cons_succ, List.length_cons, List.length_nil, List.replicate, List.cons_append, List.nil_append, List.append_nil, reduceIte, Bool.not_true, Bool.not_false, Bool.false_eq_true, if_true, if_false, true_and, and_true, ite_true, ite_false, Option.map_some, List.set_cons_zero, List.set_cons_succ, dIsi, potD] at hq ⊢
    exact hq (p % m) (p / m) q (Int.emod_nonneg _ (by omega)) (Int.emod_lt_of_pos _ (by omega)) ⟨Int.ediv_nonneg p0 (by omega), q0, q1⟩
  · rw [decide_eq_false h]
    try simp only [↓S_nil, ↓S_cons, ↓S_pass, ↓S_asg, ↓S_asgt, ↓S_par2, ↓S_par3, ↓S_subT, ↓S_expr, ↓S_ret, ↓S_retN, ↓S_ifs, ↓E_var, ↓E_cint, ↓E_cstr, ↓E_cbl, ↓E_cnon, ↓E_glob, ↓E_bin, ↓E_neg, ↓E_cmp, ↓E_chain, ↓E_andn, ↓E_orn, ↓E_notn, ↓E_ife, ↓E_tupn, ↓E_lstn, ↓E_dnew, ↓E_blt, ↓E_meth, ↓E_mut, ↓E_idx, ↓E_slc, ↓E_isi, ↓T_var, ↓T_cint, ↓T_cstr, ↓T_cbl, ↓T_glob, ↓T_bin, ↓T_cmp, ↓T_neg, ↓T_chain, ↓T_call, ↓T_blt, ↓T_meth, ↓T_idx, ↓T_slc, ↓T_isi, ↓T_comp, ↓T_tupn, ↓T_lstn, ↓T_andn, ↓T_orn, ↓T_notn, ↓T_ife, ↓T_nil, ↓O_nil, ↓O_var, ↓O_cint, ↓O_neg, ↓O_bin, ↓O_blt, ↓O_glob, ↓A_nil, ↓A_cons, ↓B_nil, ↓B_cons, ↓C_nil, ↓C_io, ↓C_im, ↓rd_im, ↓rd_fr, ↓rd_bo, ↓fz_im, ↓fz_fr, ↓fz_bo, ↓rds_nil, ↓rds_cons, ↓ret_im, ↓ret_fr, ↓ret_bo, ↓rdC_nil, ↓rdC_im, ↓rdC_fr, ↓rdC_bo, bos_nil, bos_im, bos_fr, bos_bo, nd_nil, nd_one, ↓putB_nil, ↓putB_im, ↓putB_fr, ↓putB_bo, ↓ex_some, ↓ex_int, ↓post_nx, ↓post_rt, tru_bl, tru_int, tru_lst, tru_tup, tru_non, cmp_eq_int, cmp_ne_int, cmp_lt_int, cmp_le_int, cmp_gt_int, cmp_ge_int, cmp_lt_str, finsE, env0, List.getElem?_cons_zero, List.getElem?_cons_succ, List.length_cons, List.length_nil, List.replicate, List.cons_append, List.nil_append, List.append_nil, reduceIte, Bool.not_true, Bool.not_false, Bool.false_eq_true, if_true, if_false, true_and, and_true, ite_true, ite_false, Option.map_some, List.set_cons_zero, List.set_cons_succ, dIsi]
    rw [hnx]
    show wpS _ _ _ _ _
    refine S_seq fun nx hnx => ?_
    rw [S_sub rfl]
    try simp only [↓S_nil, ↓S_cons, ↓S_pass, ↓S_asg, ↓S_asgt, ↓S_par2, ↓S_par3, ↓S_subT, ↓S_expr, ↓S_ret, ↓S_retN, ↓S_ifs, ↓E_var, ↓E_cint, ↓E_cstr, ↓E_cbl, ↓E_cnon, ↓E_glob, ↓E_bin, ↓E_neg, ↓E_cmp, ↓E_chain, ↓E_andn, ↓E_orn, ↓E_notn, ↓E_ife, ↓E_tupn, ↓E_lstn, ↓E_dnew, ↓E_blt, ↓E_meth, ↓E_mut, ↓E_idx, ↓E_slc, ↓E_isi, ↓T_var, ↓T_cint, ↓T_cstr, ↓T_cbl, ↓T_glob, ↓T_bin, ↓T_cmp, ↓T_neg, ↓T_chain, ↓T_call, ↓T_blt, ↓T_meth, ↓T_idx, ↓T_slc, ↓T_isi, ↓T_comp, ↓T_tupn, ↓T_lstn, ↓T_andn, ↓T_orn, ↓T_notn, ↓T_ife, ↓T_nil, ↓O_nil, ↓O_var, ↓O_cint, ↓O_neg, ↓O_bin, ↓O_blt, ↓O_glob, ↓A_nil, ↓A_cons, ↓B_nil, ↓B_cons, ↓C_nil, ↓C_io, ↓C_im, ↓rd_im, ↓rd_fr, ↓rd_bo, ↓fz_im, ↓fz_fr, ↓fz_bo, ↓rds_nil, ↓rds_cons, ↓ret_im, ↓ret_fr, ↓ret_bo, ↓rdC_nil, ↓rdC_im, ↓rdC_fr, ↓rdC_bo, bos_nil, bos_im, bos_fr, bos_bo, nd_nil, nd_one, ↓putB_nil, ↓putB_im, ↓putB_fr, ↓putB_bo, ↓ex_some, ↓ex_int, ↓post_nx, ↓post_rt, tru_bl, tru_int, tru_lst, tru_tup, tru_non, cmp_eq_int, cmp_ne_int, cmp_lt_int, cmp_le_int, cmp_gt_int, cmp_ge_int, cmp_lt_str, finsE, env0, List.getElem?_cons_zero, List.getElem?_cons_succ, List.length_cons, List.length_nil, List.replicate, List.cons_append, List.nil_append, List.append_nil, reduceIte, Bool.not_true, Bool.not_false, Bool.false_eq_true, if_true, if_false, true_and, and_true, ite_true, ite_false, Option.map_some, List.set_cons_zero, List.set_cons_succ, dIsi, dIdx, at1, dBin, isOwn, wrS, dSet, D.isDtt]
    refine ⟨IntMulOk.of_left (intBits_le_64 (by omega) (by omega)), by decide, ?_⟩
    refine ⟨1, rfl, ?_⟩
    rw [hnx]
    generalize hq' : (q * 48271 + 11) % 2147483647 = q2
    have b0 : 0 ≤ q2 := by rw [← hq']; exact Int.emod_nonneg _ (by decide)
    have b1 : q2 < 2147483647 := by rw [← hq']; exact Int.emod_lt_of_pos _ (by decide)
    try simp only [↓S_nil, ↓S_cons, ↓S_pass, ↓S_asg, ↓S_asgt, ↓S_par2, ↓S_par3, ↓S_subT, ↓S_expr, ↓S_ret, ↓S_retN, ↓S_ifs, ↓E_var, ↓E_cint, ↓E_cstr, ↓E_cbl, ↓E_cnon, ↓E_glob, ↓E_bin, ↓E_neg, ↓E_cmp, ↓E_chain, ↓E_andn, ↓E_orn, ↓E_notn, ↓E_ife, ↓E_tupn, ↓E_lstn, ↓E_dnew, ↓E_blt, ↓E_meth, ↓E_mut, ↓E_idx, ↓E_slc, ↓E_isi, ↓T_var, ↓T_cint, ↓T_cstr, ↓T_cbl, ↓T_glob, ↓T_bin, ↓T_cmp, ↓T_neg, ↓T_chain, ↓T_call, ↓T_blt, ↓T_meth, ↓T_idx, ↓T_slc, ↓T_isi, ↓T_comp, ↓T_tupn, ↓T_lstn, ↓T_andn, ↓T_orn, ↓T_notn, ↓T_ife, ↓T_nil, ↓O_nil, ↓O_var, ↓O_cint, ↓O_neg, ↓O_bin, ↓O_blt, ↓O_glob, ↓A_nil, ↓A_cons, ↓B_nil, ↓B_cons, ↓C_nil, ↓C_io, ↓C_im, ↓rd_im, ↓rd_fr, ↓rd_bo, ↓fz_im, ↓fz_fr, ↓fz_bo, ↓rds_nil, ↓rds_cons, ↓ret_im, ↓ret_fr, ↓ret_bo, ↓rdC_nil, ↓rdC_im, ↓rdC_fr, ↓rdC_bo, bos_nil, bos_im, bos_fr, bos_bo, nd_nil, nd_one, ↓putB_nil, ↓putB_im, ↓putB_fr, ↓putB_bo, ↓ex_some, ↓ex_int, ↓post_nx, ↓post_rt, tru_bl, tru_int, tru_lst, tru_tup, tru_non, cmp_eq_int, cmp_ne_int, cmp_lt_int, cmp_le_int, cmp_gt_int, cmp_ge_int, cmp_lt_str, finsE, env0, List.getElem?_cons_zero, List.getElem?_cons_succ, List.length_cons, List.length_nil, List.replicate, List.cons_append, List.nil_append, List.append_nil, reduceIte, Bool.not_true, Bool.not_false, Bool.false_eq_true, if_true, if_false, true_and, and_true, ite_true, ite_false, Option.map_some, List.set_cons_zero, List.set_cons_succ, dIsi, dIdx, at1, dBin]
    refine ⟨IntMulOk.of_left (intBits_le_64 (by omega) (by omega)), by decide, ⟨by decide, div_plain (by decide) (by decide)⟩, by omega, [potD p q2], rfl, hq _ p q2 (Int.emod_nonneg _ (by omega)) (Int.emod_lt_of_pos _ (by omega)) ⟨p0, b0, by omega⟩⟩
def fi__law_great : FI := { io := [true, false], sp := fun ds Q _ => ∃ p q m, ds = [potD p q, .int m] ∧ PotOk p q ∧ 1 ≤ m ∧ m < 2 ^ 200 ∧ ∀ x p' q', 0 ≤ x → x < m → PotOk p' q' → Q (.im (.int x)) [potD p' q'] }
theorem great_mul {x : Int} (h0 : 0 ≤ x) (h1 : x < 2 ^ 200) : IntMulOk x (982451653 ^ (4 : Int).toNat) := by
  have hb : Builtin.Int.intBits x ≤ 200 := by
    unfold Builtin.Int.intBits
    have := log_le (n := x.natAbs) (k := 199) (by omega)
    first | omega | (split <;> omega)
  have hc : Builtin.Int.intBits (982451653 ^ (4 : Int).toNat) ≤ 128 := by decide +kernel
  unfold IntMulOk
  intro h
  simp only [Bool.and_eq_true] at h
  have h2 := h.2
  unfold Builtin.Int.intTooBig at h2
  have h2 := of_decide_eq_true h2
  revert h2
  generalize Builtin.Int.intBits x = a at hb
  generalize Builtin.Int.intBits (982451653 ^ (4 : Int).toNat) = b at hc
  intro h2
  have hbl : 1000 ≤ bitsLine := by decide +kernel
  omega
theorem k__law_great (Γ : Ga) (h1 : Γ.fn "_law_draw" = some fi__law_draw) : Keeps Γ 2 sm__law_great fi__law_great := by
  rintro ds Q E ⟨p, q, m, rfl, ok, m1, m2, hq⟩
  refine ⟨rfl, by decide, ?_⟩
  try simp only [sm__law_great, fi__law_great, potD, ↓S_nil, ↓S_cons, ↓S_pass, ↓S_asg, ↓S_asgt, ↓S_par2, ↓S_par3, ↓S_subT, ↓S_expr, ↓S_ret, ↓S_retN, ↓S_ifs, ↓E_var, ↓E_cint, ↓E_cstr, ↓E_cbl, ↓E_cnon, ↓E_glob, ↓E_bin, ↓E_neg, ↓E_cmp, ↓E_chain, ↓E_andn, ↓E_orn, ↓E_notn, ↓E_ife, ↓E_tupn, ↓E_lstn, ↓E_dnew, ↓E_blt, ↓E_meth, ↓E_mut, ↓E_idx, ↓E_slc, ↓E_isi, ↓T_var, ↓T_cint, ↓T_cstr, ↓T_cbl, ↓T_glob, ↓T_bin, ↓T_cmp, ↓T_neg, ↓T_chain, ↓T_call, ↓T_blt, ↓T_meth, ↓T_idx, ↓T_slc, ↓T_isi, ↓T_comp, ↓T_tupn, ↓T_lstn, ↓T_andn, ↓T_orn, ↓T_notn, ↓T_ife, ↓T_nil, ↓O_nil, ↓O_var, ↓O_cint, ↓O_neg, ↓O_bin, ↓O_blt, ↓O_glob, ↓A_nil, ↓A_cons, ↓B_nil, ↓B_cons, ↓C_nil, ↓C_io, ↓C_im, ↓rd_im, ↓rd_fr, ↓rd_bo, ↓fz_im, ↓fz_fr, ↓fz_bo, ↓rds_nil, ↓rds_cons, ↓ret_im, ↓ret_fr, ↓ret_bo, ↓rdC_nil, ↓rdC_im, ↓rdC_fr, ↓rdC_bo, bos_nil, bos_im, bos_fr, bos_bo, nd_nil, nd_one, ↓putB_nil, ↓putB_im, ↓putB_fr, ↓putB_bo, ↓ex_some, ↓ex_int, ↓post_nx, ↓post_rt, tru_bl, tru_int, tru_lst, tru_tup, tru_non, cmp_eq_int, cmp_ne_int, cmp_lt_int, cmp_le_int, cmp_gt_int, cmp_ge_int, cmp_lt_str, finsE, env0, List.getElem?_cons_zero, List.getElem?_cons_succ, List.length_cons, List.length_nil, List.replicate, List.cons_append, List.nil_append, List.append_nil, reduceIte, Bool.not_true, Bool.not_false, Bool.false_eq_true, if_true, if_false, true_and, and_true, ite_true, ite_false, Option.map_some, List.set_cons_zero, List.set_cons_succ, dIsi, ↓E_call' h1, fi__law_draw, isOwnR, isOwn]
  refine ⟨p, q, m, rfl, ok, m1, m2, fun x p' q' x0 x1 ok' => ?_⟩
  try simp only [potD, putS, ↓S_nil, ↓S_cons, ↓S_pass, ↓S_asg, ↓S_asgt, ↓S_par2, ↓S_par3, ↓S_subT, ↓S_expr, ↓S_ret, ↓S_retN, ↓S_ifs, ↓E_var, ↓E_cint, ↓E_cstr, ↓E_cbl, ↓E_cnon, ↓E_glob, ↓E_bin, ↓E_neg, ↓E_cmp, ↓E_chain, ↓E_andn, ↓E_orn, ↓E_notn, ↓E_ife, ↓E_tupn, ↓E_lstn, ↓E_dnew, ↓E_blt, ↓E_meth, ↓E_mut, ↓E_idx, ↓E_slc, ↓E_isi, ↓T_var, ↓T_cint, ↓T_cstr, ↓T_cbl, ↓T_glob, ↓T_bin, ↓T_cmp, ↓T_neg, ↓T_chain, ↓T_call, ↓T_blt, ↓T_meth, ↓T_idx, ↓T_slc, ↓T_isi, ↓T_comp, ↓T_tupn, ↓T_lstn, ↓T_andn, ↓T_orn, ↓T_notn, ↓T_ife, ↓T_nil, ↓O_nil, ↓O_var, ↓O_cint, ↓O_neg, ↓O_bin, ↓O_blt, ↓O_glob, ↓A_nil, ↓A_cons, ↓B_nil, ↓B_cons, ↓C_nil, ↓C_io, ↓C_im, ↓rd_im, ↓rd_fr, ↓rd_bo, ↓fz_im, ↓fz_fr, ↓fz_bo, ↓rds_nil, ↓rds_cons, ↓ret_im, ↓ret_fr, ↓ret_bo, ↓rdC_nil, ↓rdC_im, ↓rdC_fr, ↓rdC_bo, bos_nil, bos_im, bos_fr, bos_bo, nd_nil, nd_one, ↓putB_nil, ↓putB_im, ↓putB_fr, ↓putB_bo, ↓ex_some, ↓ex_int, ↓post_nx, ↓post_rt, tru_bl, tru_int, tru_lst, tru_tup, tru_non, cmp_eq_int, cmp_ne_int, cmp_lt_int, cmp_le_int, cmp_gt_int, cmp_ge_int, cmp_lt_str, finsE, env0, List.getElem?_cons_zero, List.getElem?_cons_succ, List.length_cons, List.length_nil, List.replicate, List.cons_append, List.nil_append, List.append_nil, reduceIte, Bool.not_true, Bool.not_false, Bool.false_eq_true, if_true, if_false, true_and, and_true, ite_true, ite_false, Option.map_some, List.set_cons_zero, List.set_cons_succ, dIsi, dBin]
  exact ⟨⟨by decide, by decide, by decide⟩, great_mul x0 (by omega), by omega, hq _ p' q' (Int.emod_nonneg _ (by omega)) (Int.emod_lt_of_pos _ (by omega)) ok'⟩
def fi__law_room : FI := { io := [true, false], sp := fun ds Q _ => ∃ p q g, ds = [potD p q, .bl g] ∧ PotOk p q ∧ ∀ x p' q', 0 ≤ x → PotOk p' q' → Q (.im (.int x)) [potD p' q'] }
theorem at_some {l : List Int} {x : Int} (h0 : 0 ≤ x) (h1 : x < l.length) : ∃ m ∈ l, L2.atI (l.map D.int) x = some (.int m) := by
  obtain ⟨k, rfl⟩ := Int.eq_ofNat_of_zero_le h0
  have hk : k < l.length := by omega
  exact ⟨l[k], List.getElem_mem hk, L2.atI_nat (by rw [List.getElem?_map, List.getElem?_eq_getElem hk]; rfl)⟩
theorem k__law_room (Γ : Ga) (h1 : Γ.fn "_law_draw" = some fi__law_draw) (h2 : Γ.fn "_law_great" = some fi__law_great) : Keeps Γ 3 sm__law_room fi__law_room := by
  rintro ds Q E ⟨p, q, g, rfl, ok, hq⟩
  refine ⟨rfl, by decide, ?_⟩
  unfold sm__law_room
  refine S_seq fun nx hnx => ?_
  try simp only [fi__law_room, potD, ↓S_nil, ↓S_cons, ↓S_pass, ↓S_asg, ↓S_asgt, ↓S_par2, ↓S_par3, ↓S_subT, ↓S_expr, ↓S_ret, ↓S_retN, ↓S_ifs, ↓E_var, ↓E_cint, ↓E_cstr, ↓E_cbl, ↓E_cnon, ↓E_glob, ↓E_bin, ↓E_neg, ↓E_cmp, ↓E_chain, ↓E_andn, ↓E_orn, ↓E_notn, ↓E_ife, ↓E_tupn, ↓E_lstn, ↓E_dnew, ↓E_blt, ↓E_meth, ↓E_mut, ↓E_idx, ↓E_slc, ↓E_isi, ↓T_var, ↓T_cint, ↓T_cstr, ↓T_cbl, ↓T_glob, ↓T_bin, ↓T_cmp, ↓T_neg, ↓T_chain, ↓T_call, ↓T_blt, ↓T_meth, ↓T_idx, ↓T_slc, ↓T_isi, ↓T_comp, ↓T_tupn, ↓T_lstn, ↓T_andn, ↓T_orn, ↓T_notn, ↓T_ife, ↓T_nil, ↓O_nil, ↓O_var, ↓O_cint, ↓O_neg, ↓O_bin, ↓O_blt, ↓O_glob, ↓A_nil, ↓A_cons, ↓B_nil, ↓B_cons, ↓C_nil, ↓C_io, ↓C_im, ↓rd_im, ↓rd_fr, ↓rd_bo, ↓fz_im, ↓fz_fr, ↓fz_bo, ↓rds_nil, ↓rds_cons, ↓ret_im, ↓ret_fr, ↓ret_bo, ↓rdC_nil, ↓rdC_im, ↓rdC_fr, ↓rdC_bo, bos_nil, bos_im, bos_fr, bos_bo, nd_nil, nd_one, ↓putB_nil, ↓putB_im, ↓putB_fr, ↓putB_bo, ↓ex_some, ↓ex_int, ↓post_nx, ↓post_rt, tru_bl, tru_int, tru_lst, tru_tup, tru_non, cmp_eq_int, cmp_ne_int, cmp_lt_int, cmp_le_int, cmp_gt_int, cmp_ge_int, cmp_lt_str, finsE, env0, List.getElem?_cons_zero, List.getElem?_cons_succ, List.length_cons, List.length_nil, List.replicate, List.cons_append, List.nil_append, List.append_nil, reduceIte, Bool.not_true, Bool.not_false, Bool.false_eq_true, if_true, if_false, true_and, and_true, ite_true, ite_false, Option.map_some, List.set_cons_zero, List.set_cons_succ, dIsi, ↓E_call' h1, fi__law_draw, isOwnR, isOwn]
  refine ⟨p, q, 4, rfl, ok, by decide, by decide, fun x p' q' x0 x1 ok' => ?_⟩
  try simp only [potD, putS, stS, ↓S_nil, ↓S_cons, ↓S_pass, ↓S_asg, ↓S_asgt, ↓S_par2, ↓S_par3, ↓S_subT, ↓S_expr, ↓S_ret, ↓S_retN, ↓S_ifs, ↓E_var, ↓E_cint, ↓E_cstr, ↓E_cbl, ↓E_cnon, ↓E_glob, ↓E_bin, ↓E_neg, ↓E_cmp, ↓E_chain, ↓E_andn, ↓E_orn, ↓E_notn, ↓E_ife, ↓E_tupn, ↓E_lstn, ↓E_dnew, ↓E_blt, ↓E_meth, ↓E_mut, ↓E_idx, ↓E_slc, ↓E_isi, ↓T_var, ↓T_cint, ↓T_cstr, ↓T_cbl, ↓T_glob, ↓T_bin, ↓T_cmp, ↓T_neg, ↓T_chain, ↓T_call, ↓T_blt, ↓T_meth, ↓T_idx, ↓T_slc, ↓T_isi, ↓T_comp, ↓T_tupn, ↓T_lstn, ↓T_andn, ↓T_orn, ↓T_notn, ↓T_ife, ↓T_nil, ↓O_nil, ↓O_var, ↓O_cint, ↓O_neg, ↓O_bin, ↓O_blt, ↓O_glob, ↓A_nil, ↓A_cons, ↓B_nil, ↓B_cons, ↓C_nil, ↓C_io, ↓C_im, ↓rd_im, ↓rd_fr, ↓rd_bo, ↓fz_im, ↓fz_fr, ↓fz_bo, ↓rds_nil, ↓rds_cons, ↓ret_im, ↓ret_fr, ↓ret_bo, ↓rdC_nil, ↓rdC_im, ↓rdC_fr, ↓rdC_bo, bos_nil, bos_im, bos_fr, bos_bo, nd_nil, nd_one, ↓putB_nil, ↓putB_im, ↓putB_fr, ↓putB_bo, ↓ex_some, ↓ex_int, ↓post_nx, ↓post_rt, tru_bl, tru_int, tru_lst, tru_tup, tru_non, cmp_eq_int, cmp_ne_int, cmp_lt_int, cmp_le_int, cmp_gt_int, cmp_ge_int, cmp_lt_str, finsE, env0, List.getElem?_cons_zero, List.getElem?_cons_succ, List.length_cons, List.length_nil, List.replicate, List.cons_append, List.nil_append, List.append_nil, reduceIte, Bool.not_true, Bool.not_false, Bool.false_eq_true, if_true, if_false, true_and, and_true, ite_true, ite_false, Option.map_some, List.set_cons_zero, List.set_cons_succ, dIsi]
  rw [hnx]
  refine S_seq fun nx hnx => ?_
  try simp only [↓S_nil, ↓S_cons, ↓S_pass, ↓S_asg, ↓S_asgt, ↓S_par2, ↓S_par3, ↓S_subT, ↓S_expr, ↓S_ret, ↓S_retN, ↓S_ifs, ↓E_var, ↓E_cint, ↓E_cstr, ↓E_cbl, ↓E_cnon, ↓E_glob, ↓E_bin, ↓E_neg, ↓E_cmp, ↓E_chain, ↓E_andn, ↓E_orn, ↓E_notn, ↓E_ife, ↓E_tupn, ↓E_lstn, ↓E_dnew, ↓E_blt, ↓E_meth, ↓E_mut, ↓E_idx, ↓E_slc, ↓E_isi, ↓T_var, ↓T_cint, ↓T_cstr, ↓T_cbl, ↓T_glob, ↓T_bin, ↓T_cmp, ↓T_neg, ↓T_chain, ↓T_call, ↓T_blt, ↓T_meth, ↓T_idx, ↓T_slc, ↓T_isi, ↓T_comp, ↓T_tupn, ↓T_lstn, ↓T_andn, ↓T_orn, ↓T_notn, ↓T_ife, ↓T_nil, ↓O_nil, ↓O_var, ↓O_cint, ↓O_neg, ↓O_bin, ↓O_blt, ↓O_glob, ↓A_nil, ↓A_cons, ↓B_nil, ↓B_cons, ↓C_nil, ↓C_io, ↓C_im, ↓rd_im, ↓rd_fr, ↓rd_bo, ↓fz_im, ↓fz_fr, ↓fz_bo, ↓rds_nil, ↓rds_cons, ↓ret_im, ↓ret_fr, ↓ret_bo, ↓rdC_nil, ↓rdC_im, ↓rdC_fr, ↓rdC_bo, bos_nil, bos_im, bos_fr, bos_bo, nd_nil, nd_one, ↓putB_nil, ↓putB_im, ↓putB_fr, ↓putB_bo, ↓ex_some, ↓ex_int, ↓post_nx, ↓post_rt, tru_bl, tru_int, tru_lst, tru_tup, tru_non, cmp_eq_int, cmp_ne_int, cmp_lt_int, cmp_le_int, cmp_gt_int, cmp_ge_int, cmp_lt_str, finsE, env0, List.getElem?_cons_zero, List.getElem?_cons_succ, List.length_cons, List.length_nil, List.replicate, List.cons_append, List.nil_append, List.append_nil, reduceIte, Bool.not_true, Bool.not_false, Bool.false_eq_true, if_true, if_false, true_and, and_true, ite_true, ite_false, Option.map_some, List.set_cons_zero, List.set_cons_succ, dIsi]
  have rest : nx [.io (potD p' q'), .im (.bl g), .im (.int x)] := by
    rw [hnx]
    try simp only [potD, ↓S_nil, ↓S_cons, ↓S_pass, ↓S_asg, ↓S_asgt, ↓S_par2, ↓S_par3, ↓S_subT, ↓S_expr, ↓S_ret, ↓S_retN, ↓S_ifs, ↓E_var, ↓E_cint, ↓E_cstr, ↓E_cbl, ↓E_cnon, ↓E_glob, ↓E_bin, ↓E_neg, ↓E_cmp, ↓E_chain, ↓E_andn, ↓E_orn, ↓E_notn, ↓E_ife, ↓E_tupn, ↓E_lstn, ↓E_dnew, ↓E_blt, ↓E_meth, ↓E_mut, ↓E_idx, ↓E_slc, ↓E_isi, ↓T_var, ↓T_cint, ↓T_cstr, ↓T_cbl, ↓T_glob, ↓T_bin, ↓T_cmp, ↓T_neg, ↓T_chain, ↓T_call, ↓T_blt, ↓T_meth, ↓T_idx, ↓T_slc, ↓T_isi, ↓T_comp, ↓T_tupn, ↓T_lstn, ↓T_andn, ↓T_orn, ↓T_notn, ↓T_ife, ↓T_nil, ↓O_nil, ↓O_var, ↓O_cint, ↓O_neg, ↓O_bin, ↓O_blt, ↓O_glob, ↓A_nil, ↓A_cons, ↓B_nil, ↓B_cons, ↓C_nil, ↓C_io, ↓C_im, ↓rd_im, ↓rd_fr, ↓rd_bo, ↓fz_im, ↓fz_fr, ↓fz_bo, ↓rds_nil, ↓rds_cons, ↓ret_im, ↓ret_fr, ↓ret_bo, ↓rdC_nil, ↓rdC_im, ↓rdC_fr, ↓rdC_bo, bos_nil, bos_im, bos_fr, bos_bo, nd_nil, nd_one, ↓putB_nil, ↓putB_im, ↓putB_fr, ↓putB_bo, ↓ex_some, ↓ex_int, ↓post_nx, ↓post_rt, tru_bl, tru_int, tru_lst, tru_tup, tru_non, cmp_eq_int, cmp_ne_int, cmp_lt_int, cmp_le_int, cmp_gt_int, cmp_ge_int, cmp_lt_str, finsE, env0, List.getElem?_cons_zero, List.getElem?_cons_succ, List.length_cons, List.length_nil, List.replicate, List.cons_append, List.nil_append, List.append_nil, reduceIte, Bool.not_true, Bool.not_false, Bool.false_eq_true, if_true, if_false, true_and, and_true, ite_true, ite_false, Option.map_some, List.set_cons_zero, List.set_cons_succ, dIsi, ↓E_call' h1, fi__law_draw, isOwnR, isOwn, dIdx]
    obtain ⟨m, hm, em⟩ := at_some (l := [10, 3, 2, 10]) x0 (by simpa using x1)
    have em : L2.atI [D.int 10, .int 3, .int 2, .int 10] x = some (.int m) := em
    have hm : 1 ≤ m ∧ m ≤ 10 := by
      simp only [List.mem_cons, List.not_mem_nil, or_false] at hm
      omega
    simp only [em, ex_some]
    refine ⟨by rw [PySem.sizeLine_eq]; omega, p', q', m, rfl, ok', hm.1, by omega, fun y p2 q2 y0 y1 ok2 => ?_⟩
    try simp only [potD, putS, ↓S_nil, ↓S_cons, ↓S_pass, ↓S_asg, ↓S_asgt, ↓S_par2, ↓S_par3, ↓S_subT, ↓S_expr, ↓S_ret, ↓S_retN, ↓S_ifs, ↓E_var, ↓E_cint, ↓E_cstr, ↓E_cbl, ↓E_cnon, ↓E_glob, ↓E_bin, ↓E_neg, ↓E_cmp, ↓E_chain, ↓E_andn, ↓E_orn, ↓E_notn, ↓E_ife, ↓E_tupn, ↓E_lstn, ↓E_dnew, ↓E_blt, ↓E_meth, ↓E_mut, ↓E_idx, ↓E_slc, ↓E_isi, ↓T_var, ↓T_cint, ↓T_cstr, ↓T_cbl, ↓T_glob, ↓T_bin, ↓T_cmp, ↓T_neg, ↓T_chain, ↓T_call, ↓T_blt, ↓T_meth, ↓T_idx, ↓T_slc, ↓T_isi, ↓T_comp, ↓T_tupn, ↓T_lstn, ↓T_andn, ↓T_orn, ↓T_notn, ↓T_ife, ↓T_nil, ↓O_nil, ↓O_var, ↓O_cint, ↓O_neg, ↓O_bin, ↓O_blt, ↓O_glob, ↓A_nil, ↓A_cons, ↓B_nil, ↓B_cons, ↓C_nil, ↓C_io, ↓C_im, ↓rd_im, ↓rd_fr, ↓rd_bo, ↓fz_im, ↓fz_fr, ↓fz_bo, ↓rds_nil, ↓rds_cons, ↓ret_im, ↓ret_fr, ↓ret_bo, ↓rdC_nil, ↓rdC_im, ↓rdC_fr, ↓rdC_bo, bos_nil, bos_im, bos_fr, bos_bo, nd_nil, nd_one, ↓putB_nil, ↓putB_im, ↓putB_fr, ↓putB_bo, ↓ex_some, ↓ex_int, ↓post_nx, ↓post_rt, tru_bl, tru_int, tru_lst, tru_tup, tru_non, cmp_eq_int, cmp_ne_int, cmp_lt_int, cmp_le_int, cmp_gt_int, cmp_ge_int, cmp_lt_str, finsE, env0, List.getElem?_cons_zero, List.getElem?_cons_succ, List.length_cons, List.length_nil, List.replicate, List.cons_append, List.nil_append, List.append_nil, reduceIte, Bool.not_true, Bool.not_false, Bool.false_eq_true, if_true, if_false, true_and, and_true, ite_true, ite_false, Option.map_some, List.set_cons_zero, List.set_cons_succ, dIsi]
    exact ⟨_, rfl, hq y p2 q2 y0 ok2⟩
  cases g with
  | false =>
    try simp only [↓S_nil, ↓S_cons, ↓S_pass, ↓S_asg, ↓S_asgt, ↓S_par2, ↓S_par3, ↓S_subT, ↓S_expr, ↓S_ret, ↓S_retN, ↓S_ifs, ↓E_var, ↓E_cint, ↓E_cstr, ↓E_cbl, ↓E_cnon, ↓E_glob, ↓E_bin, ↓E_neg, ↓E_cmp, ↓E_chain, ↓E_andn, ↓E_orn, ↓E_notn, ↓E_ife, ↓E_tupn, ↓E_lstn, ↓E_dnew, ↓E_blt, ↓E_meth, ↓E_mut, ↓E_idx, ↓E_slc, ↓E_isi, ↓T_var, ↓T_cint, ↓T_cstr, ↓T_cbl, ↓T_glob, ↓T_bin, ↓T_cmp, ↓T_neg, ↓T_chain, ↓T_call, ↓T_blt, ↓T_meth, ↓T_idx, ↓T_slc, ↓T_isi, ↓T_comp, ↓T_tupn, ↓T_lstn, ↓T_andn, ↓T_orn, ↓T_notn, ↓T_ife, ↓T_nil, ↓O_nil, ↓O_var, ↓O_cint, ↓O_neg, ↓O_bin, ↓O_blt, ↓O_glob, ↓A_nil, ↓A_cons, ↓B_nil, ↓B_cons, ↓C_nil, ↓C_io, ↓C_im, ↓rd_im, ↓rd_fr, ↓rd_bo, ↓fz_im, ↓fz_fr, ↓fz_bo, ↓rds_nil, ↓rds_cons, ↓ret_im, ↓ret_fr, ↓ret_bo, ↓rdC_nil, ↓rdC_im, ↓rdC_fr, ↓rdC_bo, bos_nil, bos_im, bos_fr, bos_bo, nd_nil, nd_one, ↓putB_nil, ↓putB_im, ↓putB_fr, ↓putB_bo, ↓ex_some, ↓ex_int, ↓post_nx, ↓post_rt, tru_bl, tru_int, tru_lst, tru_tup, tru_non, cmp_eq_int, cmp_ne_int, cmp_lt_int, cmp_le_int, cmp_gt_int, cmp_ge_int, cmp_lt_str, finsE, env0, List.getElem?_cons_zero, List.getElem?_cons_succ, List.length_cons, List.length_nil, List.replicate, List.cons_append, List.nil_append, List.append_nil, reduceIte, Bool.not_true, Bool.not_false, Bool.false_eq_true, if_true, if_false, true_and, and_true, ite_true, ite_false, Option.map_some, List.set_cons_zero, List.set_cons_succ, dIsi]
    exact rest
  | true =>
    try simp only [↓S_nil, ↓S_cons, ↓S_pass, ↓S_asg, ↓S_asgt, ↓S_par2, ↓S_par3, ↓S_subT, ↓S_expr, ↓S_ret, ↓S_retN, ↓S_ifs, ↓E_var, ↓E_cint, ↓E_cstr, ↓E_cbl, ↓E_cnon, ↓E_glob, ↓E_bin, ↓E_neg, ↓E_cmp, ↓E_chain, ↓E_andn, ↓E_orn, ↓E_notn, ↓E_ife, ↓E_tupn, ↓E_lstn, ↓E_dnew, ↓E_blt, ↓E_meth, ↓E_mut, ↓E_idx, ↓E_slc, ↓E_isi, ↓T_var, ↓T_cint, ↓T_cstr, ↓T_cbl, ↓T_glob, ↓T_bin, ↓T_cmp, ↓T_neg, ↓T_chain, ↓T_call, ↓T_blt, ↓T_meth, ↓T_idx, ↓T_slc, ↓T_isi, ↓T_comp, ↓T_tupn, ↓T_lstn, ↓T_andn, ↓T_orn, ↓T_notn, ↓T_ife, ↓T_nil, ↓O_nil, ↓O_var, ↓O_cint, ↓O_neg, ↓O_bin, ↓O_blt, ↓O_glob, ↓A_nil, ↓A_cons, ↓B_nil, ↓B_cons, ↓C_nil, ↓C_io, ↓C_im, ↓rd_im, ↓rd_fr, ↓rd_bo, ↓fz_im, ↓fz_fr, ↓fz_bo, ↓rds_nil, ↓rds_cons, ↓ret_im, ↓ret_fr, ↓ret_bo, ↓rdC_nil, ↓rdC_im, ↓rdC_fr, ↓rdC_bo, bos_nil, bos_im, bos_fr, bos_bo, nd_nil, nd_one, ↓putB_nil, ↓putB_im, ↓putB_fr, ↓putB_bo, ↓ex_some, ↓ex_int, ↓post_nx, ↓post_rt, tru_bl, tru_int, tru_lst, tru_tup, tru_non, cmp_eq_int, cmp_ne_int, cmp_lt_int, cmp_le_int, cmp_gt_int, cmp_ge_int, cmp_lt_str, finsE, env0, List.getElem?_cons_zero, List.getElem?_cons_succ, List.length_cons, List.length_nil, List.replicate, List.cons_append, List.nil_append, List.append_nil, reduceIte, Bool.not_true, Bool.not_false, Bool.false_eq_true, if_true, if_false, true_and, and_true, ite_true, ite_false, Option.map_some, List.set_cons_zero, List.set_cons_succ, dIsi]
    by_cases h : x = 3
    · subst h
      try simp only [potD, ↓S_nil, ↓S_cons, ↓S_pass, ↓S_asg, ↓S_asgt, ↓S_par2, ↓S_par3, ↓S_subT, ↓S_expr, ↓S_ret, ↓S_retN, ↓S_ifs, ↓E_var, ↓E_cint, ↓E_cstr, ↓E_cbl, ↓E_cnon, ↓E_glob, ↓E_bin, ↓E_neg, ↓E_cmp, ↓E_chain, ↓E_andn, ↓E_orn, ↓E_notn, ↓E_ife, ↓E_tupn, ↓E_lstn, ↓E_dnew, ↓E_blt, ↓E_meth, ↓E_mut, ↓E_idx, ↓E_slc, ↓E_isi, ↓T_var, ↓T_cint, ↓T_cstr, ↓T_cbl, ↓T_glob, ↓T_bin, ↓T_cmp, ↓T_neg, ↓T_chain, ↓T_call, ↓T_blt, ↓T_meth, ↓T_idx, ↓T_slc, ↓T_isi, ↓T_comp, ↓T_tupn, ↓T_lstn, ↓T_andn, ↓T_orn, ↓T_notn, ↓T_ife, ↓T_nil, ↓O_nil, ↓O_var, ↓O_cint, ↓O_neg, ↓O_bin, ↓O_blt, ↓O_glob, ↓A_nil, ↓A_cons, ↓B_nil, ↓B_cons, ↓C_nil, ↓C_io, ↓C_im, ↓rd_im, ↓rd_fr, ↓rd_bo, ↓fz_im, ↓fz_fr, ↓fz_bo, ↓rds_nil, ↓rds_cons, ↓ret_im, ↓ret_fr, ↓ret_bo, ↓rdC_nil, ↓rdC_im, ↓rdC_fr, ↓rdC_bo, bos_nil, bos_im, bos_fr, bos_bo, nd_nil, nd_one, ↓putB_nil, ↓putB_im, ↓putB_fr, ↓putB_bo, ↓ex_some, ↓ex_int, ↓post_nx, ↓post_rt, tru_bl, tru_int, tru_lst, tru_tup, tru_non, cmp_eq_int, cmp_ne_int, cmp_lt_int, cmp_le_int, cmp_gt_int, cmp_ge_int, cmp_lt_str, finsE, env0, List.getElem?_cons_zero, List.getElem?_cons_succ, List.length_cons, List.length_nil, List.replicate, List.cons_append, List.nil_append, List.append_nil, reduceIte, Bool.not_true, Bool.not_false, Bool.false_eq_true, if_true, if_false, true_and, and_true, ite_true, ite_false, Option.map_some, List.set_cons_zero, List.set_cons_succ, dIsi, ↓E_call' h2, fi__law_great, isOwnR, isOwn, dBin]
      rw [if_pos (by decide)]
      refine ⟨⟨by decide, by decide, by decide⟩, p', q', _, rfl, ok', by decide, by decide, fun y p2 q2 y0 y1 ok2 => ?_⟩
      try simp only [potD, putS, ↓S_nil, ↓S_cons, ↓S_pass, ↓S_asg, ↓S_asgt, ↓S_par2, ↓S_par3, ↓S_subT, ↓S_expr, ↓S_ret, ↓S_retN, ↓S_ifs, ↓E_var, ↓E_cint, ↓E_cstr, ↓E_cbl, ↓E_cnon, ↓E_glob, ↓E_bin, ↓E_neg, ↓E_cmp, ↓E_chain, ↓E_andn, ↓E_orn, ↓E_notn, ↓E_ife, ↓E_tupn, ↓E_lstn, ↓E_dnew, ↓E_blt, ↓E_meth, ↓E_mut, ↓E_idx, ↓E_slc, ↓E_isi, ↓T_var, ↓T_cint, ↓T_cstr, ↓T_cbl, ↓T_glob, ↓T_bin, ↓T_cmp, ↓T_neg, ↓T_chain, ↓T_call, ↓T_blt, ↓T_meth, ↓T_idx, ↓T_slc, ↓T_isi, ↓T_comp, ↓T_tupn, ↓T_lstn, ↓T_andn, ↓T_orn, ↓T_notn, ↓T_ife, ↓T_nil, ↓O_nil, ↓O_var, ↓O_cint, ↓O_neg, ↓O_bin, ↓O_blt, ↓O_glob, ↓A_nil, ↓A_cons, ↓B_nil, ↓B_cons, ↓C_nil, ↓C_io, ↓C_im, ↓rd_im, ↓rd_fr, ↓rd_bo, ↓fz_im, ↓fz_fr, ↓fz_bo, ↓rds_nil, ↓rds_cons, ↓ret_im, ↓ret_fr, ↓ret_bo, ↓rdC_nil, ↓rdC_im, ↓rdC_fr, ↓rdC_bo, bos_nil, bos_im, bos_fr, bos_bo, nd_nil, nd_one, ↓putB_nil, ↓putB_im, ↓putB_fr, ↓putB_bo, ↓ex_some, ↓ex_int, ↓post_nx, ↓post_rt, tru_bl, tru_int, tru_lst, tru_tup, tru_non, cmp_eq_int, cmp_ne_int, cmp_lt_int, cmp_le_int, cmp_gt_int, cmp_ge_int, cmp_lt_str, finsE, env0, List.getElem?_cons_zero, List.getElem?_cons_succ, List.length_cons, List.length_nil, List.replicate, List.cons_append, List.nil_append, List.append_nil, reduceIte, Bool.not_true, Bool.not_false, Bool.false_eq_true, if_true, if_false, true_and, and_true, ite_true, ite_false, Option.map_some, List.set_cons_zero, List.set_cons_succ, dIsi]
      exact ⟨_, rfl, hq y p2 q2 y0 ok2⟩
    · rw [show (x == 3) = false by simpa using h]
      try simp only [↓S_nil, ↓S_cons, ↓S_pass, ↓S_asg, ↓S_asgt, ↓S_par2, ↓S_par3, ↓S_subT, ↓S_expr, ↓S_ret, ↓S_retN, ↓S_ifs, ↓E_var, ↓E_cint, ↓E_cstr, ↓E_cbl, ↓E_cnon, ↓E_glob, ↓E_bin, ↓E_neg, ↓E_cmp, ↓E_chain, ↓E_andn, ↓E_orn, ↓E_notn, ↓E_ife, ↓E_tupn, ↓E_lstn, ↓E_dnew, ↓E_blt, ↓E_meth, ↓E_mut, ↓E_idx, ↓E_slc, ↓E_isi, ↓T_var, ↓T_cint, ↓T_cstr, ↓T_cbl, ↓T_glob, ↓T_bin, ↓T_cmp, ↓T_neg, ↓T_chain, ↓T_call, ↓T_blt, ↓T_meth, ↓T_idx, ↓T_slc, ↓T_isi, ↓T_comp, ↓T_tupn, ↓T_lstn, ↓T_andn, ↓T_orn, ↓T_notn, ↓T_ife, ↓T_nil, ↓O_nil, ↓O_var, ↓O_cint, ↓O_neg, ↓O_bin, ↓O_blt, ↓O_glob, ↓A_nil, ↓A_cons, ↓B_nil, ↓B_cons, ↓C_nil, ↓C_io, ↓C_im, ↓rd_im, ↓rd_fr, ↓rd_bo, ↓fz_im, ↓fz_fr, ↓fz_bo, ↓rds_nil, ↓rds_cons, ↓ret_im, ↓ret_fr, ↓ret_bo, ↓rdC_nil, ↓rdC_im, ↓rdC_fr, ↓rdC_bo, bos_nil, bos_im, bos_fr, bos_bo, nd_nil, nd_one, ↓putB_nil, ↓putB_im, ↓putB_fr, ↓putB_bo, ↓ex_some, ↓ex_int, ↓post_nx, ↓post_rt, tru_bl, tru_int, tru_lst, tru_tup, tru_non, cmp_eq_int, cmp_ne_int, cmp_lt_int, cmp_le_int, cmp_gt_int, cmp_ge_int, cmp_lt_str, finsE, env0, List.getElem?_cons_zero, List.getElem?_cons_succ, List.length_cons, List.length_nil, List.replicate, List.cons_append, List.nil_append, List.append_nil, reduceIte, Bool.not_true, Bool.not_false, Bool.false_eq_true, if_true, if_false, true_and, and_true, ite_true, ite_false, Option.map_some, List.set_cons_zero, List.set_cons_succ, dIsi]
      exact rest
end LW
end
section
namespace LW
open PySem TG
theorem letters_ix : ∀ k : Nat, k < 26 → letters.cps.toList[k]? = some (97 + k) := by decide +kernel
theorem letters_at {i : Int} (h0 : 0 ≤ i) (h1 : i < 26) : L2.atI letters.cps.toList i = some (97 + i.toNat) := by
  obtain ⟨k, rfl⟩ := Int.eq_ofNat_of_zero_le h0
  exact L2.atI_nat (letters_ix k (by omega))
theorem letters_mem : ∀ k : Nat, k < 26 → 97 + k ∈ letters.cps.toList := fun k h => List.mem_of_getElem? (letters_ix k h)
/-- the last sign of a name -/
def lastS (x : Str) : Option Nat := x.cps.toList.getLast?
theorem step_inj {s b : Nat} (hs : s = 1 ∨ s = 5) {i j : Nat} (hi : i < 26) (hj : j < 26) (e : (b + s * i) % 26 = (b + s * j) % 26) : i = j := by
  rcases hs with rfl | rfl <;> omega
theorem nodup_of_last {ns : List Str} {f : Nat → Nat} (h : ns.map lastS = (List.range ns.length).map fun k => some (97 + f k)) (hf : ∀ i j, i < ns.length → j < ns.length → f i = f j → i = j) : ns.Nodup := by
  have : (ns.map lastS).Nodup := by
    rw [h]
    refine List.Pairwise.imp_of_mem ?_ (List.pairwise_map.mpr ?_ : List.Pairwise (· ≠ ·) _)
    · exact fun _ _ h => h
    · refine List.Pairwise.imp_of_mem (fun {a b} ha hb hab e => ?_) (List.nodup_range (n := ns.length))
      have ha := List.mem_range.mp ha
      have hb := List.mem_range.mp hb
      have e : 97 + f a = 97 + f b := Option.some.inj e
      exact hab (hf a b ha hb (by omega))
  exact List.Pairwise.imp (fun h e => h (by rw [e])) (List.pairwise_map.mp this)
theorem strlen_push {x : Str} {c : Nat} : (x ++ (⟨#[c]⟩ : Str)).length = x.length + 1 := by
  show (x.cps ++ #[c]).size = x.cps.size + 1
  simp
theorem last_push {x : Str} {c : Nat} : lastS (x ++ (⟨#[c]⟩ : Str)) = some c := by
  show ((x.cps ++ #[c]).toList).getLast? = some c
  simp
theorem mem_push {x : Str} {c d : Nat} : d ∈ (x ++ (⟨#[c]⟩ : Str)).cps.toList ↔ d ∈ x.cps.toList ∨ d = c := by
  show d ∈ (x.cps ++ #[c]).toList ↔ _
  simp
end LW
end
section
namespace LW
open PySem TG
/-- the cut, by any test of places -/
def cut (w : Web) (p : Str → Bool) : Int := (w.rows.map fun r => if p r.a != p r.b then r.r else 0).sum
theorem roomSum_cut (w : Web) (l : List Str) : roomSum w l = cut w fun x => decide (x ∈ l) := by
  unfold roomSum rowsOf cut
  induction w.rows with
  | nil => rfl
  | cons r rows ih =>
    rw [List.filter_cons, List.map_cons, List.sum_cons, ← ih]
    show (((if leav l r = true then r :: rows.filter (leav l) else rows.filter (leav l)).map (·.r))).sum = (if leav l r = true then r.r else 0) + _
    by_cases h : leav l r = true
    · rw [if_pos h, if_pos h, List.map_cons, List.sum_cons]
    · rw [if_neg h, if_neg h, Int.zero_add]
theorem cut_congr {w : Web} {ps : List Str} (hr : ∀ r ∈ w.rows, RowOk ps r) {p q : Str → Bool} (h : ∀ x ∈ ps, p x = q x) : cut w p = cut w q := by
  unfold cut
  congr 1
  refine List.map_congr_left fun r hr' => ?_
  rw [h _ (hr r hr').a, h _ (hr r hr').b]
theorem cut_not (w : Web) (p : Str → Bool) : (cut w fun x => !p x) = cut w p := by
  unfold cut
  congr 1
  refine List.map_congr_left fun r _ => ?_
  show (if ((!p r.a) != !p r.b) = true then r.r else 0) = if (p r.a != p r.b) = true then r.r else 0
  cases p r.a <;> cases p r.b <;> rfl
/-- two cuts under two others, row by row -/
theorem cut_two {w : Web} {ps : List Str} (hr : ∀ r ∈ w.rows, RowOk ps r) {p q s t : Str → Bool} (h : ∀ x y : Str, ((p x != p y).toNat + (q x != q y).toNat : Nat) ≤ (s x != s y).toNat + (t x != t y).toNat) : cut w p + cut w q ≤ cut w s + cut w t := by
  unfold cut
  have : ∀ rows : List Row, (∀ r ∈ rows, 0 ≤ r.r) → (rows.map fun r => if p r.a != p r.b then r.r else 0).sum + (rows.map fun r => if q r.a != q r.b then r.r else 0).sum ≤ (rows.map fun r => if s r.a != s r.b then r.r else 0).sum + (rows.map fun r => if t r.a != t r.b then r.r else 0).sum := by
    intro rows
    induction rows with
    | nil => intro _; simp
    | cons r rows ih =>
      intro h0
      have i1 := ih fun x hx => h0 x (List.mem_cons_of_mem _ hx)
      have r0 := h0 r List.mem_cons_self
      have hh := h r.a r.b
      simp only [List.map_cons, List.sum_cons]
      generalize (List.map (fun r : Row => if p r.a != p r.b then r.r else 0) rows).sum = A at i1 ⊢
      generalize (List.map (fun r : Row => if q r.a != q r.b then r.r else 0) rows).sum = B at i1 ⊢
      generalize (List.map (fun r : Row => if s r.a != s r.b then r.r else 0) rows).sum = C at i1 ⊢
      generalize (List.map (fun r : Row => if t r.a != t r.b then r.r else 0) rows).sum = D at i1 ⊢
      revert hh
      cases (p r.a != p r.b) <;> cases (q r.a != q r.b) <;> cases (s r.a != s r.b) <;> cases (t r.a != t r.b) <;> simp <;> omega
  exact this w.rows fun r h' => (hr r h').r
theorem cut_inter {w : Web} {ps : List Str} (hr : ∀ r ∈ w.rows, RowOk ps r) (s t : Str → Bool) : (cut w fun x => s x && t x) + (cut w fun x => s x || t x) ≤ cut w s + cut w t :=
  cut_two hr fun x y => by cases s x <;> cases s y <;> cases t x <;> cases t y <;> decide
theorem cut_diff {w : Web} {ps : List Str} (hr : ∀ r ∈ w.rows, RowOk ps r) (s t : Str → Bool) : (cut w fun x => s x && !t x) + (cut w fun x => t x && !s x) ≤ cut w s + cut w t :=
  cut_two hr fun x y => by cases s x <;> cases s y <;> cases t x <;> cases t y <;> decide
theorem cut_zero (w : Web) : (cut w fun _ => false) = 0 := by
  unfold cut
  induction w.rows with
  | nil => rfl
  | cons r rows ih => rw [List.map_cons, List.sum_cons, ih]; rfl
theorem cut_one (w : Web) : (cut w fun _ => true) = 0 := (cut_not w fun _ => false).trans (cut_zero w)
theorem cut_sym {w : Web} {ps : List Str} (hr : ∀ r ∈ w.rows, RowOk ps r) (s t : Str → Bool) : (cut w fun x => s x != t x) ≤ cut w s + cut w t := by
  have := cut_two (w := w) hr (p := fun x => s x != t x) (q := fun _ => false) (s := s) (t := t) fun x y => by cases s x <;> cases s y <;> cases t x <;> cases t y <;> decide
  rw [cut_zero] at this
  omega
end LW
end
section
namespace LW
open PySem TG
theorem joinL0 : ∀ ps : List (List Nat), TL.joinL [] ps = ps.flatten
  | [] => rfl
  | [p] => by simp [TL.joinL]
  | p :: q :: r => by
    have ih := joinL0 (q :: r)
    show p ++ ([] ++ TL.joinL [] (q :: r)) = _
    rw [ih]; simp
theorem join0 (ws : List Str) : (Txt.join "" ws).cps.toList = (ws.map fun w => w.cps.toList).flatten := by
  rw [TL.join_eq]
  exact (TL.tl_join "" ws).trans (joinL0 _)
end LW
end
section
namespace LW
open PySem TG
def fi__law_names : FI := { io := [true, false], sp := fun ds Q _ => ∃ p q, ∃ m : Nat, ds = [potD p q, .int m] ∧ PotOk p q ∧ m ≤ 25 ∧ ∀ (ns : List Str) p' q', ns.length = m → (∀ x ∈ ns, NameOk x) → ns.Nodup → PotOk p' q' → Q (.fr (.lst (ns.map .str))) [potD p' q'] }
theorem let_sl : letters.length ≤ sizeLine := by rw [PySem.sizeLine_eq]; decide +kernel
/-- letters[i] -/
theorem ix_letters {i : Int} {K : D → Prop} (h0 : 0 ≤ i) (h1 : i < 26) : dIdx (.str letters) (.int i) K = K (.str ⟨#[97 + i.toNat]⟩) := by
  refine propext ⟨fun ⟨_, c, e, h⟩ => ?_, fun h => ⟨let_sl, _, letters_at h0 h1, h⟩⟩
  rw [letters_at h0 h1] at e
  cases e; exact h
theorem strs_map : ∀ ws : List Str, strsD (ws.map D.str) = some ws
  | [] => rfl
  | w :: ws => by rw [List.map_cons, strsD, strs_map ws]; rfl
theorem sum_len : ∀ ws : List Str, (∀ w ∈ ws, ∃ c, c < 26 ∧ w = ⟨#[97 + c]⟩) → (ws.map (·.length)).sum = ws.length
  | [], _ => rfl
  | w :: ws, h => by
    obtain ⟨c, _, rfl⟩ := h w List.mem_cons_self
    rw [List.map_cons, List.sum_cons, sum_len ws fun x hx => h x (List.mem_cons_of_mem _ hx), List.length_cons]
    show 1 + _ = _
    omega
theorem word_ok (ws : List Str) (h : ∀ w ∈ ws, ∃ c, c < 26 ∧ w = ⟨#[97 + c]⟩) : (Txt.join "" ws).length = ws.length ∧ ∀ c ∈ (Txt.join "" ws).cps.toList, c ∈ letters.cps.toList := by
  refine ⟨?_, fun c hc => ?_⟩
  · show (Txt.join "" ws).cps.size = _
    rw [← Array.length_toList, join0, List.length_flatten, List.map_map]
    exact sum_len ws h
  · rw [join0] at hc
    obtain ⟨l, hl, hcl⟩ := List.mem_flatten.mp hc
    obtain ⟨w, hw, rfl⟩ := List.mem_map.mp hl
    obtain ⟨d, hd, rfl⟩ := h w hw
    have : c = 97 + d := by simpa using hcl
    rw [this]; exact letters_mem d hd
theorem k__law_names (Γ : Ga) (h1 : Γ.fn "_law_draw" = some fi__law_draw) : Keeps Γ 9 sm__law_names fi__law_names := by
  rintro ds Q E ⟨p, q, m, rfl, ok, hm, hq⟩
  refine ⟨rfl, by decide, ?_⟩
  have el : (Str.ofString "abcdefghijklmnopqrstuvwxyz") = letters := rfl
  unfold sm__law_names
  refine S_seq fun nx hnx => ?_
  try simp only [fi__law_names, potD, ↓S_nil, ↓S_cons, ↓S_pass, ↓S_asg, ↓S_asgt, ↓S_par2, ↓S_par3, ↓S_subT, ↓S_expr, ↓S_ret, ↓S_retN, ↓S_ifs, ↓E_var, ↓E_cint, ↓E_cstr, ↓E_cbl, ↓E_cnon, ↓E_glob, ↓E_bin, ↓E_neg, ↓E_cmp, ↓E_chain, ↓E_andn, ↓E_orn, ↓E_notn, ↓E_ife, ↓E_tupn, ↓E_lstn, ↓E_dnew, ↓E_blt, ↓E_meth, ↓E_mut, ↓E_idx, ↓E_slc, ↓E_isi, ↓T_var, ↓T_cint, ↓T_cstr, ↓T_cbl, ↓T_glob, ↓T_bin, ↓T_cmp, ↓T_neg, ↓T_chain, ↓T_call, ↓T_blt, ↓T_meth, ↓T_idx, ↓T_slc, ↓T_isi, ↓T_comp, ↓T_tupn, ↓T_lstn, ↓T_andn, ↓T_orn, ↓T_notn, ↓T_ife, ↓T_nil, ↓O_nil, ↓O_var, ↓O_cint, ↓O_neg, ↓O_bin, ↓O_blt, ↓O_glob, ↓A_nil, ↓A_cons, ↓B_nil, ↓B_cons, ↓C_nil, ↓C_io, ↓C_im, ↓rd_im, ↓rd_fr, ↓rd_bo, ↓fz_im, ↓fz_fr, ↓fz_bo, ↓rds_nil, ↓rds_cons, ↓ret_im, ↓ret_fr, ↓ret_bo, ↓rdC_nil, ↓rdC_im, ↓rdC_fr, ↓rdC_bo, bos_nil, bos_im, bos_fr, bos_bo, nd_nil, nd_one, ↓putB_nil, ↓putB_im, ↓putB_fr, ↓putB_bo, ↓ex_some, ↓ex_int, ↓post_nx, ↓post_rt, tru_bl, tru_int, tru_lst, tru_tup, tru_non, cmp_eq_int, cmp_ne_int, cmp_lt_int, cmp_le_int, cmp_gt_int, cmp_ge_int, cmp_lt_str, finsE, env0, List.getElem?_cons_zero, List.getElem?_cons_succ, List.length_cons, List.length_nil, List.replicate, List.cons_append, List.nil_append, List.append_nil, reduceIte, Bool.not_true, Bool.not_false, Bool.false_eq_true, if_true, if_false, true_and, and_true, ite_true, ite_false, Option.map_some, List.set_cons_zero, List.set_cons_succ, dIsi, stS, el]
  rw [hnx]
  refine S_seq fun nx hnx => ?_
  try simp only [↓S_nil, ↓S_cons, ↓S_pass, ↓S_asg, ↓S_asgt, ↓S_par2, ↓S_par3, ↓S_subT, ↓S_expr, ↓S_ret, ↓S_retN, ↓S_ifs, ↓E_var, ↓E_cint, ↓E_cstr, ↓E_cbl, ↓E_cnon, ↓E_glob, ↓E_bin, ↓E_neg, ↓E_cmp, ↓E_chain, ↓E_andn, ↓E_orn, ↓E_notn, ↓E_ife, ↓E_tupn, ↓E_lstn, ↓E_dnew, ↓E_blt, ↓E_meth, ↓E_mut, ↓E_idx, ↓E_slc, ↓E_isi, ↓T_var, ↓T_cint, ↓T_cstr, ↓T_cbl, ↓T_glob, ↓T_bin, ↓T_cmp, ↓T_neg, ↓T_chain, ↓T_call, ↓T_blt, ↓T_meth, ↓T_idx, ↓T_slc, ↓T_isi, ↓T_comp, ↓T_tupn, ↓T_lstn, ↓T_andn, ↓T_orn, ↓T_notn, ↓T_ife, ↓T_nil, ↓O_nil, ↓O_var, ↓O_cint, ↓O_neg, ↓O_bin, ↓O_blt, ↓O_glob, ↓A_nil, ↓A_cons, ↓B_nil, ↓B_cons, ↓C_nil, ↓C_io, ↓C_im, ↓rd_im, ↓rd_fr, ↓rd_bo, ↓fz_im, ↓fz_fr, ↓fz_bo, ↓rds_nil, ↓rds_cons, ↓ret_im, ↓ret_fr, ↓ret_bo, ↓rdC_nil, ↓rdC_im, ↓rdC_fr, ↓rdC_bo, bos_nil, bos_im, bos_fr, bos_bo, nd_nil, nd_one, ↓putB_nil, ↓putB_im, ↓putB_fr, ↓putB_bo, ↓ex_some, ↓ex_int, ↓post_nx, ↓post_rt, tru_bl, tru_int, tru_lst, tru_tup, tru_non, cmp_eq_int, cmp_ne_int, cmp_lt_int, cmp_le_int, cmp_gt_int, cmp_ge_int, cmp_lt_str, finsE, env0, List.getElem?_cons_zero, List.getElem?_cons_succ, List.length_cons, List.length_nil, List.replicate, List.cons_append, List.nil_append, List.append_nil, reduceIte, Bool.not_true, Bool.not_false, Bool.false_eq_true, if_true, if_false, true_and, and_true, ite_true, ite_false, Option.map_some, List.set_cons_zero, List.set_cons_succ, dIsi, ↓E_call' h1, fi__law_draw, isOwnR, isOwn]
  refine ⟨p, q, 26, rfl, ok, by decide, by decide, fun b p1 q1 b0 b1 ok1 => ?_⟩
  try simp only [potD, putS, stS, ↓S_nil, ↓S_cons, ↓S_pass, ↓S_asg, ↓S_asgt, ↓S_par2, ↓S_par3, ↓S_subT, ↓S_expr, ↓S_ret, ↓S_retN, ↓S_ifs, ↓E_var, ↓E_cint, ↓E_cstr, ↓E_cbl, ↓E_cnon, ↓E_glob, ↓E_bin, ↓E_neg, ↓E_cmp, ↓E_chain, ↓E_andn, ↓E_orn, ↓E_notn, ↓E_ife, ↓E_tupn, ↓E_lstn, ↓E_dnew, ↓E_blt, ↓E_meth, ↓E_mut, ↓E_idx, ↓E_slc, ↓E_isi, ↓T_var, ↓T_cint, ↓T_cstr, ↓T_cbl, ↓T_glob, ↓T_bin, ↓T_cmp, ↓T_neg, ↓T_chain, ↓T_call, ↓T_blt, ↓T_meth, ↓T_idx, ↓T_slc, ↓T_isi, ↓T_comp, ↓T_tupn, ↓T_lstn, ↓T_andn, ↓T_orn, ↓T_notn, ↓T_ife, ↓T_nil, ↓O_nil, ↓O_var, ↓O_cint, ↓O_neg, ↓O_bin, ↓O_blt, ↓O_glob, ↓A_nil, ↓A_cons, ↓B_nil, ↓B_cons, ↓C_nil, ↓C_io, ↓C_im, ↓rd_im, ↓rd_fr, ↓rd_bo, ↓fz_im, ↓fz_fr, ↓fz_bo, ↓rds_nil, ↓rds_cons, ↓ret_im, ↓ret_fr, ↓ret_bo, ↓rdC_nil, ↓rdC_im, ↓rdC_fr, ↓rdC_bo, bos_nil, bos_im, bos_fr, bos_bo, nd_nil, nd_one, ↓putB_nil, ↓putB_im, ↓putB_fr, ↓putB_bo, ↓ex_some, ↓ex_int, ↓post_nx, ↓post_rt, tru_bl, tru_int, tru_lst, tru_tup, tru_non, cmp_eq_int, cmp_ne_int, cmp_lt_int, cmp_le_int, cmp_gt_int, cmp_ge_int, cmp_lt_str, finsE, env0, List.getElem?_cons_zero, List.getElem?_cons_succ, List.length_cons, List.length_nil, List.replicate, List.cons_append, List.nil_append, List.append_nil, reduceIte, Bool.not_true, Bool.not_false, Bool.false_eq_true, if_true, if_false, true_and, and_true, ite_true, ite_false, Option.map_some, List.set_cons_zero, List.set_cons_succ, dIsi]
  rw [hnx]
  refine S_seq fun nx hnx => ?_
  try simp only [↓S_nil, ↓S_cons, ↓S_pass, ↓S_asg, ↓S_asgt, ↓S_par2, ↓S_par3, ↓S_subT, ↓S_expr, ↓S_ret, ↓S_retN, ↓S_ifs, ↓E_var, ↓E_cint, ↓E_cstr, ↓E_cbl, ↓E_cnon, ↓E_glob, ↓E_bin, ↓E_neg, ↓E_cmp, ↓E_chain, ↓E_andn, ↓E_orn, ↓E_notn, ↓E_ife, ↓E_tupn, ↓E_lstn, ↓E_dnew, ↓E_blt, ↓E_meth, ↓E_mut, ↓E_idx, ↓E_slc, ↓E_isi, ↓T_var, ↓T_cint, ↓T_cstr, ↓T_cbl, ↓T_glob, ↓T_bin, ↓T_cmp, ↓T_neg, ↓T_chain, ↓T_call, ↓T_blt, ↓T_meth, ↓T_idx, ↓T_slc, ↓T_isi, ↓T_comp, ↓T_tupn, ↓T_lstn, ↓T_andn, ↓T_orn, ↓T_notn, ↓T_ife, ↓T_nil, ↓O_nil, ↓O_var, ↓O_cint, ↓O_neg, ↓O_bin, ↓O_blt, ↓O_glob, ↓A_nil, ↓A_cons, ↓B_nil, ↓B_cons, ↓C_nil, ↓C_io, ↓C_im, ↓rd_im, ↓rd_fr, ↓rd_bo, ↓fz_im, ↓fz_fr, ↓fz_bo, ↓rds_nil, ↓rds_cons, ↓ret_im, ↓ret_fr, ↓ret_bo, ↓rdC_nil, ↓rdC_im, ↓rdC_fr, ↓rdC_bo, bos_nil, bos_im, bos_fr, bos_bo, nd_nil, nd_one, ↓putB_nil, ↓putB_im, ↓putB_fr, ↓putB_bo, ↓ex_some, ↓ex_int, ↓post_nx, ↓post_rt, tru_bl, tru_int, tru_lst, tru_tup, tru_non, cmp_eq_int, cmp_ne_int, cmp_lt_int, cmp_le_int, cmp_gt_int, cmp_ge_int, cmp_lt_str, finsE, env0, List.getElem?_cons_zero, List.getElem?_cons_succ, List.length_cons, List.length_nil, List.replicate, List.cons_append, List.nil_append, List.append_nil, reduceIte, Bool.not_true, Bool.not_false, Bool.false_eq_true, if_true, if_false, true_and, and_true, ite_true, ite_false, Option.map_some, List.set_cons_zero, List.set_cons_succ, dIsi, ↓E_call' h1, fi__law_draw, isOwnR, isOwn]
  refine ⟨p1, q1, 3, rfl, ok1, by decide, by decide, fun y p2 q2 y0 y1 ok2 => ?_⟩
  try simp only [potD, putS, stS, ↓S_nil, ↓S_cons, ↓S_pass, ↓S_asg, ↓S_asgt, ↓S_par2, ↓S_par3, ↓S_subT, ↓S_expr, ↓S_ret, ↓S_retN, ↓S_ifs, ↓E_var, ↓E_cint, ↓E_cstr, ↓E_cbl, ↓E_cnon, ↓E_glob, ↓E_bin, ↓E_neg, ↓E_cmp, ↓E_chain, ↓E_andn, ↓E_orn, ↓E_notn, ↓E_ife, ↓E_tupn, ↓E_lstn, ↓E_dnew, ↓E_blt, ↓E_meth, ↓E_mut, ↓E_idx, ↓E_slc, ↓E_isi, ↓T_var, ↓T_cint, ↓T_cstr, ↓T_cbl, ↓T_glob, ↓T_bin, ↓T_cmp, ↓T_neg, ↓T_chain, ↓T_call, ↓T_blt, ↓T_meth, ↓T_idx, ↓T_slc, ↓T_isi, ↓T_comp, ↓T_tupn, ↓T_lstn, ↓T_andn, ↓T_orn, ↓T_notn, ↓T_ife, ↓T_nil, ↓O_nil, ↓O_var, ↓O_cint, ↓O_neg, ↓O_bin, ↓O_blt, ↓O_glob, ↓A_nil, ↓A_cons, ↓B_nil, ↓B_cons, ↓C_nil, ↓C_io, ↓C_im, ↓rd_im, ↓rd_fr, ↓rd_bo, ↓fz_im, ↓fz_fr, ↓fz_bo, ↓rds_nil, ↓rds_cons, ↓ret_im, ↓ret_fr, ↓ret_bo, ↓rdC_nil, ↓rdC_im, ↓rdC_fr, ↓rdC_bo, bos_nil, bos_im, bos_fr, bos_bo, nd_nil, nd_one, ↓putB_nil, ↓putB_im, ↓putB_fr, ↓putB_bo, ↓ex_some, ↓ex_int, ↓post_nx, ↓post_rt, tru_bl, tru_int, tru_lst, tru_tup, tru_non, cmp_eq_int, cmp_ne_int, cmp_lt_int, cmp_le_int, cmp_gt_int, cmp_ge_int, cmp_lt_str, finsE, env0, List.getElem?_cons_zero, List.getElem?_cons_succ, List.length_cons, List.length_nil, List.replicate, List.cons_append, List.nil_append, List.append_nil, reduceIte, Bool.not_true, Bool.not_false, Bool.false_eq_true, if_true, if_false, true_and, and_true, ite_true, ite_false, Option.map_some, List.set_cons_zero, List.set_cons_succ, dIsi]
  rw [hnx]
  refine S_seq fun nx hnx => ?_
  try simp only [↓S_nil, ↓S_cons, ↓S_pass, ↓S_asg, ↓S_asgt, ↓S_par2, ↓S_par3, ↓S_subT, ↓S_expr, ↓S_ret, ↓S_retN, ↓S_ifs, ↓E_var, ↓E_cint, ↓E_cstr, ↓E_cbl, ↓E_cnon, ↓E_glob, ↓E_bin, ↓E_neg, ↓E_cmp, ↓E_chain, ↓E_andn, ↓E_orn, ↓E_notn, ↓E_ife, ↓E_tupn, ↓E_lstn, ↓E_dnew, ↓E_blt, ↓E_meth, ↓E_mut, ↓E_idx, ↓E_slc, ↓E_isi, ↓T_var, ↓T_cint, ↓T_cstr, ↓T_cbl, ↓T_glob, ↓T_bin, ↓T_cmp, ↓T_neg, ↓T_chain, ↓T_call, ↓T_blt, ↓T_meth, ↓T_idx, ↓T_slc, ↓T_isi, ↓T_comp, ↓T_tupn, ↓T_lstn, ↓T_andn, ↓T_orn, ↓T_notn, ↓T_ife, ↓T_nil, ↓O_nil, ↓O_var, ↓O_cint, ↓O_neg, ↓O_bin, ↓O_blt, ↓O_glob, ↓A_nil, ↓A_cons, ↓B_nil, ↓B_cons, ↓C_nil, ↓C_io, ↓C_im, ↓rd_im, ↓rd_fr, ↓rd_bo, ↓fz_im, ↓fz_fr, ↓fz_bo, ↓rds_nil, ↓rds_cons, ↓ret_im, ↓ret_fr, ↓ret_bo, ↓rdC_nil, ↓rdC_im, ↓rdC_fr, ↓rdC_bo, bos_nil, bos_im, bos_fr, bos_bo, nd_nil, nd_one, ↓putB_nil, ↓putB_im, ↓putB_fr, ↓putB_bo, ↓ex_some, ↓ex_int, ↓post_nx, ↓post_rt, tru_bl, tru_int, tru_lst, tru_tup, tru_non, cmp_eq_int, cmp_ne_int, cmp_lt_int, cmp_le_int, cmp_gt_int, cmp_ge_int, cmp_lt_str, finsE, env0, List.getElem?_cons_zero, List.getElem?_cons_succ, List.length_cons, List.length_nil, List.replicate, List.cons_append, List.nil_append, List.append_nil, reduceIte, Bool.not_true, Bool.not_false, Bool.false_eq_true, if_true, if_false, true_and, and_true, ite_true, ite_false, Option.map_some, List.set_cons_zero, List.set_cons_succ, dIsi, stS]
  refine ⟨by rw [PySem.sizeLine_eq]; omega, ?_⟩
  rw [hnx]
  refine S_seq fun nx hnx => ?_
  generalize hpl : (y == 0) = pl
  try simp only [↓S_nil, ↓S_cons, ↓S_pass, ↓S_asg, ↓S_asgt, ↓S_par2, ↓S_par3, ↓S_subT, ↓S_expr, ↓S_ret, ↓S_retN, ↓S_ifs, ↓E_var, ↓E_cint, ↓E_cstr, ↓E_cbl, ↓E_cnon, ↓E_glob, ↓E_bin, ↓E_neg, ↓E_cmp, ↓E_chain, ↓E_andn, ↓E_orn, ↓E_notn, ↓E_ife, ↓E_tupn, ↓E_lstn, ↓E_dnew, ↓E_blt, ↓E_meth, ↓E_mut, ↓E_idx, ↓E_slc, ↓E_isi, ↓T_var, ↓T_cint, ↓T_cstr, ↓T_cbl, ↓T_glob, ↓T_bin, ↓T_cmp, ↓T_neg, ↓T_chain, ↓T_call, ↓T_blt, ↓T_meth, ↓T_idx, ↓T_slc, ↓T_isi, ↓T_comp, ↓T_tupn, ↓T_lstn, ↓T_andn, ↓T_orn, ↓T_notn, ↓T_ife, ↓T_nil, ↓O_nil, ↓O_var, ↓O_cint, ↓O_neg, ↓O_bin, ↓O_blt, ↓O_glob, ↓A_nil, ↓A_cons, ↓B_nil, ↓B_cons, ↓C_nil, ↓C_io, ↓C_im, ↓rd_im, ↓rd_fr, ↓rd_bo, ↓fz_im, ↓fz_fr, ↓fz_bo, ↓rds_nil, ↓rds_cons, ↓ret_im, ↓ret_fr, ↓ret_bo, ↓rdC_nil, ↓rdC_im, ↓rdC_fr, ↓rdC_bo, bos_nil, bos_im, bos_fr, bos_bo, nd_nil, nd_one, ↓putB_nil, ↓putB_im, ↓putB_fr, ↓putB_bo, ↓ex_some, ↓ex_int, ↓post_nx, ↓post_rt, tru_bl, tru_int, tru_lst, tru_tup, tru_non, cmp_eq_int, cmp_ne_int, cmp_lt_int, cmp_le_int, cmp_gt_int, cmp_ge_int, cmp_lt_str, finsE, env0, List.getElem?_cons_zero, List.getElem?_cons_succ, List.length_cons, List.length_nil, List.replicate, List.cons_append, List.nil_append, List.append_nil, reduceIte, Bool.not_true, Bool.not_false, Bool.false_eq_true, if_true, if_false, true_and, and_true, ite_true, ite_false, Option.map_some, List.set_cons_zero, List.set_cons_succ, dIsi, S_for, ↓I_rng1]
  refine ⟨⟨by omega, by omega⟩, ?_⟩
  obtain ⟨B, rfl⟩ := Int.eq_ofNat_of_zero_le b0
  have hB : B < 26 := by omega
  let f : Nat → Nat := fun k => if pl = true then (B + 5 * k) % 26 else (B + 1 * k) % 26
  let S : List D → TG.Env → Prop := fun r e => ∃ (k : Nat) (ns : List Str) (p' q' : Int) (s6 s7 s8 : Sl), k ≤ m ∧ r = ((List.range m).drop k).map (fun (k : Nat) => D.int k) ∧ ns.length = k ∧ (∀ x ∈ ns, NameOk x) ∧ ns.map lastS = (List.range k).map (fun k => some (97 + f k)) ∧ PotOk p' q' ∧
    e = [.io (potD p' q'), .im (.int m), .im (.str letters), .im (.int B), .im (.bl pl), .ow (.lst (ns.map .str)), s6, s7, s8] ∧ (∀ d, s6 ≠ .io d) ∧ (∀ d, s6 ≠ .lk d) ∧ (∀ d, s7 ≠ .io d) ∧ (∀ d, s7 ≠ .lk d) ∧ (∀ d, s8 ≠ .io d) ∧ (∀ d, s8 ≠ .lk d)
  refine forW_state S (fun r e _ i h => nomatch h) (fun d r e nx2 hS hk => ?_) ⟨0, [], p2, q2, .un, .un, .un, Nat.zero_le _, by simp, rfl, (fun _ h => nomatch h), rfl, ok2, rfl, (fun _ h => nomatch h), (fun _ h => nomatch h), (fun _ h => nomatch h), (fun _ h => nomatch h), (fun _ h => nomatch h), (fun _ h => nomatch h)⟩ fun e hS => ?_
  · obtain ⟨k, ns, p', q', s6, s7, s8, hkm, er, hn, hok, hl, ok', rfl, i1, i2, i3, i4, i5, i6⟩ := hS
    have lt : k < m := by
      have := congrArg List.length er
      simp at this
      omega
    rw [List.drop_eq_getElem_cons (by simpa using lt), List.map_cons, List.getElem_range] at er
    obtain ⟨rfl, rfl⟩ := List.cons.inj er
    simp only [fturn, bindT]
    rw [st_some (s := s6) rfl i1 i2]
    have hns : (ns.map D.str).length < sizeLine := by rw [List.length_map, PySem.sizeLine_eq]; omega
    -- what is appended
    have app : ∀ (z : Str) (p'' q'' : Int) (s7' s8' : Sl), NameOk z → lastS z = some (97 + f k) → PotOk p'' q'' → (∀ d, s7' ≠ .io d) → (∀ d, s7' ≠ .lk d) → (∀ d, s8' ≠ .io d) → (∀ d, s8' ≠ .lk d) →
        nx2 [.io (potD p'' q''), .im (.int m), .im (.str letters), .im (.int B), .im (.bl pl), .ow (.lst (ns.map .str ++ [.str z])), .im (.int k), s7', s8'] := fun z p'' q'' s7' s8' hz hl' ok'' a1 a2 a3 a4 => by
      refine hk _ ⟨k + 1, ns ++ [z], p'', q'', .im (.int k), s7', s8', lt, rfl, by rw [List.length_append, hn]; rfl, fun x hx => ?_, ?_, ok'', ?_, (fun _ h => nomatch h), (fun _ h => nomatch h), a1, a2, a3, a4⟩
      · rcases List.mem_append.mp hx with hx | hx
        · exact hok x hx
        · rw [List.mem_singleton.mp hx]; exact hz
      · rw [List.map_append, hl, List.range_succ, List.map_append]
        simp [hl']
      · rw [List.map_append]; rfl
    have one : ∀ c : Nat, c < 26 → NameOk ⟨#[97 + c]⟩ := fun c hc => ⟨Nat.le_refl 1, (by decide : 1 ≤ 8), fun d hd => by
      have : d = 97 + c := by simpa using hd
      rw [this]; exact letters_mem c hc⟩
    cases pl with
    | true =>
      try simp only [↓S_nil, ↓S_cons, ↓S_pass, ↓S_asg, ↓S_asgt, ↓S_par2, ↓S_par3, ↓S_subT, ↓S_expr, ↓S_ret, ↓S_retN, ↓S_ifs, ↓E_var, ↓E_cint, ↓E_cstr, ↓E_cbl, ↓E_cnon, ↓E_glob, ↓E_bin, ↓E_neg, ↓E_cmp, ↓E_chain, ↓E_andn, ↓E_orn, ↓E_notn, ↓E_ife, ↓E_tupn, ↓E_lstn, ↓E_dnew, ↓E_blt, ↓E_meth, ↓E_mut, ↓E_idx, ↓E_slc, ↓E_isi, ↓T_var, ↓T_cint, ↓T_cstr, ↓T_cbl, ↓T_glob, ↓T_bin, ↓T_cmp, ↓T_neg, ↓T_chain, ↓T_call, ↓T_blt, ↓T_meth, ↓T_idx, ↓T_slc, ↓T_isi, ↓T_comp, ↓T_tupn, ↓T_lstn, ↓T_andn, ↓T_orn, ↓T_notn, ↓T_ife, ↓T_nil, ↓O_nil, ↓O_var, ↓O_cint, ↓O_neg, ↓O_bin, ↓O_blt, ↓O_glob, ↓A_nil, ↓A_cons, ↓B_nil, ↓B_cons, ↓C_nil, ↓C_io, ↓C_im, ↓rd_im, ↓rd_fr, ↓rd_bo, ↓fz_im, ↓fz_fr, ↓fz_bo, ↓rds_nil, ↓rds_cons, ↓ret_im, ↓ret_fr, ↓ret_bo, ↓rdC_nil, ↓rdC_im, ↓rdC_fr, ↓rdC_bo, bos_nil, bos_im, bos_fr, bos_bo, nd_nil, nd_one, ↓putB_nil, ↓putB_im, ↓putB_fr, ↓putB_bo, ↓ex_some, ↓ex_int, ↓post_nx, ↓post_rt, tru_bl, tru_int, tru_lst, tru_tup, tru_non, cmp_eq_int, cmp_ne_int, cmp_lt_int, cmp_le_int, cmp_gt_int, cmp_ge_int, cmp_lt_str, finsE, env0, List.getElem?_cons_zero, List.getElem?_cons_succ, List.length_cons, List.length_nil, List.replicate, List.cons_append, List.nil_append, List.append_nil, reduceIte, Bool.not_true, Bool.not_false, Bool.false_eq_true, if_true, if_false, true_and, and_true, ite_true, ite_false, Option.map_some, List.set_cons_zero, List.set_cons_succ, dIsi, tyMm, dBin]
      refine ⟨IntMulOk.of_left (intBits_le_64 (by decide) (by decide)), by decide, ?_⟩
      rw [ix_letters (Int.emod_nonneg _ (by decide)) (Int.emod_lt_of_pos _ (by decide))]
      try simp only [↓S_nil, ↓S_cons, ↓S_pass, ↓S_asg, ↓S_asgt, ↓S_par2, ↓S_par3, ↓S_subT, ↓S_expr, ↓S_ret, ↓S_retN, ↓S_ifs, ↓E_var, ↓E_cint, ↓E_cstr, ↓E_cbl, ↓E_cnon, ↓E_glob, ↓E_bin, ↓E_neg, ↓E_cmp, ↓E_chain, ↓E_andn, ↓E_orn, ↓E_notn, ↓E_ife, ↓E_tupn, ↓E_lstn, ↓E_dnew, ↓E_blt, ↓E_meth, ↓E_mut, ↓E_idx, ↓E_slc, ↓E_isi, ↓T_var, ↓T_cint, ↓T_cstr, ↓T_cbl, ↓T_glob, ↓T_bin, ↓T_cmp, ↓T_neg, ↓T_chain, ↓T_call, ↓T_blt, ↓T_meth, ↓T_idx, ↓T_slc, ↓T_isi, ↓T_comp, ↓T_tupn, ↓T_lstn, ↓T_andn, ↓T_orn, ↓T_notn, ↓T_ife, ↓T_nil, ↓O_nil, ↓O_var, ↓O_cint, ↓O_neg, ↓O_bin, ↓O_blt, ↓O_glob, ↓A_nil, ↓A_cons, ↓B_nil, ↓B_cons, ↓C_nil, ↓C_io, ↓C_im, ↓rd_im, ↓rd_fr, ↓rd_bo, ↓fz_im, ↓fz_fr, ↓fz_bo, ↓rds_nil, ↓rds_cons, ↓ret_im, ↓ret_fr, ↓ret_bo, ↓rdC_nil, ↓rdC_im, ↓rdC_fr, ↓rdC_bo, bos_nil, bos_im, bos_fr, bos_bo, nd_nil, nd_one, ↓putB_nil, ↓putB_im, ↓putB_fr, ↓putB_bo, ↓ex_some, ↓ex_int, ↓post_nx, ↓post_rt, tru_bl, tru_int, tru_lst, tru_tup, tru_non, cmp_eq_int, cmp_ne_int, cmp_lt_int, cmp_le_int, cmp_gt_int, cmp_ge_int, cmp_lt_str, finsE, env0, List.getElem?_cons_zero, List.getElem?_cons_succ, List.length_cons, List.length_nil, List.replicate, List.cons_append, List.nil_append, List.append_nil, reduceIte, Bool.not_true, Bool.not_false, Bool.false_eq_true, if_true, if_false, true_and, and_true, ite_true, ite_false, Option.map_some, List.set_cons_zero, List.set_cons_succ, dIsi, dMm]
      have e : ((B : Int) + 5 * (k : Int)) % 26 = ((f k : Nat) : Int) := by
        show _ = (((B + 5 * k) % 26 : Nat) : Int)
        omega
      rw [e, Int.toNat_natCast]
      refine ⟨hns, ?_⟩
      exact app ⟨#[97 + f k]⟩ p' q' s7 s8 (one _ (Nat.mod_lt _ (by decide))) (by show (#[97 + f k] : Array Nat).toList.getLast? = _; rfl) ok' i3 i4 i5 i6
    | false =>
      refine S_seq fun nx3 hnx3 => ?_
      simp only [↓S_ifs, ↓T_var, ↓E_var, ↓rd_im, ↓ex_some, tru_bl, List.getElem?_cons_zero, List.getElem?_cons_succ, List.set_cons_zero, List.set_cons_succ, reduceIte, Bool.false_eq_true, if_false]
      refine S_seq fun nx4 hnx4 => ?_
      try simp only [↓S_nil, ↓S_cons, ↓S_pass, ↓S_asg, ↓S_asgt, ↓S_par2, ↓S_par3, ↓S_subT, ↓S_expr, ↓S_ret, ↓S_retN, ↓S_ifs, ↓E_var, ↓E_cint, ↓E_cstr, ↓E_cbl, ↓E_cnon, ↓E_glob, ↓E_bin, ↓E_neg, ↓E_cmp, ↓E_chain, ↓E_andn, ↓E_orn, ↓E_notn, ↓E_ife, ↓E_tupn, ↓E_lstn, ↓E_dnew, ↓E_blt, ↓E_meth, ↓E_mut, ↓E_idx, ↓E_slc, ↓E_isi, ↓T_var, ↓T_cint, ↓T_cstr, ↓T_cbl, ↓T_glob, ↓T_bin, ↓T_cmp, ↓T_neg, ↓T_chain, ↓T_call, ↓T_blt, ↓T_meth, ↓T_idx, ↓T_slc, ↓T_isi, ↓T_comp, ↓T_tupn, ↓T_lstn, ↓T_andn, ↓T_orn, ↓T_notn, ↓T_ife, ↓T_nil, ↓O_nil, ↓O_var, ↓O_cint, ↓O_neg, ↓O_bin, ↓O_blt, ↓O_glob, ↓A_nil, ↓A_cons, ↓B_nil, ↓B_cons, ↓C_nil, ↓C_io, ↓C_im, ↓rd_im, ↓rd_fr, ↓rd_bo, ↓fz_im, ↓fz_fr, ↓fz_bo, ↓rds_nil, ↓rds_cons, ↓ret_im, ↓ret_fr, ↓ret_bo, ↓rdC_nil, ↓rdC_im, ↓rdC_fr, ↓rdC_bo, bos_nil, bos_im, bos_fr, bos_bo, nd_nil, nd_one, ↓putB_nil, ↓putB_im, ↓putB_fr, ↓putB_bo, ↓ex_some, ↓ex_int, ↓post_nx, ↓post_rt, tru_bl, tru_int, tru_lst, tru_tup, tru_non, cmp_eq_int, cmp_ne_int, cmp_lt_int, cmp_le_int, cmp_gt_int, cmp_ge_int, cmp_lt_str, finsE, env0, List.getElem?_cons_zero, List.getElem?_cons_succ, List.length_cons, List.length_nil, List.replicate, List.cons_append, List.nil_append, List.append_nil, reduceIte, Bool.not_true, Bool.not_false, Bool.false_eq_true, if_true, if_false, true_and, and_true, ite_true, ite_false, Option.map_some, List.set_cons_zero, List.set_cons_succ, dIsi, tyM, ↓E_comp, ↓I_rng1, ↓E_call' h1, fi__law_draw, isOwnR, isOwn, potD]
      refine ⟨p', q', 7, rfl, ok', by decide, by decide, fun z p3 q3 z0 z1 ok3 => ?_⟩
      try simp only [potD, putS, ↓S_nil, ↓S_cons, ↓S_pass, ↓S_asg, ↓S_asgt, ↓S_par2, ↓S_par3, ↓S_subT, ↓S_expr, ↓S_ret, ↓S_retN, ↓S_ifs, ↓E_var, ↓E_cint, ↓E_cstr, ↓E_cbl, ↓E_cnon, ↓E_glob, ↓E_bin, ↓E_neg, ↓E_cmp, ↓E_chain, ↓E_andn, ↓E_orn, ↓E_notn, ↓E_ife, ↓E_tupn, ↓E_lstn, ↓E_dnew, ↓E_blt, ↓E_meth, ↓E_mut, ↓E_idx, ↓E_slc, ↓E_isi, ↓T_var, ↓T_cint, ↓T_cstr, ↓T_cbl, ↓T_glob, ↓T_bin, ↓T_cmp, ↓T_neg, ↓T_chain, ↓T_call, ↓T_blt, ↓T_meth, ↓T_idx, ↓T_slc, ↓T_isi, ↓T_comp, ↓T_tupn, ↓T_lstn, ↓T_andn, ↓T_orn, ↓T_notn, ↓T_ife, ↓T_nil, ↓O_nil, ↓O_var, ↓O_cint, ↓O_neg, ↓O_bin, ↓O_blt, ↓O_glob, ↓A_nil, ↓A_cons, ↓B_nil, ↓B_cons, ↓C_nil, ↓C_io, ↓C_im, ↓rd_im, ↓rd_fr, ↓rd_bo, ↓fz_im, ↓fz_fr, ↓fz_bo, ↓rds_nil, ↓rds_cons, ↓ret_im, ↓ret_fr, ↓ret_bo, ↓rdC_nil, ↓rdC_im, ↓rdC_fr, ↓rdC_bo, bos_nil, bos_im, bos_fr, bos_bo, nd_nil, nd_one, ↓putB_nil, ↓putB_im, ↓putB_fr, ↓putB_bo, ↓ex_some, ↓ex_int, ↓post_nx, ↓post_rt, tru_bl, tru_int, tru_lst, tru_tup, tru_non, cmp_eq_int, cmp_ne_int, cmp_lt_int, cmp_le_int, cmp_gt_int, cmp_ge_int, cmp_lt_str, finsE, env0, List.getElem?_cons_zero, List.getElem?_cons_succ, List.length_cons, List.length_nil, List.replicate, List.cons_append, List.nil_append, List.append_nil, reduceIte, Bool.not_true, Bool.not_false, Bool.false_eq_true, if_true, if_false, true_and, and_true, ite_true, ite_false, Option.map_some, List.set_cons_zero, List.set_cons_succ, dIsi]
      refine ⟨⟨by omega, by omega⟩, by rw [List.length_map, List.length_range, PySem.sizeLine_eq]; omega, compW_state (fun r acc e => ∃ (ws : List Str) (p4 q4 : Int) (s8' : Sl), e = [.io (potD p4 q4), .im (.int m), .im (.str letters), .im (.int B), .im (.bl false), .ow (.lst (ns.map .str)), .im (.int k), s7, s8'] ∧ acc = ws.map .str ∧ (∀ w ∈ ws, ∃ c, c < 26 ∧ w = ⟨#[97 + c]⟩) ∧ ws.length + r.length = z.toNat ∧ PotOk p4 q4) (fun r acc e _ i h => nomatch h) (fun d r acc e k2 hS2 hk2 => ?_) ⟨[], p3, q3, s8, rfl, rfl, (fun _ h => nomatch h), by simp, ok3⟩ fun acc e hS2 => ?_⟩
      · obtain ⟨ws, p4, q4, s8', rfl, rfl, hws, hlen, ok4⟩ := hS2
        try simp only [cturn, bindT, wipeE, stS, ↓S_nil, ↓S_cons, ↓S_pass, ↓S_asg, ↓S_asgt, ↓S_par2, ↓S_par3, ↓S_subT, ↓S_expr, ↓S_ret, ↓S_retN, ↓S_ifs, ↓E_var, ↓E_cint, ↓E_cstr, ↓E_cbl, ↓E_cnon, ↓E_glob, ↓E_bin, ↓E_neg, ↓E_cmp, ↓E_chain, ↓E_andn, ↓E_orn, ↓E_notn, ↓E_ife, ↓E_tupn, ↓E_lstn, ↓E_dnew, ↓E_blt, ↓E_meth, ↓E_mut, ↓E_idx, ↓E_slc, ↓E_isi, ↓T_var, ↓T_cint, ↓T_cstr, ↓T_cbl, ↓T_glob, ↓T_bin, ↓T_cmp, ↓T_neg, ↓T_chain, ↓T_call, ↓T_blt, ↓T_meth, ↓T_idx, ↓T_slc, ↓T_isi, ↓T_comp, ↓T_tupn, ↓T_lstn, ↓T_andn, ↓T_orn, ↓T_notn, ↓T_ife, ↓T_nil, ↓O_nil, ↓O_var, ↓O_cint, ↓O_neg, ↓O_bin, ↓O_blt, ↓O_glob, ↓A_nil, ↓A_cons, ↓B_nil, ↓B_cons, ↓C_nil, ↓C_io, ↓C_im, ↓rd_im, ↓rd_fr, ↓rd_bo, ↓fz_im, ↓fz_fr, ↓fz_bo, ↓rds_nil, ↓rds_cons, ↓ret_im, ↓ret_fr, ↓ret_bo, ↓rdC_nil, ↓rdC_im, ↓rdC_fr, ↓rdC_bo, bos_nil, bos_im, bos_fr, bos_bo, nd_nil, nd_one, ↓putB_nil, ↓putB_im, ↓putB_fr, ↓putB_bo, ↓ex_some, ↓ex_int, ↓post_nx, ↓post_rt, tru_bl, tru_int, tru_lst, tru_tup, tru_non, cmp_eq_int, cmp_ne_int, cmp_lt_int, cmp_le_int, cmp_gt_int, cmp_ge_int, cmp_lt_str, finsE, env0, List.getElem?_cons_zero, List.getElem?_cons_succ, List.length_cons, List.length_nil, List.replicate, List.cons_append, List.nil_append, List.append_nil, reduceIte, Bool.not_true, Bool.not_false, Bool.false_eq_true, if_true, if_false, true_and, and_true, ite_true, ite_false, Option.map_some, List.set_cons_zero, List.set_cons_succ, dIsi, ↓E_call' h1, fi__law_draw, isOwnR, isOwn, potD]
        refine ⟨p4, q4, 26, rfl, ok4, by decide, by decide, fun c p5 q5 c0 c1 ok5 => ?_⟩
        try simp only [potD, putS, ↓S_nil, ↓S_cons, ↓S_pass, ↓S_asg, ↓S_asgt, ↓S_par2, ↓S_par3, ↓S_subT, ↓S_expr, ↓S_ret, ↓S_retN, ↓S_ifs, ↓E_var, ↓E_cint, ↓E_cstr, ↓E_cbl, ↓E_cnon, ↓E_glob, ↓E_bin, ↓E_neg, ↓E_cmp, ↓E_chain, ↓E_andn, ↓E_orn, ↓E_notn, ↓E_ife, ↓E_tupn, ↓E_lstn, ↓E_dnew, ↓E_blt, ↓E_meth, ↓E_mut, ↓E_idx, ↓E_slc, ↓E_isi, ↓T_var, ↓T_cint, ↓T_cstr, ↓T_cbl, ↓T_glob, ↓T_bin, ↓T_cmp, ↓T_neg, ↓T_chain, ↓T_call, ↓T_blt, ↓T_meth, ↓T_idx, ↓T_slc, ↓T_isi, ↓T_comp, ↓T_tupn, ↓T_lstn, ↓T_andn, ↓T_orn, ↓T_notn, ↓T_ife, ↓T_nil, ↓O_nil, ↓O_var, ↓O_cint, ↓O_neg, ↓O_bin, ↓O_blt, ↓O_glob, ↓A_nil, ↓A_cons, ↓B_nil, ↓B_cons, ↓C_nil, ↓C_io, ↓C_im, ↓rd_im, ↓rd_fr, ↓rd_bo, ↓fz_im, ↓fz_fr, ↓fz_bo, ↓rds_nil, ↓rds_cons, ↓ret_im, ↓ret_fr, ↓ret_bo, ↓rdC_nil, ↓rdC_im, ↓rdC_fr, ↓rdC_bo, bos_nil, bos_im, bos_fr, bos_bo, nd_nil, nd_one, ↓putB_nil, ↓putB_im, ↓putB_fr, ↓putB_bo, ↓ex_some, ↓ex_int, ↓post_nx, ↓post_rt, tru_bl, tru_int, tru_lst, tru_tup, tru_non, cmp_eq_int, cmp_ne_int, cmp_lt_int, cmp_le_int, cmp_gt_int, cmp_ge_int, cmp_lt_str, finsE, env0, List.getElem?_cons_zero, List.getElem?_cons_succ, List.length_cons, List.length_nil, List.replicate, List.cons_append, List.nil_append, List.append_nil, reduceIte, Bool.not_true, Bool.not_false, Bool.false_eq_true, if_true, if_false, true_and, and_true, ite_true, ite_false, Option.map_some, List.set_cons_zero, List.set_cons_succ, dIsi]
        rw [ix_letters c0 c1]
        try simp only [↓S_nil, ↓S_cons, ↓S_pass, ↓S_asg, ↓S_asgt, ↓S_par2, ↓S_par3, ↓S_subT, ↓S_expr, ↓S_ret, ↓S_retN, ↓S_ifs, ↓E_var, ↓E_cint, ↓E_cstr, ↓E_cbl, ↓E_cnon, ↓E_glob, ↓E_bin, ↓E_neg, ↓E_cmp, ↓E_chain, ↓E_andn, ↓E_orn, ↓E_notn, ↓E_ife, ↓E_tupn, ↓E_lstn, ↓E_dnew, ↓E_blt, ↓E_meth, ↓E_mut, ↓E_idx, ↓E_slc, ↓E_isi, ↓T_var, ↓T_cint, ↓T_cstr, ↓T_cbl, ↓T_glob, ↓T_bin, ↓T_cmp, ↓T_neg, ↓T_chain, ↓T_call, ↓T_blt, ↓T_meth, ↓T_idx, ↓T_slc, ↓T_isi, ↓T_comp, ↓T_tupn, ↓T_lstn, ↓T_andn, ↓T_orn, ↓T_notn, ↓T_ife, ↓T_nil, ↓O_nil, ↓O_var, ↓O_cint, ↓O_neg, ↓O_bin, ↓O_blt, ↓O_glob, ↓A_nil, ↓A_cons, ↓B_nil, ↓B_cons, ↓C_nil, ↓C_io, ↓C_im, ↓rd_im, ↓rd_fr, ↓rd_bo, ↓fz_im, ↓fz_fr, ↓fz_bo, ↓rds_nil, ↓rds_cons, ↓ret_im, ↓ret_fr, ↓ret_bo, ↓rdC_nil, ↓rdC_im, ↓rdC_fr, ↓rdC_bo, bos_nil, bos_im, bos_fr, bos_bo, nd_nil, nd_one, ↓putB_nil, ↓putB_im, ↓putB_fr, ↓putB_bo, ↓ex_some, ↓ex_int, ↓post_nx, ↓post_rt, tru_bl, tru_int, tru_lst, tru_tup, tru_non, cmp_eq_int, cmp_ne_int, cmp_lt_int, cmp_le_int, cmp_gt_int, cmp_ge_int, cmp_lt_str, finsE, env0, List.getElem?_cons_zero, List.getElem?_cons_succ, List.length_cons, List.length_nil, List.replicate, List.cons_append, List.nil_append, List.append_nil, reduceIte, Bool.not_true, Bool.not_false, Bool.false_eq_true, if_true, if_false, true_and, and_true, ite_true, ite_false, Option.map_some, List.set_cons_zero, List.set_cons_succ, dIsi]
        exact hk2 (some (.str ⟨#[97 + c.toNat]⟩)) _ ⟨ws ++ [⟨#[97 + c.toNat]⟩], p5, q5, _, rfl, by simp, fun w hw => (List.mem_append.mp hw).elim (hws w) fun h => ⟨c.toNat, by omega, List.mem_singleton.mp h⟩, by simp at hlen ⊢; omega, ok5⟩
      · obtain ⟨ws, p4, q4, s8', rfl, rfl, hws, hlen, ok4⟩ := hS2
        have wl : ws.length ≤ 6 := by simp at hlen; omega
        have jl : (Txt.join "" ws).length = ws.length ∧ ∀ c ∈ (Txt.join "" ws).cps.toList, c ∈ letters.cps.toList := word_ok ws hws
        refine ⟨ws, strs_map ws, by rw [sum_len ws hws]; show ws.length + ws.length * 0 ≤ _; omega, ?_⟩
        generalize Txt.join "" ws = wd at jl
        try simp only [wipeE, ↓S_nil, ↓S_cons, ↓S_pass, ↓S_asg, ↓S_asgt, ↓S_par2, ↓S_par3, ↓S_subT, ↓S_expr, ↓S_ret, ↓S_retN, ↓S_ifs, ↓E_var, ↓E_cint, ↓E_cstr, ↓E_cbl, ↓E_cnon, ↓E_glob, ↓E_bin, ↓E_neg, ↓E_cmp, ↓E_chain, ↓E_andn, ↓E_orn, ↓E_notn, ↓E_ife, ↓E_tupn, ↓E_lstn, ↓E_dnew, ↓E_blt, ↓E_meth, ↓E_mut, ↓E_idx, ↓E_slc, ↓E_isi, ↓T_var, ↓T_cint, ↓T_cstr, ↓T_cbl, ↓T_glob, ↓T_bin, ↓T_cmp, ↓T_neg, ↓T_chain, ↓T_call, ↓T_blt, ↓T_meth, ↓T_idx, ↓T_slc, ↓T_isi, ↓T_comp, ↓T_tupn, ↓T_lstn, ↓T_andn, ↓T_orn, ↓T_notn, ↓T_ife, ↓T_nil, ↓O_nil, ↓O_var, ↓O_cint, ↓O_neg, ↓O_bin, ↓O_blt, ↓O_glob, ↓A_nil, ↓A_cons, ↓B_nil, ↓B_cons, ↓C_nil, ↓C_io, ↓C_im, ↓rd_im, ↓rd_fr, ↓rd_bo, ↓fz_im, ↓fz_fr, ↓fz_bo, ↓rds_nil, ↓rds_cons, ↓ret_im, ↓ret_fr, ↓ret_bo, ↓rdC_nil, ↓rdC_im, ↓rdC_fr, ↓rdC_bo, bos_nil, bos_im, bos_fr, bos_bo, nd_nil, nd_one, ↓putB_nil, ↓putB_im, ↓putB_fr, ↓putB_bo, ↓ex_some, ↓ex_int, ↓post_nx, ↓post_rt, tru_bl, tru_int, tru_lst, tru_tup, tru_non, cmp_eq_int, cmp_ne_int, cmp_lt_int, cmp_le_int, cmp_gt_int, cmp_ge_int, cmp_lt_str, finsE, env0, List.getElem?_cons_zero, List.getElem?_cons_succ, List.length_cons, List.length_nil, List.replicate, List.cons_append, List.nil_append, List.append_nil, reduceIte, Bool.not_true, Bool.not_false, Bool.false_eq_true, if_true, if_false, true_and, and_true, ite_true, ite_false, Option.map_some, List.set_cons_zero, List.set_cons_succ, dIsi]
        rw [st_some (s := s7) rfl i3 i4]
        try simp only [↓S_nil, ↓S_cons, ↓S_pass, ↓S_asg, ↓S_asgt, ↓S_par2, ↓S_par3, ↓S_subT, ↓S_expr, ↓S_ret, ↓S_retN, ↓S_ifs, ↓E_var, ↓E_cint, ↓E_cstr, ↓E_cbl, ↓E_cnon, ↓E_glob, ↓E_bin, ↓E_neg, ↓E_cmp, ↓E_chain, ↓E_andn, ↓E_orn, ↓E_notn, ↓E_ife, ↓E_tupn, ↓E_lstn, ↓E_dnew, ↓E_blt, ↓E_meth, ↓E_mut, ↓E_idx, ↓E_slc, ↓E_isi, ↓T_var, ↓T_cint, ↓T_cstr, ↓T_cbl, ↓T_glob, ↓T_bin, ↓T_cmp, ↓T_neg, ↓T_chain, ↓T_call, ↓T_blt, ↓T_meth, ↓T_idx, ↓T_slc, ↓T_isi, ↓T_comp, ↓T_tupn, ↓T_lstn, ↓T_andn, ↓T_orn, ↓T_notn, ↓T_ife, ↓T_nil, ↓O_nil, ↓O_var, ↓O_cint, ↓O_neg, ↓O_bin, ↓O_blt, ↓O_glob, ↓A_nil, ↓A_cons, ↓B_nil, ↓B_cons, ↓C_nil, ↓C_io, ↓C_im, ↓rd_im, ↓rd_fr, ↓rd_bo, ↓fz_im, ↓fz_fr, ↓fz_bo, ↓rds_nil, ↓rds_cons, ↓ret_im, ↓ret_fr, ↓ret_bo, ↓rdC_nil, ↓rdC_im, ↓rdC_fr, ↓rdC_bo, bos_nil, bos_im, bos_fr, bos_bo, nd_nil, nd_one, ↓putB_nil, ↓putB_im, ↓putB_fr, ↓putB_bo, ↓ex_some, ↓ex_int, ↓post_nx, ↓post_rt, tru_bl, tru_int, tru_lst, tru_tup, tru_non, cmp_eq_int, cmp_ne_int, cmp_lt_int, cmp_le_int, cmp_gt_int, cmp_ge_int, cmp_lt_str, finsE, env0, List.getElem?_cons_zero, List.getElem?_cons_succ, List.length_cons, List.length_nil, List.replicate, List.cons_append, List.nil_append, List.append_nil, reduceIte, Bool.not_true, Bool.not_false, Bool.false_eq_true, if_true, if_false, true_and, and_true, ite_true, ite_false, Option.map_some, List.set_cons_zero, List.set_cons_succ, dIsi]
        rw [hnx4]
        refine S_seq fun nx5 hnx5 => ?_
        try simp only [↓S_nil, ↓S_cons, ↓S_pass, ↓S_asg, ↓S_asgt, ↓S_par2, ↓S_par3, ↓S_subT, ↓S_expr, ↓S_ret, ↓S_retN, ↓S_ifs, ↓E_var, ↓E_cint, ↓E_cstr, ↓E_cbl, ↓E_cnon, ↓E_glob, ↓E_bin, ↓E_neg, ↓E_cmp, ↓E_chain, ↓E_andn, ↓E_orn, ↓E_notn, ↓E_ife, ↓E_tupn, ↓E_lstn, ↓E_dnew, ↓E_blt, ↓E_meth, ↓E_mut, ↓E_idx, ↓E_slc, ↓E_isi, ↓T_var, ↓T_cint, ↓T_cstr, ↓T_cbl, ↓T_glob, ↓T_bin, ↓T_cmp, ↓T_neg, ↓T_chain, ↓T_call, ↓T_blt, ↓T_meth, ↓T_idx, ↓T_slc, ↓T_isi, ↓T_comp, ↓T_tupn, ↓T_lstn, ↓T_andn, ↓T_orn, ↓T_notn, ↓T_ife, ↓T_nil, ↓O_nil, ↓O_var, ↓O_cint, ↓O_neg, ↓O_bin, ↓O_blt, ↓O_glob, ↓A_nil, ↓A_cons, ↓B_nil, ↓B_cons, ↓C_nil, ↓C_io, ↓C_im, ↓rd_im, ↓rd_fr, ↓rd_bo, ↓fz_im, ↓fz_fr, ↓fz_bo, ↓rds_nil, ↓rds_cons, ↓ret_im, ↓ret_fr, ↓ret_bo, ↓rdC_nil, ↓rdC_im, ↓rdC_fr, ↓rdC_bo, bos_nil, bos_im, bos_fr, bos_bo, nd_nil, nd_one, ↓putB_nil, ↓putB_im, ↓putB_fr, ↓putB_bo, ↓ex_some, ↓ex_int, ↓post_nx, ↓post_rt, tru_bl, tru_int, tru_lst, tru_tup, tru_non, cmp_eq_int, cmp_ne_int, cmp_lt_int, cmp_le_int, cmp_gt_int, cmp_ge_int, cmp_lt_str, finsE, env0, List.getElem?_cons_zero, List.getElem?_cons_succ, List.length_cons, List.length_nil, List.replicate, List.cons_append, List.nil_append, List.append_nil, reduceIte, Bool.not_true, Bool.not_false, Bool.false_eq_true, if_true, if_false, true_and, and_true, ite_true, ite_false, Option.map_some, List.set_cons_zero, List.set_cons_succ, dIsi, dBin]
        refine ⟨IntMulOk.of_left (intBits_le_64 (by decide) (by decide)), by decide, ?_⟩
        rw [ix_letters (Int.emod_nonneg _ (by decide)) (Int.emod_lt_of_pos _ (by decide))]
        try simp only [↓S_nil, ↓S_cons, ↓S_pass, ↓S_asg, ↓S_asgt, ↓S_par2, ↓S_par3, ↓S_subT, ↓S_expr, ↓S_ret, ↓S_retN, ↓S_ifs, ↓E_var, ↓E_cint, ↓E_cstr, ↓E_cbl, ↓E_cnon, ↓E_glob, ↓E_bin, ↓E_neg, ↓E_cmp, ↓E_chain, ↓E_andn, ↓E_orn, ↓E_notn, ↓E_ife, ↓E_tupn, ↓E_lstn, ↓E_dnew, ↓E_blt, ↓E_meth, ↓E_mut, ↓E_idx, ↓E_slc, ↓E_isi, ↓T_var, ↓T_cint, ↓T_cstr, ↓T_cbl, ↓T_glob, ↓T_bin, ↓T_cmp, ↓T_neg, ↓T_chain, ↓T_call, ↓T_blt, ↓T_meth, ↓T_idx, ↓T_slc, ↓T_isi, ↓T_comp, ↓T_tupn, ↓T_lstn, ↓T_andn, ↓T_orn, ↓T_notn, ↓T_ife, ↓T_nil, ↓O_nil, ↓O_var, ↓O_cint, ↓O_neg, ↓O_bin, ↓O_blt, ↓O_glob, ↓A_nil, ↓A_cons, ↓B_nil, ↓B_cons, ↓C_nil, ↓C_io, ↓C_im, ↓rd_im, ↓rd_fr, ↓rd_bo, ↓fz_im, ↓fz_fr, ↓fz_bo, ↓rds_nil, ↓rds_cons, ↓ret_im, ↓ret_fr, ↓ret_bo, ↓rdC_nil, ↓rdC_im, ↓rdC_fr, ↓rdC_bo, bos_nil, bos_im, bos_fr, bos_bo, nd_nil, nd_one, ↓putB_nil, ↓putB_im, ↓putB_fr, ↓putB_bo, ↓ex_some, ↓ex_int, ↓post_nx, ↓post_rt, tru_bl, tru_int, tru_lst, tru_tup, tru_non, cmp_eq_int, cmp_ne_int, cmp_lt_int, cmp_le_int, cmp_gt_int, cmp_ge_int, cmp_lt_str, finsE, env0, List.getElem?_cons_zero, List.getElem?_cons_succ, List.length_cons, List.length_nil, List.replicate, List.cons_append, List.nil_append, List.append_nil, reduceIte, Bool.not_true, Bool.not_false, Bool.false_eq_true, if_true, if_false, true_and, and_true, ite_true, ite_false, Option.map_some, List.set_cons_zero, List.set_cons_succ, dIsi, dBin, stS]
        have c7 : (((B : Int) + 7 * (k : Int)) % 26).toNat < 26 := by omega
        generalize (((B : Int) + 7 * (k : Int)) % 26).toNat = c7' at c7
        refine ⟨by rw [jl.1, PySem.sizeLine_eq]; show ws.length + 1 ≤ _; omega, ?_⟩
        rw [hnx5]
        try simp only [↓S_nil, ↓S_cons, ↓S_pass, ↓S_asg, ↓S_asgt, ↓S_par2, ↓S_par3, ↓S_subT, ↓S_expr, ↓S_ret, ↓S_retN, ↓S_ifs, ↓E_var, ↓E_cint, ↓E_cstr, ↓E_cbl, ↓E_cnon, ↓E_glob, ↓E_bin, ↓E_neg, ↓E_cmp, ↓E_chain, ↓E_andn, ↓E_orn, ↓E_notn, ↓E_ife, ↓E_tupn, ↓E_lstn, ↓E_dnew, ↓E_blt, ↓E_meth, ↓E_mut, ↓E_idx, ↓E_slc, ↓E_isi, ↓T_var, ↓T_cint, ↓T_cstr, ↓T_cbl, ↓T_glob, ↓T_bin, ↓T_cmp, ↓T_neg, ↓T_chain, ↓T_call, ↓T_blt, ↓T_meth, ↓T_idx, ↓T_slc, ↓T_isi, ↓T_comp, ↓T_tupn, ↓T_lstn, ↓T_andn, ↓T_orn, ↓T_notn, ↓T_ife, ↓T_nil, ↓O_nil, ↓O_var, ↓O_cint, ↓O_neg, ↓O_bin, ↓O_blt, ↓O_glob, ↓A_nil, ↓A_cons, ↓B_nil, ↓B_cons, ↓C_nil, ↓C_io, ↓C_im, ↓rd_im, ↓rd_fr, ↓rd_bo, ↓fz_im, ↓fz_fr, ↓fz_bo, ↓rds_nil, ↓rds_cons, ↓ret_im, ↓ret_fr, ↓ret_bo, ↓rdC_nil, ↓rdC_im, ↓rdC_fr, ↓rdC_bo, bos_nil, bos_im, bos_fr, bos_bo, nd_nil, nd_one, ↓putB_nil, ↓putB_im, ↓putB_fr, ↓putB_bo, ↓ex_some, ↓ex_int, ↓post_nx, ↓post_rt, tru_bl, tru_int, tru_lst, tru_tup, tru_non, cmp_eq_int, cmp_ne_int, cmp_lt_int, cmp_le_int, cmp_gt_int, cmp_ge_int, cmp_lt_str, finsE, env0, List.getElem?_cons_zero, List.getElem?_cons_succ, List.length_cons, List.length_nil, List.replicate, List.cons_append, List.nil_append, List.append_nil, reduceIte, Bool.not_true, Bool.not_false, Bool.false_eq_true, if_true, if_false, true_and, and_true, ite_true, ite_false, Option.map_some, List.set_cons_zero, List.set_cons_succ, dIsi, tyMm, dBin]
        refine ⟨by decide, ?_⟩
        rw [ix_letters (Int.emod_nonneg _ (by decide)) (Int.emod_lt_of_pos _ (by decide))]
        try simp only [↓S_nil, ↓S_cons, ↓S_pass, ↓S_asg, ↓S_asgt, ↓S_par2, ↓S_par3, ↓S_subT, ↓S_expr, ↓S_ret, ↓S_retN, ↓S_ifs, ↓E_var, ↓E_cint, ↓E_cstr, ↓E_cbl, ↓E_cnon, ↓E_glob, ↓E_bin, ↓E_neg, ↓E_cmp, ↓E_chain, ↓E_andn, ↓E_orn, ↓E_notn, ↓E_ife, ↓E_tupn, ↓E_lstn, ↓E_dnew, ↓E_blt, ↓E_meth, ↓E_mut, ↓E_idx, ↓E_slc, ↓E_isi, ↓T_var, ↓T_cint, ↓T_cstr, ↓T_cbl, ↓T_glob, ↓T_bin, ↓T_cmp, ↓T_neg, ↓T_chain, ↓T_call, ↓T_blt, ↓T_meth, ↓T_idx, ↓T_slc, ↓T_isi, ↓T_comp, ↓T_tupn, ↓T_lstn, ↓T_andn, ↓T_orn, ↓T_notn, ↓T_ife, ↓T_nil, ↓O_nil, ↓O_var, ↓O_cint, ↓O_neg, ↓O_bin, ↓O_blt, ↓O_glob, ↓A_nil, ↓A_cons, ↓B_nil, ↓B_cons, ↓C_nil, ↓C_io, ↓C_im, ↓rd_im, ↓rd_fr, ↓rd_bo, ↓fz_im, ↓fz_fr, ↓fz_bo, ↓rds_nil, ↓rds_cons, ↓ret_im, ↓ret_fr, ↓ret_bo, ↓rdC_nil, ↓rdC_im, ↓rdC_fr, ↓rdC_bo, bos_nil, bos_im, bos_fr, bos_bo, nd_nil, nd_one, ↓putB_nil, ↓putB_im, ↓putB_fr, ↓putB_bo, ↓ex_some, ↓ex_int, ↓post_nx, ↓post_rt, tru_bl, tru_int, tru_lst, tru_tup, tru_non, cmp_eq_int, cmp_ne_int, cmp_lt_int, cmp_le_int, cmp_gt_int, cmp_ge_int, cmp_lt_str, finsE, env0, List.getElem?_cons_zero, List.getElem?_cons_succ, List.length_cons, List.length_nil, List.replicate, List.cons_append, List.nil_append, List.append_nil, reduceIte, Bool.not_true, Bool.not_false, Bool.false_eq_true, if_true, if_false, true_and, and_true, ite_true, ite_false, Option.map_some, List.set_cons_zero, List.set_cons_succ, dIsi, dBin, dMm]
        have e : ((B : Int) + (k : Int)) % 26 = ((f k : Nat) : Int) := by
          show _ = (((B + 1 * k) % 26 : Nat) : Int)
          omega
        rw [e, Int.toNat_natCast]
        have hf : f k < 26 := Nat.mod_lt _ (by decide)
        refine ⟨by rw [strlen_push, jl.1, PySem.sizeLine_eq]; show ws.length + 1 + 1 ≤ _; omega, hns, ?_⟩
        rw [hnx3]
        exact app (wd ++ ⟨#[97 + c7']⟩ ++ ⟨#[97 + f k]⟩) p4 q4 (.im (.str (wd ++ ⟨#[97 + c7']⟩))) .un ⟨by rw [strlen_push]; omega, by rw [strlen_push, strlen_push, jl.1]; omega, fun d hd => by
          rcases mem_push.mp hd with hd | rfl
          · rcases mem_push.mp hd with hd | rfl
            · exact jl.2 d hd
            · exact letters_mem _ c7
          · exact letters_mem _ hf⟩ last_push ok4 (fun _ h => nomatch h) (fun _ h => nomatch h) (fun _ h => nomatch h) (fun _ h => nomatch h)
  · obtain ⟨k, ns, p', q', s6, s7, s8, hk, er, hn, hok, hl, ok', rfl, _⟩ := hS
    have hkm : k = m := by
      have := congrArg List.length er
      simp at this
      omega
    subst hkm
    rw [hnx]
    try simp only [↓S_nil, ↓S_cons, ↓S_pass, ↓S_asg, ↓S_asgt, ↓S_par2, ↓S_par3, ↓S_subT, ↓S_expr, ↓S_ret, ↓S_retN, ↓S_ifs, ↓E_var, ↓E_cint, ↓E_cstr, ↓E_cbl, ↓E_cnon, ↓E_glob, ↓E_bin, ↓E_neg, ↓E_cmp, ↓E_chain, ↓E_andn, ↓E_orn, ↓E_notn, ↓E_ife, ↓E_tupn, ↓E_lstn, ↓E_dnew, ↓E_blt, ↓E_meth, ↓E_mut, ↓E_idx, ↓E_slc, ↓E_isi, ↓T_var, ↓T_cint, ↓T_cstr, ↓T_cbl, ↓T_glob, ↓T_bin, ↓T_cmp, ↓T_neg, ↓T_chain, ↓T_call, ↓T_blt, ↓T_meth, ↓T_idx, ↓T_slc, ↓T_isi, ↓T_comp, ↓T_tupn, ↓T_lstn, ↓T_andn, ↓T_orn, ↓T_notn, ↓T_ife, ↓T_nil, ↓O_nil, ↓O_var, ↓O_cint, ↓O_neg, ↓O_bin, ↓O_blt, ↓O_glob, ↓A_nil, ↓A_cons, ↓B_nil, ↓B_cons, ↓C_nil, ↓C_io, ↓C_im, ↓rd_im, ↓rd_fr, ↓rd_bo, ↓fz_im, ↓fz_fr, ↓fz_bo, ↓rds_nil, ↓rds_cons, ↓ret_im, ↓ret_fr, ↓ret_bo, ↓rdC_nil, ↓rdC_im, ↓rdC_fr, ↓rdC_bo, bos_nil, bos_im, bos_fr, bos_bo, nd_nil, nd_one, ↓putB_nil, ↓putB_im, ↓putB_fr, ↓putB_bo, ↓ex_some, ↓ex_int, ↓post_nx, ↓post_rt, tru_bl, tru_int, tru_lst, tru_tup, tru_non, cmp_eq_int, cmp_ne_int, cmp_lt_int, cmp_le_int, cmp_gt_int, cmp_ge_int, cmp_lt_str, finsE, env0, List.getElem?_cons_zero, List.getElem?_cons_succ, List.length_cons, List.length_nil, List.replicate, List.cons_append, List.nil_append, List.append_nil, reduceIte, Bool.not_true, Bool.not_false, Bool.false_eq_true, if_true, if_false, true_and, and_true, ite_true, ite_false, Option.map_some, List.set_cons_zero, List.set_cons_succ, dIsi]
    have nd : ns.Nodup := nodup_of_last (f := f) (by rw [hn]; exact hl) fun i j hi hj e => by
      simp only [f] at e
      split at e
      · exact step_inj (.inr rfl) (by omega) (by omega) e
      · exact step_inj (.inl rfl) (by omega) (by omega) e
    first | exact hq ns p' q' hn hok nd ok' | exact ⟨[potD p' q'], rfl, hq ns p' q' hn hok nd ok'⟩
end LW
end
section
namespace LW
open PySem TG
theorem sLt_trans {x y z : Str} (h1 : sLt x y) (h2 : sLt y z) : sLt x z := List.lt_trans h1 h2
theorem sLt_of {x y : Str} (h : ¬ y.cps.toList < x.cps.toList) (n : x ≠ y) : sLt x y := by
  rcases Std.lt_trichotomy x.cps.toList y.cps.toList with h' | h' | h'
  · exact h'
  · exact absurd (by cases x; cases y; simp at h'; simp [h']) n
  · exact absurd h' h
theorem ltCps_eq : ∀ a b : List Nat, PySem.Spec.ltCps a b = decide (a < b)
  | [], [] => by simp [PySem.Spec.ltCps]
  | [], _ :: _ => by simp [PySem.Spec.ltCps]
  | _ :: _, [] => by simp [PySem.Spec.ltCps]
  | a :: r, b :: t => by
    rw [PySem.Spec.ltCps, ltCps_eq r t, Bool.eq_iff_iff]
    simp [List.cons_lt_cons_iff]
theorem rising_from : ∀ {l : List Str} {p : Str}, PyProof.Rows.risingS p l = true → (p :: l).Nodup → (p :: l).Pairwise sLt
  | [], p, _, _ => by simp
  | x :: r, p, h, nd => by
    rw [PyProof.Rows.risingS, Bool.and_eq_true, ltCps_eq] at h
    obtain ⟨n1, n2⟩ := List.nodup_cons.mp nd
    have ih := rising_from h.2 n2
    have px : sLt p x := sLt_of (by simpa using h.1) fun e => n1 (by rw [e]; exact List.mem_cons_self)
    refine List.pairwise_cons.mpr ⟨fun y hy => ?_, ih⟩
    rcases List.mem_cons.mp hy with rfl | hy
    · exact px
    · exact sLt_trans px ((List.pairwise_cons.mp ih).1 y hy)
theorem rising_of {l : List Str} (h : PyProof.Rows.sortedS l = true) (nd : l.Nodup) : Rising l := by
  cases l with
  | nil => exact List.Pairwise.nil
  | cons p l => exact rising_from h nd

def fi__law_web : FI := { io := [true], sp := fun ds Q _ => ∃ p q, ds = [potD p q] ∧ PotOk p q ∧ ∀ w p' q', WebOk w → w.ps.length ≤ 10 → PotOk p' q' → Q (.im (webD w)) [potD p' q'] }
def rowL (r : Row) : List D := [.str r.t, .str r.a, .str r.b, .int r.r]
theorem rowD_L (rows : List Row) : rows.map rowD = (rows.map rowL).map .tup := by rw [List.map_map]; rfl
def unRow : List D → Row
  | [.str t, .str a, .str b, .int r] => ⟨t, a, b, r⟩
  | _ => ⟨"", "", "", 0⟩
theorem perm_rows {rows : List Row} {rs : List (List D)} (h : rs.Perm (rows.map rowL)) : ∃ rows' : List Row, rows'.Perm rows ∧ rs = rows'.map rowL := by
  refine ⟨rs.map unRow, ?_, ?_⟩
  · have := h.map unRow
    rw [List.map_map] at this
    have e : (unRow ∘ rowL) = id := funext fun r => rfl
    rwa [e, List.map_id] at this
  · rw [List.map_map]
    refine (List.map_id rs).symm.trans (List.map_congr_left fun x hx => ?_)
    obtain ⟨r, _, rfl⟩ := List.mem_map.mp (h.mem_iff.mp hx)
    rfl
theorem lt_heads {r s : Row} (h : rowLt ((rowL s).map kyD) ((rowL r).map kyD) = false) (n : r.t ≠ s.t) : sLt r.t s.t := by
  refine sLt_of (fun h' => ?_) n
  have : rowLt ((rowL s).map kyD) ((rowL r).map kyD) = true := by
    simp only [rowL, List.map_cons, kyD, rowLt, itLt]
    rw [decide_eq_true h']; rfl
  rw [this] at h; cases h
theorem rising_rows {rows : List Row} (h : (rows.map rowL).Pairwise fun x y => rowLt (y.map kyD) (x.map kyD) = false) (nd : (rows.map (·.t)).Nodup) : Rising (rows.map (·.t)) := by
  have h := List.pairwise_map.mp h
  have nd : rows.Pairwise fun x y => x.t ≠ y.t := List.pairwise_map.mp nd
  exact List.pairwise_map.mpr (List.Pairwise.imp₂ (fun _ _ a b => lt_heads a b) h nd)
theorem at_str {ys : List Str} {x : Int} (h0 : 0 ≤ x) (h1 : x < ys.length) : ∃ h : x.toNat < ys.length, L2.atI (ys.map D.str) x = some (.str ys[x.toNat]) := by
  obtain ⟨k, rfl⟩ := Int.eq_ofNat_of_zero_le h0
  have hk : k < ys.length := by omega
  exact ⟨by simpa using hk, L2.atI_nat (by rw [List.getElem?_map, List.getElem?_eq_getElem hk]; rfl)⟩
theorem shD_row (r : Row) : shD (fun i => decide (i < 3)) 0 (rowL r) = true := rfl
theorem k__law_web (Γ : Ga) (h1 : Γ.fn "_law_draw" = some fi__law_draw) (h2 : Γ.fn "_law_names" = some fi__law_names) (h3 : Γ.fn "_law_room" = some fi__law_room) : Keeps Γ 9 sm__law_web fi__law_web := by
  rintro ds Q E ⟨p, q, rfl, ok, hq⟩
  refine ⟨rfl, by decide, ?_⟩
  unfold sm__law_web
  refine S_seq fun nx hnx => ?_
  have lin : (1 : Nat) ≤ sizeLine := by rw [PySem.sizeLine_eq]; omega
  try simp only [fi__law_web, potD, ↓S_nil, ↓S_cons, ↓S_pass, ↓S_asg, ↓S_asgt, ↓S_par2, ↓S_par3, ↓S_subT, ↓S_expr, ↓S_ret, ↓S_retN, ↓S_ifs, ↓E_var, ↓E_cint, ↓E_cstr, ↓E_cbl, ↓E_cnon, ↓E_glob, ↓E_bin, ↓E_neg, ↓E_cmp, ↓E_chain, ↓E_andn, ↓E_orn, ↓E_notn, ↓E_ife, ↓E_tupn, ↓E_lstn, ↓E_dnew, ↓E_blt, ↓E_meth, ↓E_mut, ↓E_idx, ↓E_slc, ↓E_isi, ↓T_var, ↓T_cint, ↓T_cstr, ↓T_cbl, ↓T_glob, ↓T_bin, ↓T_cmp, ↓T_neg, ↓T_chain, ↓T_call, ↓T_blt, ↓T_meth, ↓T_idx, ↓T_slc, ↓T_isi, ↓T_comp, ↓T_tupn, ↓T_lstn, ↓T_andn, ↓T_orn, ↓T_notn, ↓T_ife, ↓T_nil, ↓O_nil, ↓O_var, ↓O_cint, ↓O_neg, ↓O_bin, ↓O_blt, ↓O_glob, ↓A_nil, ↓A_cons, ↓B_nil, ↓B_cons, ↓C_nil, ↓C_io, ↓C_im, ↓rd_im, ↓rd_fr, ↓rd_bo, ↓fz_im, ↓fz_fr, ↓fz_bo, ↓rds_nil, ↓rds_cons, ↓ret_im, ↓ret_fr, ↓ret_bo, ↓rdC_nil, ↓rdC_im, ↓rdC_fr, ↓rdC_bo, bos_nil, bos_im, bos_fr, bos_bo, nd_nil, nd_one, ↓putB_nil, ↓putB_im, ↓putB_fr, ↓putB_bo, ↓ex_some, ↓ex_int, ↓post_nx, ↓post_rt, tru_bl, tru_int, tru_lst, tru_tup, tru_non, cmp_eq_int, cmp_ne_int, cmp_lt_int, cmp_le_int, cmp_gt_int, cmp_ge_int, cmp_lt_str, finsE, env0, List.getElem?_cons_zero, List.getElem?_cons_succ, List.length_cons, List.length_nil, List.replicate, List.cons_append, List.nil_append, List.append_nil, reduceIte, Bool.not_true, Bool.not_false, Bool.false_eq_true, if_true, if_false, true_and, and_true, ite_true, ite_false, Option.map_some, List.set_cons_zero, List.set_cons_succ, dIsi, ↓E_call' h2, fi__law_names, ↓E_call' h1, fi__law_draw, isOwnR, isOwn]
  refine ⟨by rw [PySem.sizeLine_eq]; omega, p, q, 4, rfl, ok, by decide, by decide, fun x p1 q1 x0 x1 ok1 => ?_⟩
  try simp only [potD, putS, ↓S_nil, ↓S_cons, ↓S_pass, ↓S_asg, ↓S_asgt, ↓S_par2, ↓S_par3, ↓S_subT, ↓S_expr, ↓S_ret, ↓S_retN, ↓S_ifs, ↓E_var, ↓E_cint, ↓E_cstr, ↓E_cbl, ↓E_cnon, ↓E_glob, ↓E_bin, ↓E_neg, ↓E_cmp, ↓E_chain, ↓E_andn, ↓E_orn, ↓E_notn, ↓E_ife, ↓E_tupn, ↓E_lstn, ↓E_dnew, ↓E_blt, ↓E_meth, ↓E_mut, ↓E_idx, ↓E_slc, ↓E_isi, ↓T_var, ↓T_cint, ↓T_cstr, ↓T_cbl, ↓T_glob, ↓T_bin, ↓T_cmp, ↓T_neg, ↓T_chain, ↓T_call, ↓T_blt, ↓T_meth, ↓T_idx, ↓T_slc, ↓T_isi, ↓T_comp, ↓T_tupn, ↓T_lstn, ↓T_andn, ↓T_orn, ↓T_notn, ↓T_ife, ↓T_nil, ↓O_nil, ↓O_var, ↓O_cint, ↓O_neg, ↓O_bin, ↓O_blt, ↓O_glob, ↓A_nil, ↓A_cons, ↓B_nil, ↓B_cons, ↓C_nil, ↓C_io, ↓C_im, ↓rd_im, ↓rd_fr, ↓rd_bo, ↓fz_im, ↓fz_fr, ↓fz_bo, ↓rds_nil, ↓rds_cons, ↓ret_im, ↓ret_fr, ↓ret_bo, ↓rdC_nil, ↓rdC_im, ↓rdC_fr, ↓rdC_bo, bos_nil, bos_im, bos_fr, bos_bo, nd_nil, nd_one, ↓putB_nil, ↓putB_im, ↓putB_fr, ↓putB_bo, ↓ex_some, ↓ex_int, ↓post_nx, ↓post_rt, tru_bl, tru_int, tru_lst, tru_tup, tru_non, cmp_eq_int, cmp_ne_int, cmp_lt_int, cmp_le_int, cmp_gt_int, cmp_ge_int, cmp_lt_str, finsE, env0, List.getElem?_cons_zero, List.getElem?_cons_succ, List.length_cons, List.length_nil, List.replicate, List.cons_append, List.nil_append, List.append_nil, reduceIte, Bool.not_true, Bool.not_false, Bool.false_eq_true, if_true, if_false, true_and, and_true, ite_true, ite_false, Option.map_some, List.set_cons_zero, List.set_cons_succ, dIsi, dIdx]
  obtain ⟨m, hm, em⟩ := at_some (l := [4, 6, 8, 10]) x0 (by simpa using x1)
  have em : L2.atI [D.int 4, .int 6, .int 8, .int 10] x = some (.int m) := em
  have hm : 1 ≤ m ∧ m ≤ 10 := by
    simp only [List.mem_cons, List.not_mem_nil, or_false] at hm
    omega
  simp only [em, ex_some]
  refine ⟨p1, q1, m, rfl, ok1, hm.1, by omega, fun y p2 q2 y0 y1 ok2 => ?_⟩
  try simp only [potD, putS, ↓S_nil, ↓S_cons, ↓S_pass, ↓S_asg, ↓S_asgt, ↓S_par2, ↓S_par3, ↓S_subT, ↓S_expr, ↓S_ret, ↓S_retN, ↓S_ifs, ↓E_var, ↓E_cint, ↓E_cstr, ↓E_cbl, ↓E_cnon, ↓E_glob, ↓E_bin, ↓E_neg, ↓E_cmp, ↓E_chain, ↓E_andn, ↓E_orn, ↓E_notn, ↓E_ife, ↓E_tupn, ↓E_lstn, ↓E_dnew, ↓E_blt, ↓E_meth, ↓E_mut, ↓E_idx, ↓E_slc, ↓E_isi, ↓T_var, ↓T_cint, ↓T_cstr, ↓T_cbl, ↓T_glob, ↓T_bin, ↓T_cmp, ↓T_neg, ↓T_chain, ↓T_call, ↓T_blt, ↓T_meth, ↓T_idx, ↓T_slc, ↓T_isi, ↓T_comp, ↓T_tupn, ↓T_lstn, ↓T_andn, ↓T_orn, ↓T_notn, ↓T_ife, ↓T_nil, ↓O_nil, ↓O_var, ↓O_cint, ↓O_neg, ↓O_bin, ↓O_blt, ↓O_glob, ↓A_nil, ↓A_cons, ↓B_nil, ↓B_cons, ↓C_nil, ↓C_io, ↓C_im, ↓rd_im, ↓rd_fr, ↓rd_bo, ↓fz_im, ↓fz_fr, ↓fz_bo, ↓rds_nil, ↓rds_cons, ↓ret_im, ↓ret_fr, ↓ret_bo, ↓rdC_nil, ↓rdC_im, ↓rdC_fr, ↓rdC_bo, bos_nil, bos_im, bos_fr, bos_bo, nd_nil, nd_one, ↓putB_nil, ↓putB_im, ↓putB_fr, ↓putB_bo, ↓ex_some, ↓ex_int, ↓post_nx, ↓post_rt, tru_bl, tru_int, tru_lst, tru_tup, tru_non, cmp_eq_int, cmp_ne_int, cmp_lt_int, cmp_le_int, cmp_gt_int, cmp_ge_int, cmp_lt_str, finsE, env0, List.getElem?_cons_zero, List.getElem?_cons_succ, List.length_cons, List.length_nil, List.replicate, List.cons_append, List.nil_append, List.append_nil, reduceIte, Bool.not_true, Bool.not_false, Bool.false_eq_true, if_true, if_false, true_and, and_true, ite_true, ite_false, Option.map_some, List.set_cons_zero, List.set_cons_succ, dIsi, dBin]
  obtain ⟨Y, rfl⟩ := Int.eq_ofNat_of_zero_le y0
  refine ⟨p2, q2, 1 + Y, by simp, ok2, by omega, fun ns p3 q3 hn hok nd ok3 => ?_⟩
  try simp only [potD, putS, ↓S_nil, ↓S_cons, ↓S_pass, ↓S_asg, ↓S_asgt, ↓S_par2, ↓S_par3, ↓S_subT, ↓S_expr, ↓S_ret, ↓S_retN, ↓S_ifs, ↓E_var, ↓E_cint, ↓E_cstr, ↓E_cbl, ↓E_cnon, ↓E_glob, ↓E_bin, ↓E_neg, ↓E_cmp, ↓E_chain, ↓E_andn, ↓E_orn, ↓E_notn, ↓E_ife, ↓E_tupn, ↓E_lstn, ↓E_dnew, ↓E_blt, ↓E_meth, ↓E_mut, ↓E_idx, ↓E_slc, ↓E_isi, ↓T_var, ↓T_cint, ↓T_cstr, ↓T_cbl, ↓T_glob, ↓T_bin, ↓T_cmp, ↓T_neg, ↓T_chain, ↓T_call, ↓T_blt, ↓T_meth, ↓T_idx, ↓T_slc, ↓T_isi, ↓T_comp, ↓T_tupn, ↓T_lstn, ↓T_andn, ↓T_orn, ↓T_notn, ↓T_ife, ↓T_nil, ↓O_nil, ↓O_var, ↓O_cint, ↓O_neg, ↓O_bin, ↓O_blt, ↓O_glob, ↓A_nil, ↓A_cons, ↓B_nil, ↓B_cons, ↓C_nil, ↓C_io, ↓C_im, ↓rd_im, ↓rd_fr, ↓rd_bo, ↓fz_im, ↓fz_fr, ↓fz_bo, ↓rds_nil, ↓rds_cons, ↓ret_im, ↓ret_fr, ↓ret_bo, ↓rdC_nil, ↓rdC_im, ↓rdC_fr, ↓rdC_bo, bos_nil, bos_im, bos_fr, bos_bo, nd_nil, nd_one, ↓putB_nil, ↓putB_im, ↓putB_fr, ↓putB_bo, ↓ex_some, ↓ex_int, ↓post_nx, ↓post_rt, tru_bl, tru_int, tru_lst, tru_tup, tru_non, cmp_eq_int, cmp_ne_int, cmp_lt_int, cmp_le_int, cmp_gt_int, cmp_ge_int, cmp_lt_str, finsE, env0, List.getElem?_cons_zero, List.getElem?_cons_succ, List.length_cons, List.length_nil, List.replicate, List.cons_append, List.nil_append, List.append_nil, reduceIte, Bool.not_true, Bool.not_false, Bool.false_eq_true, if_true, if_false, true_and, and_true, ite_true, ite_false, Option.map_some, List.set_cons_zero, List.set_cons_succ, dIsi, dBlt, dd_sorted, un, u_sorted]
  refine .inr (.inl ⟨ns, strs_map ns, by omega, fun ys hp hs => ?_⟩)
  try simp only [↓S_nil, ↓S_cons, ↓S_pass, ↓S_asg, ↓S_asgt, ↓S_par2, ↓S_par3, ↓S_subT, ↓S_expr, ↓S_ret, ↓S_retN, ↓S_ifs, ↓E_var, ↓E_cint, ↓E_cstr, ↓E_cbl, ↓E_cnon, ↓E_glob, ↓E_bin, ↓E_neg, ↓E_cmp, ↓E_chain, ↓E_andn, ↓E_orn, ↓E_notn, ↓E_ife, ↓E_tupn, ↓E_lstn, ↓E_dnew, ↓E_blt, ↓E_meth, ↓E_mut, ↓E_idx, ↓E_slc, ↓E_isi, ↓T_var, ↓T_cint, ↓T_cstr, ↓T_cbl, ↓T_glob, ↓T_bin, ↓T_cmp, ↓T_neg, ↓T_chain, ↓T_call, ↓T_blt, ↓T_meth, ↓T_idx, ↓T_slc, ↓T_isi, ↓T_comp, ↓T_tupn, ↓T_lstn, ↓T_andn, ↓T_orn, ↓T_notn, ↓T_ife, ↓T_nil, ↓O_nil, ↓O_var, ↓O_cint, ↓O_neg, ↓O_bin, ↓O_blt, ↓O_glob, ↓A_nil, ↓A_cons, ↓B_nil, ↓B_cons, ↓C_nil, ↓C_io, ↓C_im, ↓rd_im, ↓rd_fr, ↓rd_bo, ↓fz_im, ↓fz_fr, ↓fz_bo, ↓rds_nil, ↓rds_cons, ↓ret_im, ↓ret_fr, ↓ret_bo, ↓rdC_nil, ↓rdC_im, ↓rdC_fr, ↓rdC_bo, bos_nil, bos_im, bos_fr, bos_bo, nd_nil, nd_one, ↓putB_nil, ↓putB_im, ↓putB_fr, ↓putB_bo, ↓ex_some, ↓ex_int, ↓post_nx, ↓post_rt, tru_bl, tru_int, tru_lst, tru_tup, tru_non, cmp_eq_int, cmp_ne_int, cmp_lt_int, cmp_le_int, cmp_gt_int, cmp_ge_int, cmp_lt_str, finsE, env0, List.getElem?_cons_zero, List.getElem?_cons_succ, List.length_cons, List.length_nil, List.replicate, List.cons_append, List.nil_append, List.append_nil, reduceIte, Bool.not_true, Bool.not_false, Bool.false_eq_true, if_true, if_false, true_and, and_true, ite_true, ite_false, Option.map_some, List.set_cons_zero, List.set_cons_succ, dIsi, stS]
  have yl : ys.length = 1 + Y := hp.length_eq.trans hn
  have up : Rising ys := rising_of hs (hp.nodup_iff.mpr nd)
  have nm : ∀ x ∈ ys, NameOk x := fun x hx => hok x (hp.mem_iff.mp hx)
  rw [hnx]
  refine S_seq fun nx hnx => ?_
  try simp only [↓S_nil, ↓S_cons, ↓S_pass, ↓S_asg, ↓S_asgt, ↓S_par2, ↓S_par3, ↓S_subT, ↓S_expr, ↓S_ret, ↓S_retN, ↓S_ifs, ↓E_var, ↓E_cint, ↓E_cstr, ↓E_cbl, ↓E_cnon, ↓E_glob, ↓E_bin, ↓E_neg, ↓E_cmp, ↓E_chain, ↓E_andn, ↓E_orn, ↓E_notn, ↓E_ife, ↓E_tupn, ↓E_lstn, ↓E_dnew, ↓E_blt, ↓E_meth, ↓E_mut, ↓E_idx, ↓E_slc, ↓E_isi, ↓T_var, ↓T_cint, ↓T_cstr, ↓T_cbl, ↓T_glob, ↓T_bin, ↓T_cmp, ↓T_neg, ↓T_chain, ↓T_call, ↓T_blt, ↓T_meth, ↓T_idx, ↓T_slc, ↓T_isi, ↓T_comp, ↓T_tupn, ↓T_lstn, ↓T_andn, ↓T_orn, ↓T_notn, ↓T_ife, ↓T_nil, ↓O_nil, ↓O_var, ↓O_cint, ↓O_neg, ↓O_bin, ↓O_blt, ↓O_glob, ↓A_nil, ↓A_cons, ↓B_nil, ↓B_cons, ↓C_nil, ↓C_io, ↓C_im, ↓rd_im, ↓rd_fr, ↓rd_bo, ↓fz_im, ↓fz_fr, ↓fz_bo, ↓rds_nil, ↓rds_cons, ↓ret_im, ↓ret_fr, ↓ret_bo, ↓rdC_nil, ↓rdC_im, ↓rdC_fr, ↓rdC_bo, bos_nil, bos_im, bos_fr, bos_bo, nd_nil, nd_one, ↓putB_nil, ↓putB_im, ↓putB_fr, ↓putB_bo, ↓ex_some, ↓ex_int, ↓post_nx, ↓post_rt, tru_bl, tru_int, tru_lst, tru_tup, tru_non, cmp_eq_int, cmp_ne_int, cmp_lt_int, cmp_le_int, cmp_gt_int, cmp_ge_int, cmp_lt_str, finsE, env0, List.getElem?_cons_zero, List.getElem?_cons_succ, List.length_cons, List.length_nil, List.replicate, List.cons_append, List.nil_append, List.append_nil, reduceIte, Bool.not_true, Bool.not_false, Bool.false_eq_true, if_true, if_false, true_and, and_true, ite_true, ite_false, Option.map_some, List.set_cons_zero, List.set_cons_succ, dIsi, ↓E_call' h1, fi__law_draw, isOwnR, isOwn]
  refine ⟨p3, q3, 2, rfl, ok3, by decide, by decide, fun g p4 q4 g0 g1 ok4 => ?_⟩
  try simp only [potD, putS, ↓S_nil, ↓S_cons, ↓S_pass, ↓S_asg, ↓S_asgt, ↓S_par2, ↓S_par3, ↓S_subT, ↓S_expr, ↓S_ret, ↓S_retN, ↓S_ifs, ↓E_var, ↓E_cint, ↓E_cstr, ↓E_cbl, ↓E_cnon, ↓E_glob, ↓E_bin, ↓E_neg, ↓E_cmp, ↓E_chain, ↓E_andn, ↓E_orn, ↓E_notn, ↓E_ife, ↓E_tupn, ↓E_lstn, ↓E_dnew, ↓E_blt, ↓E_meth, ↓E_mut, ↓E_idx, ↓E_slc, ↓E_isi, ↓T_var, ↓T_cint, ↓T_cstr, ↓T_cbl, ↓T_glob, ↓T_bin, ↓T_cmp, ↓T_neg, ↓T_chain, ↓T_call, ↓T_blt, ↓T_meth, ↓T_idx, ↓T_slc, ↓T_isi, ↓T_comp, ↓T_tupn, ↓T_lstn, ↓T_andn, ↓T_orn, ↓T_notn, ↓T_ife, ↓T_nil, ↓O_nil, ↓O_var, ↓O_cint, ↓O_neg, ↓O_bin, ↓O_blt, ↓O_glob, ↓A_nil, ↓A_cons, ↓B_nil, ↓B_cons, ↓C_nil, ↓C_io, ↓C_im, ↓rd_im, ↓rd_fr, ↓rd_bo, ↓fz_im, ↓fz_fr, ↓fz_bo, ↓rds_nil, ↓rds_cons, ↓ret_im, ↓ret_fr, ↓ret_bo, ↓rdC_nil, ↓rdC_im, ↓rdC_fr, ↓rdC_bo, bos_nil, bos_im, bos_fr, bos_bo, nd_nil, nd_one, ↓putB_nil, ↓putB_im, ↓putB_fr, ↓putB_bo, ↓ex_some, ↓ex_int, ↓post_nx, ↓post_rt, tru_bl, tru_int, tru_lst, tru_tup, tru_non, cmp_eq_int, cmp_ne_int, cmp_lt_int, cmp_le_int, cmp_gt_int, cmp_ge_int, cmp_lt_str, finsE, env0, List.getElem?_cons_zero, List.getElem?_cons_succ, List.length_cons, List.length_nil, List.replicate, List.cons_append, List.nil_append, List.append_nil, reduceIte, Bool.not_true, Bool.not_false, Bool.false_eq_true, if_true, if_false, true_and, and_true, ite_true, ite_false, Option.map_some, List.set_cons_zero, List.set_cons_succ, dIsi, stS]
  generalize (g == 1) = gr
  rw [hnx]
  refine S_seq fun nx hnx => ?_
  -- how many ties
  have key : ∀ (m : Nat) (p5 q5 : Int), m ≤ 25 → (m = 0 ∨ 2 ≤ ys.length) → PotOk p5 q5 → nx [.io (potD p5 q5), .ow (.lst (ys.map .str)), .im (.bl gr), .im (.int m), .un, .un, .un, .un, .un] := fun m p5 q5 hm hy ok5 => by
    rw [hnx]
    refine S_seq fun nx hnx => ?_
    try simp only [↓S_nil, ↓S_cons, ↓S_pass, ↓S_asg, ↓S_asgt, ↓S_par2, ↓S_par3, ↓S_subT, ↓S_expr, ↓S_ret, ↓S_retN, ↓S_ifs, ↓E_var, ↓E_cint, ↓E_cstr, ↓E_cbl, ↓E_cnon, ↓E_glob, ↓E_bin, ↓E_neg, ↓E_cmp, ↓E_chain, ↓E_andn, ↓E_orn, ↓E_notn, ↓E_ife, ↓E_tupn, ↓E_lstn, ↓E_dnew, ↓E_blt, ↓E_meth, ↓E_mut, ↓E_idx, ↓E_slc, ↓E_isi, ↓T_var, ↓T_cint, ↓T_cstr, ↓T_cbl, ↓T_glob, ↓T_bin, ↓T_cmp, ↓T_neg, ↓T_chain, ↓T_call, ↓T_blt, ↓T_meth, ↓T_idx, ↓T_slc, ↓T_isi, ↓T_comp, ↓T_tupn, ↓T_lstn, ↓T_andn, ↓T_orn, ↓T_notn, ↓T_ife, ↓T_nil, ↓O_nil, ↓O_var, ↓O_cint, ↓O_neg, ↓O_bin, ↓O_blt, ↓O_glob, ↓A_nil, ↓A_cons, ↓B_nil, ↓B_cons, ↓C_nil, ↓C_io, ↓C_im, ↓rd_im, ↓rd_fr, ↓rd_bo, ↓fz_im, ↓fz_fr, ↓fz_bo, ↓rds_nil, ↓rds_cons, ↓ret_im, ↓ret_fr, ↓ret_bo, ↓rdC_nil, ↓rdC_im, ↓rdC_fr, ↓rdC_bo, bos_nil, bos_im, bos_fr, bos_bo, nd_nil, nd_one, ↓putB_nil, ↓putB_im, ↓putB_fr, ↓putB_bo, ↓ex_some, ↓ex_int, ↓post_nx, ↓post_rt, tru_bl, tru_int, tru_lst, tru_tup, tru_non, cmp_eq_int, cmp_ne_int, cmp_lt_int, cmp_le_int, cmp_gt_int, cmp_ge_int, cmp_lt_str, finsE, env0, List.getElem?_cons_zero, List.getElem?_cons_succ, List.length_cons, List.length_nil, List.replicate, List.cons_append, List.nil_append, List.append_nil, reduceIte, Bool.not_true, Bool.not_false, Bool.false_eq_true, if_true, if_false, true_and, and_true, ite_true, ite_false, Option.map_some, List.set_cons_zero, List.set_cons_succ, dIsi, stS]
    refine ⟨Nat.zero_le _, ?_⟩
    rw [hnx]
    refine S_seq fun nx hnx => ?_
    try simp only [↓S_for, ↓I_call, ↓E_call' h2, fi__law_names, isOwnR, isOwn, ↓S_nil, ↓S_cons, ↓S_pass, ↓S_asg, ↓S_asgt, ↓S_par2, ↓S_par3, ↓S_subT, ↓S_expr, ↓S_ret, ↓S_retN, ↓S_ifs, ↓E_var, ↓E_cint, ↓E_cstr, ↓E_cbl, ↓E_cnon, ↓E_glob, ↓E_bin, ↓E_neg, ↓E_cmp, ↓E_chain, ↓E_andn, ↓E_orn, ↓E_notn, ↓E_ife, ↓E_tupn, ↓E_lstn, ↓E_dnew, ↓E_blt, ↓E_meth, ↓E_mut, ↓E_idx, ↓E_slc, ↓E_isi, ↓T_var, ↓T_cint, ↓T_cstr, ↓T_cbl, ↓T_glob, ↓T_bin, ↓T_cmp, ↓T_neg, ↓T_chain, ↓T_call, ↓T_blt, ↓T_meth, ↓T_idx, ↓T_slc, ↓T_isi, ↓T_comp, ↓T_tupn, ↓T_lstn, ↓T_andn, ↓T_orn, ↓T_notn, ↓T_ife, ↓T_nil, ↓O_nil, ↓O_var, ↓O_cint, ↓O_neg, ↓O_bin, ↓O_blt, ↓O_glob, ↓A_nil, ↓A_cons, ↓B_nil, ↓B_cons, ↓C_nil, ↓C_io, ↓C_im, ↓rd_im, ↓rd_fr, ↓rd_bo, ↓fz_im, ↓fz_fr, ↓fz_bo, ↓rds_nil, ↓rds_cons, ↓ret_im, ↓ret_fr, ↓ret_bo, ↓rdC_nil, ↓rdC_im, ↓rdC_fr, ↓rdC_bo, bos_nil, bos_im, bos_fr, bos_bo, nd_nil, nd_one, ↓putB_nil, ↓putB_im, ↓putB_fr, ↓putB_bo, ↓ex_some, ↓ex_int, ↓post_nx, ↓post_rt, tru_bl, tru_int, tru_lst, tru_tup, tru_non, cmp_eq_int, cmp_ne_int, cmp_lt_int, cmp_le_int, cmp_gt_int, cmp_ge_int, cmp_lt_str, finsE, env0, List.getElem?_cons_zero, List.getElem?_cons_succ, List.length_cons, List.length_nil, List.replicate, List.cons_append, List.nil_append, List.append_nil, reduceIte, Bool.not_true, Bool.not_false, Bool.false_eq_true, if_true, if_false, true_and, and_true, ite_true, ite_false, Option.map_some, List.set_cons_zero, List.set_cons_succ, dIsi, potD]
    refine ⟨p5, q5, m, rfl, ok5, hm, fun ts p6 q6 ht tok tnd ok6 => ?_⟩
    try simp only [potD, putS, ↓S_nil, ↓S_cons, ↓S_pass, ↓S_asg, ↓S_asgt, ↓S_par2, ↓S_par3, ↓S_subT, ↓S_expr, ↓S_ret, ↓S_retN, ↓S_ifs, ↓E_var, ↓E_cint, ↓E_cstr, ↓E_cbl, ↓E_cnon, ↓E_glob, ↓E_bin, ↓E_neg, ↓E_cmp, ↓E_chain, ↓E_andn, ↓E_orn, ↓E_notn, ↓E_ife, ↓E_tupn, ↓E_lstn, ↓E_dnew, ↓E_blt, ↓E_meth, ↓E_mut, ↓E_idx, ↓E_slc, ↓E_isi, ↓T_var, ↓T_cint, ↓T_cstr, ↓T_cbl, ↓T_glob, ↓T_bin, ↓T_cmp, ↓T_neg, ↓T_chain, ↓T_call, ↓T_blt, ↓T_meth, ↓T_idx, ↓T_slc, ↓T_isi, ↓T_comp, ↓T_tupn, ↓T_lstn, ↓T_andn, ↓T_orn, ↓T_notn, ↓T_ife, ↓T_nil, ↓O_nil, ↓O_var, ↓O_cint, ↓O_neg, ↓O_bin, ↓O_blt, ↓O_glob, ↓A_nil, ↓A_cons, ↓B_nil, ↓B_cons, ↓C_nil, ↓C_io, ↓C_im, ↓rd_im, ↓rd_fr, ↓rd_bo, ↓fz_im, ↓fz_fr, ↓fz_bo, ↓rds_nil, ↓rds_cons, ↓ret_im, ↓ret_fr, ↓ret_bo, ↓rdC_nil, ↓rdC_im, ↓rdC_fr, ↓rdC_bo, bos_nil, bos_im, bos_fr, bos_bo, nd_nil, nd_one, ↓putB_nil, ↓putB_im, ↓putB_fr, ↓putB_bo, ↓ex_some, ↓ex_int, ↓post_nx, ↓post_rt, tru_bl, tru_int, tru_lst, tru_tup, tru_non, cmp_eq_int, cmp_ne_int, cmp_lt_int, cmp_le_int, cmp_gt_int, cmp_ge_int, cmp_lt_str, finsE, env0, List.getElem?_cons_zero, List.getElem?_cons_succ, List.length_cons, List.length_nil, List.replicate, List.cons_append, List.nil_append, List.append_nil, reduceIte, Bool.not_true, Bool.not_false, Bool.false_eq_true, if_true, if_false, true_and, and_true, ite_true, ite_false, Option.map_some, List.set_cons_zero, List.set_cons_succ, dIsi, ↓srcR_fr, itD, frzL]
    let S : List D → TG.Env → Prop := fun r e => ∃ (k : Nat) (rs : List Row) (p' q' : Int) (s5 s6 s7 s8 : Sl), k ≤ m ∧ r = (ts.drop k).map .str ∧ rs.map (·.t) = ts.take k ∧ (∀ x ∈ rs, RowOk ys x) ∧ PotOk p' q' ∧
      e = [.io (potD p' q'), .ow (.lst (ys.map .str)), .im (.bl gr), .im (.int m), .ow (.lst (rs.map rowD)), s5, s6, s7, s8] ∧ (∀ d, s5 ≠ .io d) ∧ (∀ d, s5 ≠ .lk d) ∧ (∀ d, s6 ≠ .io d) ∧ (∀ d, s6 ≠ .lk d) ∧ (∀ d, s7 ≠ .io d) ∧ (∀ d, s7 ≠ .lk d) ∧ (∀ d, s8 ≠ .io d) ∧ (∀ d, s8 ≠ .lk d)
    refine forW_state S (fun r e _ i h => nomatch h) (fun d r e nx2 hS hk => ?_) ⟨0, [], p6, q6, .un, .un, .un, .un, Nat.zero_le _, rfl, rfl, (fun _ h => nomatch h), ok6, rfl, (fun _ h => nomatch h), (fun _ h => nomatch h), (fun _ h => nomatch h), (fun _ h => nomatch h), (fun _ h => nomatch h), (fun _ h => nomatch h), (fun _ h => nomatch h), (fun _ h => nomatch h)⟩ fun e hS => ?_
    · obtain ⟨k, rs, p', q', s5, s6, s7, s8, hkm, er, hts, hok', ok', rfl, i1, i2, i3, i4, i5, i6, i7, i8⟩ := hS
      have lt : k < ts.length := by
        have := congrArg List.length er
        simp at this
        omega
      rw [List.drop_eq_getElem_cons lt, List.map_cons] at er
      obtain ⟨rfl, rfl⟩ := List.cons.inj er
      have y2 : 2 ≤ ys.length := by rcases hy with rfl | h <;> omega
      have rl : rs.length = k := by
        have := congrArg List.length hts
        rw [List.length_map, List.length_take] at this
        omega
      simp only [fturn, bindT]
      rw [st_some (s := s5) rfl i1 i2]
      refine S_seq fun nx3 hnx3 => ?_
      try simp only [↓S_nil, ↓S_cons, ↓S_pass, ↓S_asg, ↓S_asgt, ↓S_par2, ↓S_par3, ↓S_subT, ↓S_expr, ↓S_ret, ↓S_retN, ↓S_ifs, ↓E_var, ↓E_cint, ↓E_cstr, ↓E_cbl, ↓E_cnon, ↓E_glob, ↓E_bin, ↓E_neg, ↓E_cmp, ↓E_chain, ↓E_andn, ↓E_orn, ↓E_notn, ↓E_ife, ↓E_tupn, ↓E_lstn, ↓E_dnew, ↓E_blt, ↓E_meth, ↓E_mut, ↓E_idx, ↓E_slc, ↓E_isi, ↓T_var, ↓T_cint, ↓T_cstr, ↓T_cbl, ↓T_glob, ↓T_bin, ↓T_cmp, ↓T_neg, ↓T_chain, ↓T_call, ↓T_blt, ↓T_meth, ↓T_idx, ↓T_slc, ↓T_isi, ↓T_comp, ↓T_tupn, ↓T_lstn, ↓T_andn, ↓T_orn, ↓T_notn, ↓T_ife, ↓T_nil, ↓O_nil, ↓O_var, ↓O_cint, ↓O_neg, ↓O_bin, ↓O_blt, ↓O_glob, ↓A_nil, ↓A_cons, ↓B_nil, ↓B_cons, ↓C_nil, ↓C_io, ↓C_im, ↓rd_im, ↓rd_fr, ↓rd_bo, ↓fz_im, ↓fz_fr, ↓fz_bo, ↓rds_nil, ↓rds_cons, ↓ret_im, ↓ret_fr, ↓ret_bo, ↓rdC_nil, ↓rdC_im, ↓rdC_fr, ↓rdC_bo, bos_nil, bos_im, bos_fr, bos_bo, nd_nil, nd_one, ↓putB_nil, ↓putB_im, ↓putB_fr, ↓putB_bo, ↓ex_some, ↓ex_int, ↓post_nx, ↓post_rt, tru_bl, tru_int, tru_lst, tru_tup, tru_non, cmp_eq_int, cmp_ne_int, cmp_lt_int, cmp_le_int, cmp_gt_int, cmp_ge_int, cmp_lt_str, finsE, env0, List.getElem?_cons_zero, List.getElem?_cons_succ, List.length_cons, List.length_nil, List.replicate, List.cons_append, List.nil_append, List.append_nil, reduceIte, Bool.not_true, Bool.not_false, Bool.false_eq_true, if_true, if_false, true_and, and_true, ite_true, ite_false, Option.map_some, List.set_cons_zero, List.set_cons_succ, dIsi, ↓E_call' h1, fi__law_draw, isOwnR, isOwn, dBlt, dd_len, un, u_len, List.length_map]
      refine ⟨p', q', ys.length, by simp [potD], ok', by omega, by omega, fun a p7 q7 a0 a1 ok7 => ?_⟩
      try simp only [potD, putS, ↓S_nil, ↓S_cons, ↓S_pass, ↓S_asg, ↓S_asgt, ↓S_par2, ↓S_par3, ↓S_subT, ↓S_expr, ↓S_ret, ↓S_retN, ↓S_ifs, ↓E_var, ↓E_cint, ↓E_cstr, ↓E_cbl, ↓E_cnon, ↓E_glob, ↓E_bin, ↓E_neg, ↓E_cmp, ↓E_chain, ↓E_andn, ↓E_orn, ↓E_notn, ↓E_ife, ↓E_tupn, ↓E_lstn, ↓E_dnew, ↓E_blt, ↓E_meth, ↓E_mut, ↓E_idx, ↓E_slc, ↓E_isi, ↓T_var, ↓T_cint, ↓T_cstr, ↓T_cbl, ↓T_glob, ↓T_bin, ↓T_cmp, ↓T_neg, ↓T_chain, ↓T_call, ↓T_blt, ↓T_meth, ↓T_idx, ↓T_slc, ↓T_isi, ↓T_comp, ↓T_tupn, ↓T_lstn, ↓T_andn, ↓T_orn, ↓T_notn, ↓T_ife, ↓T_nil, ↓O_nil, ↓O_var, ↓O_cint, ↓O_neg, ↓O_bin, ↓O_blt, ↓O_glob, ↓A_nil, ↓A_cons, ↓B_nil, ↓B_cons, ↓C_nil, ↓C_io, ↓C_im, ↓rd_im, ↓rd_fr, ↓rd_bo, ↓fz_im, ↓fz_fr, ↓fz_bo, ↓rds_nil, ↓rds_cons, ↓ret_im, ↓ret_fr, ↓ret_bo, ↓rdC_nil, ↓rdC_im, ↓rdC_fr, ↓rdC_bo, bos_nil, bos_im, bos_fr, bos_bo, nd_nil, nd_one, ↓putB_nil, ↓putB_im, ↓putB_fr, ↓putB_bo, ↓ex_some, ↓ex_int, ↓post_nx, ↓post_rt, tru_bl, tru_int, tru_lst, tru_tup, tru_non, cmp_eq_int, cmp_ne_int, cmp_lt_int, cmp_le_int, cmp_gt_int, cmp_ge_int, cmp_lt_str, finsE, env0, List.getElem?_cons_zero, List.getElem?_cons_succ, List.length_cons, List.length_nil, List.replicate, List.cons_append, List.nil_append, List.append_nil, reduceIte, Bool.not_true, Bool.not_false, Bool.false_eq_true, if_true, if_false, true_and, and_true, ite_true, ite_false, Option.map_some, List.set_cons_zero, List.set_cons_succ, dIsi]
      rw [st_some (s := s6) rfl i3 i4]
      try simp only [↓S_nil, ↓S_cons, ↓S_pass, ↓S_asg, ↓S_asgt, ↓S_par2, ↓S_par3, ↓S_subT, ↓S_expr, ↓S_ret, ↓S_retN, ↓S_ifs, ↓E_var, ↓E_cint, ↓E_cstr, ↓E_cbl, ↓E_cnon, ↓E_glob, ↓E_bin, ↓E_neg, ↓E_cmp, ↓E_chain, ↓E_andn, ↓E_orn, ↓E_notn, ↓E_ife, ↓E_tupn, ↓E_lstn, ↓E_dnew, ↓E_blt, ↓E_meth, ↓E_mut, ↓E_idx, ↓E_slc, ↓E_isi, ↓T_var, ↓T_cint, ↓T_cstr, ↓T_cbl, ↓T_glob, ↓T_bin, ↓T_cmp, ↓T_neg, ↓T_chain, ↓T_call, ↓T_blt, ↓T_meth, ↓T_idx, ↓T_slc, ↓T_isi, ↓T_comp, ↓T_tupn, ↓T_lstn, ↓T_andn, ↓T_orn, ↓T_notn, ↓T_ife, ↓T_nil, ↓O_nil, ↓O_var, ↓O_cint, ↓O_neg, ↓O_bin, ↓O_blt, ↓O_glob, ↓A_nil, ↓A_cons, ↓B_nil, ↓B_cons, ↓C_nil, ↓C_io, ↓C_im, ↓rd_im, ↓rd_fr, ↓rd_bo, ↓fz_im, ↓fz_fr, ↓fz_bo, ↓rds_nil, ↓rds_cons, ↓ret_im, ↓ret_fr, ↓ret_bo, ↓rdC_nil, ↓rdC_im, ↓rdC_fr, ↓rdC_bo, bos_nil, bos_im, bos_fr, bos_bo, nd_nil, nd_one, ↓putB_nil, ↓putB_im, ↓putB_fr, ↓putB_bo, ↓ex_some, ↓ex_int, ↓post_nx, ↓post_rt, tru_bl, tru_int, tru_lst, tru_tup, tru_non, cmp_eq_int, cmp_ne_int, cmp_lt_int, cmp_le_int, cmp_gt_int, cmp_ge_int, cmp_lt_str, finsE, env0, List.getElem?_cons_zero, List.getElem?_cons_succ, List.length_cons, List.length_nil, List.replicate, List.cons_append, List.nil_append, List.append_nil, reduceIte, Bool.not_true, Bool.not_false, Bool.false_eq_true, if_true, if_false, true_and, and_true, ite_true, ite_false, Option.map_some, List.set_cons_zero, List.set_cons_succ, dIsi]
      rw [hnx3]
      refine S_seq fun nx4 hnx4 => ?_
      try simp only [↓S_nil, ↓S_cons, ↓S_pass, ↓S_asg, ↓S_asgt, ↓S_par2, ↓S_par3, ↓S_subT, ↓S_expr, ↓S_ret, ↓S_retN, ↓S_ifs, ↓E_var, ↓E_cint, ↓E_cstr, ↓E_cbl, ↓E_cnon, ↓E_glob, ↓E_bin, ↓E_neg, ↓E_cmp, ↓E_chain, ↓E_andn, ↓E_orn, ↓E_notn, ↓E_ife, ↓E_tupn, ↓E_lstn, ↓E_dnew, ↓E_blt, ↓E_meth, ↓E_mut, ↓E_idx, ↓E_slc, ↓E_isi, ↓T_var, ↓T_cint, ↓T_cstr, ↓T_cbl, ↓T_glob, ↓T_bin, ↓T_cmp, ↓T_neg, ↓T_chain, ↓T_call, ↓T_blt, ↓T_meth, ↓T_idx, ↓T_slc, ↓T_isi, ↓T_comp, ↓T_tupn, ↓T_lstn, ↓T_andn, ↓T_orn, ↓T_notn, ↓T_ife, ↓T_nil, ↓O_nil, ↓O_var, ↓O_cint, ↓O_neg, ↓O_bin, ↓O_blt, ↓O_glob, ↓A_nil, ↓A_cons, ↓B_nil, ↓B_cons, ↓C_nil, ↓C_io, ↓C_im, ↓rd_im, ↓rd_fr, ↓rd_bo, ↓fz_im, ↓fz_fr, ↓fz_bo, ↓rds_nil, ↓rds_cons, ↓ret_im, ↓ret_fr, ↓ret_bo, ↓rdC_nil, ↓rdC_im, ↓rdC_fr, ↓rdC_bo, bos_nil, bos_im, bos_fr, bos_bo, nd_nil, nd_one, ↓putB_nil, ↓putB_im, ↓putB_fr, ↓putB_bo, ↓ex_some, ↓ex_int, ↓post_nx, ↓post_rt, tru_bl, tru_int, tru_lst, tru_tup, tru_non, cmp_eq_int, cmp_ne_int, cmp_lt_int, cmp_le_int, cmp_gt_int, cmp_ge_int, cmp_lt_str, finsE, env0, List.getElem?_cons_zero, List.getElem?_cons_succ, List.length_cons, List.length_nil, List.replicate, List.cons_append, List.nil_append, List.append_nil, reduceIte, Bool.not_true, Bool.not_false, Bool.false_eq_true, if_true, if_false, true_and, and_true, ite_true, ite_false, Option.map_some, List.set_cons_zero, List.set_cons_succ, dIsi, ↓E_call' h1, fi__law_draw, isOwnR, isOwn, dBlt, dd_len, un, u_len, List.length_map, dBin]
      refine ⟨p7, q7, ys.length - 1, by simp [potD], ok7, by omega, by omega, fun b p8 q8 b0 b1 ok8 => ?_⟩
      try simp only [potD, putS, ↓S_nil, ↓S_cons, ↓S_pass, ↓S_asg, ↓S_asgt, ↓S_par2, ↓S_par3, ↓S_subT, ↓S_expr, ↓S_ret, ↓S_retN, ↓S_ifs, ↓E_var, ↓E_cint, ↓E_cstr, ↓E_cbl, ↓E_cnon, ↓E_glob, ↓E_bin, ↓E_neg, ↓E_cmp, ↓E_chain, ↓E_andn, ↓E_orn, ↓E_notn, ↓E_ife, ↓E_tupn, ↓E_lstn, ↓E_dnew, ↓E_blt, ↓E_meth, ↓E_mut, ↓E_idx, ↓E_slc, ↓E_isi, ↓T_var, ↓T_cint, ↓T_cstr, ↓T_cbl, ↓T_glob, ↓T_bin, ↓T_cmp, ↓T_neg, ↓T_chain, ↓T_call, ↓T_blt, ↓T_meth, ↓T_idx, ↓T_slc, ↓T_isi, ↓T_comp, ↓T_tupn, ↓T_lstn, ↓T_andn, ↓T_orn, ↓T_notn, ↓T_ife, ↓T_nil, ↓O_nil, ↓O_var, ↓O_cint, ↓O_neg, ↓O_bin, ↓O_blt, ↓O_glob, ↓A_nil, ↓A_cons, ↓B_nil, ↓B_cons, ↓C_nil, ↓C_io, ↓C_im, ↓rd_im, ↓rd_fr, ↓rd_bo, ↓fz_im, ↓fz_fr, ↓fz_bo, ↓rds_nil, ↓rds_cons, ↓ret_im, ↓ret_fr, ↓ret_bo, ↓rdC_nil, ↓rdC_im, ↓rdC_fr, ↓rdC_bo, bos_nil, bos_im, bos_fr, bos_bo, nd_nil, nd_one, ↓putB_nil, ↓putB_im, ↓putB_fr, ↓putB_bo, ↓ex_some, ↓ex_int, ↓post_nx, ↓post_rt, tru_bl, tru_int, tru_lst, tru_tup, tru_non, cmp_eq_int, cmp_ne_int, cmp_lt_int, cmp_le_int, cmp_gt_int, cmp_ge_int, cmp_lt_str, finsE, env0, List.getElem?_cons_zero, List.getElem?_cons_succ, List.length_cons, List.length_nil, List.replicate, List.cons_append, List.nil_append, List.append_nil, reduceIte, Bool.not_true, Bool.not_false, Bool.false_eq_true, if_true, if_false, true_and, and_true, ite_true, ite_false, Option.map_some, List.set_cons_zero, List.set_cons_succ, dIsi, dBin, List.length_map]
      refine ⟨by omega, ?_⟩
      rw [st_some (s := s7) rfl i5 i6]
      try simp only [↓S_nil, ↓S_cons, ↓S_pass, ↓S_asg, ↓S_asgt, ↓S_par2, ↓S_par3, ↓S_subT, ↓S_expr, ↓S_ret, ↓S_retN, ↓S_ifs, ↓E_var, ↓E_cint, ↓E_cstr, ↓E_cbl, ↓E_cnon, ↓E_glob, ↓E_bin, ↓E_neg, ↓E_cmp, ↓E_chain, ↓E_andn, ↓E_orn, ↓E_notn, ↓E_ife, ↓E_tupn, ↓E_lstn, ↓E_dnew, ↓E_blt, ↓E_meth, ↓E_mut, ↓E_idx, ↓E_slc, ↓E_isi, ↓T_var, ↓T_cint, ↓T_cstr, ↓T_cbl, ↓T_glob, ↓T_bin, ↓T_cmp, ↓T_neg, ↓T_chain, ↓T_call, ↓T_blt, ↓T_meth, ↓T_idx, ↓T_slc, ↓T_isi, ↓T_comp, ↓T_tupn, ↓T_lstn, ↓T_andn, ↓T_orn, ↓T_notn, ↓T_ife, ↓T_nil, ↓O_nil, ↓O_var, ↓O_cint, ↓O_neg, ↓O_bin, ↓O_blt, ↓O_glob, ↓A_nil, ↓A_cons, ↓B_nil, ↓B_cons, ↓C_nil, ↓C_io, ↓C_im, ↓rd_im, ↓rd_fr, ↓rd_bo, ↓fz_im, ↓fz_fr, ↓fz_bo, ↓rds_nil, ↓rds_cons, ↓ret_im, ↓ret_fr, ↓ret_bo, ↓rdC_nil, ↓rdC_im, ↓rdC_fr, ↓rdC_bo, bos_nil, bos_im, bos_fr, bos_bo, nd_nil, nd_one, ↓putB_nil, ↓putB_im, ↓putB_fr, ↓putB_bo, ↓ex_some, ↓ex_int, ↓post_nx, ↓post_rt, tru_bl, tru_int, tru_lst, tru_tup, tru_non, cmp_eq_int, cmp_ne_int, cmp_lt_int, cmp_le_int, cmp_gt_int, cmp_ge_int, cmp_lt_str, finsE, env0, List.getElem?_cons_zero, List.getElem?_cons_succ, List.length_cons, List.length_nil, List.replicate, List.cons_append, List.nil_append, List.append_nil, reduceIte, Bool.not_true, Bool.not_false, Bool.false_eq_true, if_true, if_false, true_and, and_true, ite_true, ite_false, Option.map_some, List.set_cons_zero, List.set_cons_succ, dIsi]
      rw [hnx4]
      refine S_seq fun nx5 hnx5 => ?_
      generalize hf : (a + 1 + b) % (ys.length : Int) = f
      have f0 : 0 ≤ f := by rw [← hf]; exact Int.emod_nonneg _ (by omega)
      have f1 : f < ys.length := by rw [← hf]; exact Int.emod_lt_of_pos _ (by omega)
      have fa : f ≠ a := by
        intro e
        rw [e] at hf
        by_cases h : a + 1 + b < ys.length
        · rw [Int.emod_eq_of_lt (by omega) h] at hf; omega
        · rw [show a + 1 + b = (a + 1 + b - ys.length) + ys.length by omega, Int.add_emod_right, Int.emod_eq_of_lt (by omega) (by omega)] at hf
          omega
      try simp only [↓S_nil, ↓S_cons, ↓S_pass, ↓S_asg, ↓S_asgt, ↓S_par2, ↓S_par3, ↓S_subT, ↓S_expr, ↓S_ret, ↓S_retN, ↓S_ifs, ↓E_var, ↓E_cint, ↓E_cstr, ↓E_cbl, ↓E_cnon, ↓E_glob, ↓E_bin, ↓E_neg, ↓E_cmp, ↓E_chain, ↓E_andn, ↓E_orn, ↓E_notn, ↓E_ife, ↓E_tupn, ↓E_lstn, ↓E_dnew, ↓E_blt, ↓E_meth, ↓E_mut, ↓E_idx, ↓E_slc, ↓E_isi, ↓T_var, ↓T_cint, ↓T_cstr, ↓T_cbl, ↓T_glob, ↓T_bin, ↓T_cmp, ↓T_neg, ↓T_chain, ↓T_call, ↓T_blt, ↓T_meth, ↓T_idx, ↓T_slc, ↓T_isi, ↓T_comp, ↓T_tupn, ↓T_lstn, ↓T_andn, ↓T_orn, ↓T_notn, ↓T_ife, ↓T_nil, ↓O_nil, ↓O_var, ↓O_cint, ↓O_neg, ↓O_bin, ↓O_blt, ↓O_glob, ↓A_nil, ↓A_cons, ↓B_nil, ↓B_cons, ↓C_nil, ↓C_io, ↓C_im, ↓rd_im, ↓rd_fr, ↓rd_bo, ↓fz_im, ↓fz_fr, ↓fz_bo, ↓rds_nil, ↓rds_cons, ↓ret_im, ↓ret_fr, ↓ret_bo, ↓rdC_nil, ↓rdC_im, ↓rdC_fr, ↓rdC_bo, bos_nil, bos_im, bos_fr, bos_bo, nd_nil, nd_one, ↓putB_nil, ↓putB_im, ↓putB_fr, ↓putB_bo, ↓ex_some, ↓ex_int, ↓post_nx, ↓post_rt, tru_bl, tru_int, tru_lst, tru_tup, tru_non, cmp_eq_int, cmp_ne_int, cmp_lt_int, cmp_le_int, cmp_gt_int, cmp_ge_int, cmp_lt_str, finsE, env0, List.getElem?_cons_zero, List.getElem?_cons_succ, List.length_cons, List.length_nil, List.replicate, List.cons_append, List.nil_append, List.append_nil, reduceIte, Bool.not_true, Bool.not_false, Bool.false_eq_true, if_true, if_false, true_and, and_true, ite_true, ite_false, Option.map_some, List.set_cons_zero, List.set_cons_succ, dIsi, dBlt, dd_min, dd_max, ub, b_min, b_max]
      rw [st_some (s := s8) rfl i7 i8]
      try simp only [↓S_nil, ↓S_cons, ↓S_pass, ↓S_asg, ↓S_asgt, ↓S_par2, ↓S_par3, ↓S_subT, ↓S_expr, ↓S_ret, ↓S_retN, ↓S_ifs, ↓E_var, ↓E_cint, ↓E_cstr, ↓E_cbl, ↓E_cnon, ↓E_glob, ↓E_bin, ↓E_neg, ↓E_cmp, ↓E_chain, ↓E_andn, ↓E_orn, ↓E_notn, ↓E_ife, ↓E_tupn, ↓E_lstn, ↓E_dnew, ↓E_blt, ↓E_meth, ↓E_mut, ↓E_idx, ↓E_slc, ↓E_isi, ↓T_var, ↓T_cint, ↓T_cstr, ↓T_cbl, ↓T_glob, ↓T_bin, ↓T_cmp, ↓T_neg, ↓T_chain, ↓T_call, ↓T_blt, ↓T_meth, ↓T_idx, ↓T_slc, ↓T_isi, ↓T_comp, ↓T_tupn, ↓T_lstn, ↓T_andn, ↓T_orn, ↓T_notn, ↓T_ife, ↓T_nil, ↓O_nil, ↓O_var, ↓O_cint, ↓O_neg, ↓O_bin, ↓O_blt, ↓O_glob, ↓A_nil, ↓A_cons, ↓B_nil, ↓B_cons, ↓C_nil, ↓C_io, ↓C_im, ↓rd_im, ↓rd_fr, ↓rd_bo, ↓fz_im, ↓fz_fr, ↓fz_bo, ↓rds_nil, ↓rds_cons, ↓ret_im, ↓ret_fr, ↓ret_bo, ↓rdC_nil, ↓rdC_im, ↓rdC_fr, ↓rdC_bo, bos_nil, bos_im, bos_fr, bos_bo, nd_nil, nd_one, ↓putB_nil, ↓putB_im, ↓putB_fr, ↓putB_bo, ↓ex_some, ↓ex_int, ↓post_nx, ↓post_rt, tru_bl, tru_int, tru_lst, tru_tup, tru_non, cmp_eq_int, cmp_ne_int, cmp_lt_int, cmp_le_int, cmp_gt_int, cmp_ge_int, cmp_lt_str, finsE, env0, List.getElem?_cons_zero, List.getElem?_cons_succ, List.length_cons, List.length_nil, List.replicate, List.cons_append, List.nil_append, List.append_nil, reduceIte, Bool.not_true, Bool.not_false, Bool.false_eq_true, if_true, if_false, true_and, and_true, ite_true, ite_false, Option.map_some, List.set_cons_zero, List.set_cons_succ, dIsi, stS]
      generalize hnr : (if f < a then f else a) = nr
      generalize hfr : (if f > a then f else a) = fr
      have o : 0 ≤ nr ∧ nr < fr ∧ fr < ys.length := by
        rw [← hnr, ← hfr]
        by_cases h : f < a
        · rw [if_pos h, if_neg (by omega)]; omega
        · rw [if_neg h, if_pos (by omega)]; omega
      obtain ⟨n1, en⟩ := at_str (ys := ys) o.1 (by omega)
      obtain ⟨n2, ef⟩ := at_str (ys := ys) (x := fr) (by omega) o.2.2
      rw [hnx5]
      try simp only [↓S_nil, ↓S_cons, ↓S_pass, ↓S_asg, ↓S_asgt, ↓S_par2, ↓S_par3, ↓S_subT, ↓S_expr, ↓S_ret, ↓S_retN, ↓S_ifs, ↓E_var, ↓E_cint, ↓E_cstr, ↓E_cbl, ↓E_cnon, ↓E_glob, ↓E_bin, ↓E_neg, ↓E_cmp, ↓E_chain, ↓E_andn, ↓E_orn, ↓E_notn, ↓E_ife, ↓E_tupn, ↓E_lstn, ↓E_dnew, ↓E_blt, ↓E_meth, ↓E_mut, ↓E_idx, ↓E_slc, ↓E_isi, ↓T_var, ↓T_cint, ↓T_cstr, ↓T_cbl, ↓T_glob, ↓T_bin, ↓T_cmp, ↓T_neg, ↓T_chain, ↓T_call, ↓T_blt, ↓T_meth, ↓T_idx, ↓T_slc, ↓T_isi, ↓T_comp, ↓T_tupn, ↓T_lstn, ↓T_andn, ↓T_orn, ↓T_notn, ↓T_ife, ↓T_nil, ↓O_nil, ↓O_var, ↓O_cint, ↓O_neg, ↓O_bin, ↓O_blt, ↓O_glob, ↓A_nil, ↓A_cons, ↓B_nil, ↓B_cons, ↓C_nil, ↓C_io, ↓C_im, ↓rd_im, ↓rd_fr, ↓rd_bo, ↓fz_im, ↓fz_fr, ↓fz_bo, ↓rds_nil, ↓rds_cons, ↓ret_im, ↓ret_fr, ↓ret_bo, ↓rdC_nil, ↓rdC_im, ↓rdC_fr, ↓rdC_bo, bos_nil, bos_im, bos_fr, bos_bo, nd_nil, nd_one, ↓putB_nil, ↓putB_im, ↓putB_fr, ↓putB_bo, ↓ex_some, ↓ex_int, ↓post_nx, ↓post_rt, tru_bl, tru_int, tru_lst, tru_tup, tru_non, cmp_eq_int, cmp_ne_int, cmp_lt_int, cmp_le_int, cmp_gt_int, cmp_ge_int, cmp_lt_str, finsE, env0, List.getElem?_cons_zero, List.getElem?_cons_succ, List.length_cons, List.length_nil, List.replicate, List.cons_append, List.nil_append, List.append_nil, reduceIte, Bool.not_true, Bool.not_false, Bool.false_eq_true, if_true, if_false, true_and, and_true, ite_true, ite_false, Option.map_some, List.set_cons_zero, List.set_cons_succ, dIsi, ↓E_call' h3, fi__law_room, isOwnR, isOwn, dIdx, en, ef, tyMm, potD]
      refine ⟨p8, q8, gr, rfl, ok8, fun x p9 q9 x0 ok9 => ?_⟩
      try simp only [potD, putS, ↓S_nil, ↓S_cons, ↓S_pass, ↓S_asg, ↓S_asgt, ↓S_par2, ↓S_par3, ↓S_subT, ↓S_expr, ↓S_ret, ↓S_retN, ↓S_ifs, ↓E_var, ↓E_cint, ↓E_cstr, ↓E_cbl, ↓E_cnon, ↓E_glob, ↓E_bin, ↓E_neg, ↓E_cmp, ↓E_chain, ↓E_andn, ↓E_orn, ↓E_notn, ↓E_ife, ↓E_tupn, ↓E_lstn, ↓E_dnew, ↓E_blt, ↓E_meth, ↓E_mut, ↓E_idx, ↓E_slc, ↓E_isi, ↓T_var, ↓T_cint, ↓T_cstr, ↓T_cbl, ↓T_glob, ↓T_bin, ↓T_cmp, ↓T_neg, ↓T_chain, ↓T_call, ↓T_blt, ↓T_meth, ↓T_idx, ↓T_slc, ↓T_isi, ↓T_comp, ↓T_tupn, ↓T_lstn, ↓T_andn, ↓T_orn, ↓T_notn, ↓T_ife, ↓T_nil, ↓O_nil, ↓O_var, ↓O_cint, ↓O_neg, ↓O_bin, ↓O_blt, ↓O_glob, ↓A_nil, ↓A_cons, ↓B_nil, ↓B_cons, ↓C_nil, ↓C_io, ↓C_im, ↓rd_im, ↓rd_fr, ↓rd_bo, ↓fz_im, ↓fz_fr, ↓fz_bo, ↓rds_nil, ↓rds_cons, ↓ret_im, ↓ret_fr, ↓ret_bo, ↓rdC_nil, ↓rdC_im, ↓rdC_fr, ↓rdC_bo, bos_nil, bos_im, bos_fr, bos_bo, nd_nil, nd_one, ↓putB_nil, ↓putB_im, ↓putB_fr, ↓putB_bo, ↓ex_some, ↓ex_int, ↓post_nx, ↓post_rt, tru_bl, tru_int, tru_lst, tru_tup, tru_non, cmp_eq_int, cmp_ne_int, cmp_lt_int, cmp_le_int, cmp_gt_int, cmp_ge_int, cmp_lt_str, finsE, env0, List.getElem?_cons_zero, List.getElem?_cons_succ, List.length_cons, List.length_nil, List.replicate, List.cons_append, List.nil_append, List.append_nil, reduceIte, Bool.not_true, Bool.not_false, Bool.false_eq_true, if_true, if_false, true_and, and_true, ite_true, ite_false, Option.map_some, List.set_cons_zero, List.set_cons_succ, dIsi, dMm, List.length_map]
      refine ⟨by rw [PySem.sizeLine_eq]; omega, by rw [rl, PySem.sizeLine_eq]; omega, ?_⟩
      have hr : RowOk ys ⟨ts[k], ys[nr.toNat], ys[fr.toNat], x⟩ := ⟨tok _ (List.getElem_mem lt), List.getElem_mem n1, List.getElem_mem n2, List.pairwise_iff_getElem.mp up _ _ n1 n2 (by omega), x0⟩
      refine hk _ ⟨k + 1, rs ++ [⟨ts[k], ys[nr.toNat], ys[fr.toNat], x⟩], p9, q9, .im (.str ts[k]), .im (.int a), .im (.int fr), .im (.int nr), by omega, rfl, ?_, fun z hz => ?_, ok9, ?_, (fun _ h => nomatch h), (fun _ h => nomatch h), (fun _ h => nomatch h), (fun _ h => nomatch h), (fun _ h => nomatch h), (fun _ h => nomatch h), (fun _ h => nomatch h), (fun _ h => nomatch h)⟩
      · rw [List.map_append, hts, List.take_succ_eq_append_getElem lt]; rfl
      · rcases List.mem_append.mp hz with hz | hz
        · exact hok' z hz
        · rw [List.mem_singleton.mp hz]; exact hr
      · rw [List.map_append]; rfl
    · obtain ⟨k, rs, p', q', s5, s6, s7, s8, hkm, er, hts, hok', ok', rfl, _⟩ := hS
      have lt : ts.length ≤ k := by
        have := congrArg List.length er
        simp at this
        omega
      rw [List.take_of_length_le lt] at hts
      rw [hnx]
      try simp only [↓S_nil, ↓S_cons, ↓S_pass, ↓S_asg, ↓S_asgt, ↓S_par2, ↓S_par3, ↓S_subT, ↓S_expr, ↓S_ret, ↓S_retN, ↓S_ifs, ↓E_var, ↓E_cint, ↓E_cstr, ↓E_cbl, ↓E_cnon, ↓E_glob, ↓E_bin, ↓E_neg, ↓E_cmp, ↓E_chain, ↓E_andn, ↓E_orn, ↓E_notn, ↓E_ife, ↓E_tupn, ↓E_lstn, ↓E_dnew, ↓E_blt, ↓E_meth, ↓E_mut, ↓E_idx, ↓E_slc, ↓E_isi, ↓T_var, ↓T_cint, ↓T_cstr, ↓T_cbl, ↓T_glob, ↓T_bin, ↓T_cmp, ↓T_neg, ↓T_chain, ↓T_call, ↓T_blt, ↓T_meth, ↓T_idx, ↓T_slc, ↓T_isi, ↓T_comp, ↓T_tupn, ↓T_lstn, ↓T_andn, ↓T_orn, ↓T_notn, ↓T_ife, ↓T_nil, ↓O_nil, ↓O_var, ↓O_cint, ↓O_neg, ↓O_bin, ↓O_blt, ↓O_glob, ↓A_nil, ↓A_cons, ↓B_nil, ↓B_cons, ↓C_nil, ↓C_io, ↓C_im, ↓rd_im, ↓rd_fr, ↓rd_bo, ↓fz_im, ↓fz_fr, ↓fz_bo, ↓rds_nil, ↓rds_cons, ↓ret_im, ↓ret_fr, ↓ret_bo, ↓rdC_nil, ↓rdC_im, ↓rdC_fr, ↓rdC_bo, bos_nil, bos_im, bos_fr, bos_bo, nd_nil, nd_one, ↓putB_nil, ↓putB_im, ↓putB_fr, ↓putB_bo, ↓ex_some, ↓ex_int, ↓post_nx, ↓post_rt, tru_bl, tru_int, tru_lst, tru_tup, tru_non, cmp_eq_int, cmp_ne_int, cmp_lt_int, cmp_le_int, cmp_gt_int, cmp_ge_int, cmp_lt_str, finsE, env0, List.getElem?_cons_zero, List.getElem?_cons_succ, List.length_cons, List.length_nil, List.replicate, List.cons_append, List.nil_append, List.append_nil, reduceIte, Bool.not_true, Bool.not_false, Bool.false_eq_true, if_true, if_false, true_and, and_true, ite_true, ite_false, Option.map_some, List.set_cons_zero, List.set_cons_succ, dIsi, dBlt, dd_tuple, dd_sorted, un, u_tuple, u_sorted]
      refine .inr (.inr ⟨fun i => decide (i < 3), rs.map rowL, rowD_L rs, fun r hr => ?_, fun rs' hp hs => ?_⟩)
      · obtain ⟨r, _, rfl⟩ := List.mem_map.mp hr
        exact ⟨by simp [rowL], shD_row r⟩
      · obtain ⟨rows, hpr, rfl⟩ := perm_rows hp
        try simp only [↓S_nil, ↓S_cons, ↓S_pass, ↓S_asg, ↓S_asgt, ↓S_par2, ↓S_par3, ↓S_subT, ↓S_expr, ↓S_ret, ↓S_retN, ↓S_ifs, ↓E_var, ↓E_cint, ↓E_cstr, ↓E_cbl, ↓E_cnon, ↓E_glob, ↓E_bin, ↓E_neg, ↓E_cmp, ↓E_chain, ↓E_andn, ↓E_orn, ↓E_notn, ↓E_ife, ↓E_tupn, ↓E_lstn, ↓E_dnew, ↓E_blt, ↓E_meth, ↓E_mut, ↓E_idx, ↓E_slc, ↓E_isi, ↓T_var, ↓T_cint, ↓T_cstr, ↓T_cbl, ↓T_glob, ↓T_bin, ↓T_cmp, ↓T_neg, ↓T_chain, ↓T_call, ↓T_blt, ↓T_meth, ↓T_idx, ↓T_slc, ↓T_isi, ↓T_comp, ↓T_tupn, ↓T_lstn, ↓T_andn, ↓T_orn, ↓T_notn, ↓T_ife, ↓T_nil, ↓O_nil, ↓O_var, ↓O_cint, ↓O_neg, ↓O_bin, ↓O_blt, ↓O_glob, ↓A_nil, ↓A_cons, ↓B_nil, ↓B_cons, ↓C_nil, ↓C_io, ↓C_im, ↓rd_im, ↓rd_fr, ↓rd_bo, ↓fz_im, ↓fz_fr, ↓fz_bo, ↓rds_nil, ↓rds_cons, ↓ret_im, ↓ret_fr, ↓ret_bo, ↓rdC_nil, ↓rdC_im, ↓rdC_fr, ↓rdC_bo, bos_nil, bos_im, bos_fr, bos_bo, nd_nil, nd_one, ↓putB_nil, ↓putB_im, ↓putB_fr, ↓putB_bo, ↓ex_some, ↓ex_int, ↓post_nx, ↓post_rt, tru_bl, tru_int, tru_lst, tru_tup, tru_non, cmp_eq_int, cmp_ne_int, cmp_lt_int, cmp_le_int, cmp_gt_int, cmp_ge_int, cmp_lt_str, finsE, env0, List.getElem?_cons_zero, List.getElem?_cons_succ, List.length_cons, List.length_nil, List.replicate, List.cons_append, List.nil_append, List.append_nil, reduceIte, Bool.not_true, Bool.not_false, Bool.false_eq_true, if_true, if_false, true_and, and_true, ite_true, ite_false, Option.map_some, List.set_cons_zero, List.set_cons_succ, dIsi]
        rw [← rowD_L]
        have tp : (rows.map (·.t)).Perm ts := hts ▸ hpr.map _
        have wok : WebOk ⟨ys, rows⟩ := ⟨by intro e; have e : ys = [] := e; subst e; simp at yl; omega, nm, up, fun r hr => hok' r (hpr.mem_iff.mp hr), rising_rows hs (tp.nodup_iff.mpr tnd), by show ys.length ≤ 1000; omega, by
          have := tp.length_eq
          rw [List.length_map] at this
          show rows.length ≤ 1000
          omega⟩
        refine ⟨by rw [PySem.sizeLine_eq]; omega, ?_⟩
        have w10 : (Web.ps ⟨ys, rows⟩).length ≤ 10 := by show ys.length ≤ 10; omega
        first | exact hq _ _ _ wok w10 ok' | exact ⟨_, rfl, hq _ _ _ wok w10 ok'⟩
  try simp only [↓S_nil, ↓S_cons, ↓S_pass, ↓S_asg, ↓S_asgt, ↓S_par2, ↓S_par3, ↓S_subT, ↓S_expr, ↓S_ret, ↓S_retN, ↓S_ifs, ↓E_var, ↓E_cint, ↓E_cstr, ↓E_cbl, ↓E_cnon, ↓E_glob, ↓E_bin, ↓E_neg, ↓E_cmp, ↓E_chain, ↓E_andn, ↓E_orn, ↓E_notn, ↓E_ife, ↓E_tupn, ↓E_lstn, ↓E_dnew, ↓E_blt, ↓E_meth, ↓E_mut, ↓E_idx, ↓E_slc, ↓E_isi, ↓T_var, ↓T_cint, ↓T_cstr, ↓T_cbl, ↓T_glob, ↓T_bin, ↓T_cmp, ↓T_neg, ↓T_chain, ↓T_call, ↓T_blt, ↓T_meth, ↓T_idx, ↓T_slc, ↓T_isi, ↓T_comp, ↓T_tupn, ↓T_lstn, ↓T_andn, ↓T_orn, ↓T_notn, ↓T_ife, ↓T_nil, ↓O_nil, ↓O_var, ↓O_cint, ↓O_neg, ↓O_bin, ↓O_blt, ↓O_glob, ↓A_nil, ↓A_cons, ↓B_nil, ↓B_cons, ↓C_nil, ↓C_io, ↓C_im, ↓rd_im, ↓rd_fr, ↓rd_bo, ↓fz_im, ↓fz_fr, ↓fz_bo, ↓rds_nil, ↓rds_cons, ↓ret_im, ↓ret_fr, ↓ret_bo, ↓rdC_nil, ↓rdC_im, ↓rdC_fr, ↓rdC_bo, bos_nil, bos_im, bos_fr, bos_bo, nd_nil, nd_one, ↓putB_nil, ↓putB_im, ↓putB_fr, ↓putB_bo, ↓ex_some, ↓ex_int, ↓post_nx, ↓post_rt, tru_bl, tru_int, tru_lst, tru_tup, tru_non, cmp_eq_int, cmp_ne_int, cmp_lt_int, cmp_le_int, cmp_gt_int, cmp_ge_int, cmp_lt_str, finsE, env0, List.getElem?_cons_zero, List.getElem?_cons_succ, List.length_cons, List.length_nil, List.replicate, List.cons_append, List.nil_append, List.append_nil, reduceIte, Bool.not_true, Bool.not_false, Bool.false_eq_true, if_true, if_false, true_and, and_true, ite_true, ite_false, Option.map_some, List.set_cons_zero, List.set_cons_succ, dIsi, dBlt, dd_len, un, u_len, List.length_map]
  by_cases h : (1 : Int) < (ys.length : Int)
  · rw [decide_eq_true h]
    try simp only [↓S_nil, ↓S_cons, ↓S_pass, ↓S_asg, ↓S_asgt, ↓S_par2, ↓S_par3, ↓S_subT, ↓S_expr, ↓S_ret, ↓S_retN, ↓S_ifs, ↓E_var, ↓E_cint, ↓E_cstr, ↓E_cbl, ↓E_cnon, ↓E_glob, ↓E_bin, ↓E_neg, ↓E_cmp, ↓E_chain, ↓E_andn, ↓E_orn, ↓E_notn, ↓E_ife, ↓E_tupn, ↓E_lstn, ↓E_dnew, ↓E_blt, ↓E_meth, ↓E_mut, ↓E_idx, ↓E_slc, ↓E_isi, ↓T_var, ↓T_cint, ↓T_cstr, ↓T_cbl, ↓T_glob, ↓T_bin, ↓T_cmp, ↓T_neg, ↓T_chain, ↓T_call, ↓T_blt, ↓T_meth, ↓T_idx, ↓T_slc, ↓T_isi, ↓T_comp, ↓T_tupn, ↓T_lstn, ↓T_andn, ↓T_orn, ↓T_notn, ↓T_ife, ↓T_nil, ↓O_nil, ↓O_var, ↓O_cint, ↓O_neg, ↓O_bin, ↓O_blt, ↓O_glob, ↓A_nil, ↓A_cons, ↓B_nil, ↓B_cons, ↓C_nil, ↓C_io, ↓C_im, ↓rd_im, ↓rd_fr, ↓rd_bo, ↓fz_im, ↓fz_fr, ↓fz_bo, ↓rds_nil, ↓rds_cons, ↓ret_im, ↓ret_fr, ↓ret_bo, ↓rdC_nil, ↓rdC_im, ↓rdC_fr, ↓rdC_bo, bos_nil, bos_im, bos_fr, bos_bo, nd_nil, nd_one, ↓putB_nil, ↓putB_im, ↓putB_fr, ↓putB_bo, ↓ex_some, ↓ex_int, ↓post_nx, ↓post_rt, tru_bl, tru_int, tru_lst, tru_tup, tru_non, cmp_eq_int, cmp_ne_int, cmp_lt_int, cmp_le_int, cmp_gt_int, cmp_ge_int, cmp_lt_str, finsE, env0, List.getElem?_cons_zero, List.getElem?_cons_succ, List.length_cons, List.length_nil, List.replicate, List.cons_append, List.nil_append, List.append_nil, reduceIte, Bool.not_true, Bool.not_false, Bool.false_eq_true, if_true, if_false, true_and, and_true, ite_true, ite_false, Option.map_some, List.set_cons_zero, List.set_cons_succ, dIsi, ↓E_call' h1, fi__law_draw, isOwnR, isOwn, stS]
    refine ⟨by rw [PySem.sizeLine_eq]; omega, p4, q4, 3, by simp [potD], ok4, by decide, by decide, fun x p5 q5 x0 x1 ok5 => ?_⟩
    try simp only [potD, putS, ↓S_nil, ↓S_cons, ↓S_pass, ↓S_asg, ↓S_asgt, ↓S_par2, ↓S_par3, ↓S_subT, ↓S_expr, ↓S_ret, ↓S_retN, ↓S_ifs, ↓E_var, ↓E_cint, ↓E_cstr, ↓E_cbl, ↓E_cnon, ↓E_glob, ↓E_bin, ↓E_neg, ↓E_cmp, ↓E_chain, ↓E_andn, ↓E_orn, ↓E_notn, ↓E_ife, ↓E_tupn, ↓E_lstn, ↓E_dnew, ↓E_blt, ↓E_meth, ↓E_mut, ↓E_idx, ↓E_slc, ↓E_isi, ↓T_var, ↓T_cint, ↓T_cstr, ↓T_cbl, ↓T_glob, ↓T_bin, ↓T_cmp, ↓T_neg, ↓T_chain, ↓T_call, ↓T_blt, ↓T_meth, ↓T_idx, ↓T_slc, ↓T_isi, ↓T_comp, ↓T_tupn, ↓T_lstn, ↓T_andn, ↓T_orn, ↓T_notn, ↓T_ife, ↓T_nil, ↓O_nil, ↓O_var, ↓O_cint, ↓O_neg, ↓O_bin, ↓O_blt, ↓O_glob, ↓A_nil, ↓A_cons, ↓B_nil, ↓B_cons, ↓C_nil, ↓C_io, ↓C_im, ↓rd_im, ↓rd_fr, ↓rd_bo, ↓fz_im, ↓fz_fr, ↓fz_bo, ↓rds_nil, ↓rds_cons, ↓ret_im, ↓ret_fr, ↓ret_bo, ↓rdC_nil, ↓rdC_im, ↓rdC_fr, ↓rdC_bo, bos_nil, bos_im, bos_fr, bos_bo, nd_nil, nd_one, ↓putB_nil, ↓putB_im, ↓putB_fr, ↓putB_bo, ↓ex_some, ↓ex_int, ↓post_nx, ↓post_rt, tru_bl, tru_int, tru_lst, tru_tup, tru_non, cmp_eq_int, cmp_ne_int, cmp_lt_int, cmp_le_int, cmp_gt_int, cmp_ge_int, cmp_lt_str, finsE, env0, List.getElem?_cons_zero, List.getElem?_cons_succ, List.length_cons, List.length_nil, List.replicate, List.cons_append, List.nil_append, List.append_nil, reduceIte, Bool.not_true, Bool.not_false, Bool.false_eq_true, if_true, if_false, true_and, and_true, ite_true, ite_false, Option.map_some, List.set_cons_zero, List.set_cons_succ, dIsi, dIdx]
    obtain ⟨m, hm, em⟩ := at_some (l := [7, 13, 25]) x0 (by simpa using x1)
    have em : L2.atI [D.int 7, .int 13, .int 25] x = some (.int m) := em
    have hm : 1 ≤ m ∧ m ≤ 25 := by
      simp only [List.mem_cons, List.not_mem_nil, or_false] at hm
      omega
    simp only [em, ex_some]
    refine ⟨p5, q5, m, rfl, ok5, hm.1, by omega, fun y p6 q6 y0 y1 ok6 => ?_⟩
    try simp only [potD, putS, ↓S_nil, ↓S_cons, ↓S_pass, ↓S_asg, ↓S_asgt, ↓S_par2, ↓S_par3, ↓S_subT, ↓S_expr, ↓S_ret, ↓S_retN, ↓S_ifs, ↓E_var, ↓E_cint, ↓E_cstr, ↓E_cbl, ↓E_cnon, ↓E_glob, ↓E_bin, ↓E_neg, ↓E_cmp, ↓E_chain, ↓E_andn, ↓E_orn, ↓E_notn, ↓E_ife, ↓E_tupn, ↓E_lstn, ↓E_dnew, ↓E_blt, ↓E_meth, ↓E_mut, ↓E_idx, ↓E_slc, ↓E_isi, ↓T_var, ↓T_cint, ↓T_cstr, ↓T_cbl, ↓T_glob, ↓T_bin, ↓T_cmp, ↓T_neg, ↓T_chain, ↓T_call, ↓T_blt, ↓T_meth, ↓T_idx, ↓T_slc, ↓T_isi, ↓T_comp, ↓T_tupn, ↓T_lstn, ↓T_andn, ↓T_orn, ↓T_notn, ↓T_ife, ↓T_nil, ↓O_nil, ↓O_var, ↓O_cint, ↓O_neg, ↓O_bin, ↓O_blt, ↓O_glob, ↓A_nil, ↓A_cons, ↓B_nil, ↓B_cons, ↓C_nil, ↓C_io, ↓C_im, ↓rd_im, ↓rd_fr, ↓rd_bo, ↓fz_im, ↓fz_fr, ↓fz_bo, ↓rds_nil, ↓rds_cons, ↓ret_im, ↓ret_fr, ↓ret_bo, ↓rdC_nil, ↓rdC_im, ↓rdC_fr, ↓rdC_bo, bos_nil, bos_im, bos_fr, bos_bo, nd_nil, nd_one, ↓putB_nil, ↓putB_im, ↓putB_fr, ↓putB_bo, ↓ex_some, ↓ex_int, ↓post_nx, ↓post_rt, tru_bl, tru_int, tru_lst, tru_tup, tru_non, cmp_eq_int, cmp_ne_int, cmp_lt_int, cmp_le_int, cmp_gt_int, cmp_ge_int, cmp_lt_str, finsE, env0, List.getElem?_cons_zero, List.getElem?_cons_succ, List.length_cons, List.length_nil, List.replicate, List.cons_append, List.nil_append, List.append_nil, reduceIte, Bool.not_true, Bool.not_false, Bool.false_eq_true, if_true, if_false, true_and, and_true, ite_true, ite_false, Option.map_some, List.set_cons_zero, List.set_cons_succ, dIsi, stS]
    obtain ⟨Y2, rfl⟩ := Int.eq_ofNat_of_zero_le y0
    exact key Y2 p6 q6 (by omega) (.inr (by omega)) ok6
  · rw [decide_eq_false h]
    try simp only [↓S_nil, ↓S_cons, ↓S_pass, ↓S_asg, ↓S_asgt, ↓S_par2, ↓S_par3, ↓S_subT, ↓S_expr, ↓S_ret, ↓S_retN, ↓S_ifs, ↓E_var, ↓E_cint, ↓E_cstr, ↓E_cbl, ↓E_cnon, ↓E_glob, ↓E_bin, ↓E_neg, ↓E_cmp, ↓E_chain, ↓E_andn, ↓E_orn, ↓E_notn, ↓E_ife, ↓E_tupn, ↓E_lstn, ↓E_dnew, ↓E_blt, ↓E_meth, ↓E_mut, ↓E_idx, ↓E_slc, ↓E_isi, ↓T_var, ↓T_cint, ↓T_cstr, ↓T_cbl, ↓T_glob, ↓T_bin, ↓T_cmp, ↓T_neg, ↓T_chain, ↓T_call, ↓T_blt, ↓T_meth, ↓T_idx, ↓T_slc, ↓T_isi, ↓T_comp, ↓T_tupn, ↓T_lstn, ↓T_andn, ↓T_orn, ↓T_notn, ↓T_ife, ↓T_nil, ↓O_nil, ↓O_var, ↓O_cint, ↓O_neg, ↓O_bin, ↓O_blt, ↓O_glob, ↓A_nil, ↓A_cons, ↓B_nil, ↓B_cons, ↓C_nil, ↓C_io, ↓C_im, ↓rd_im, ↓rd_fr, ↓rd_bo, ↓fz_im, ↓fz_fr, ↓fz_bo, ↓rds_nil, ↓rds_cons, ↓ret_im, ↓ret_fr, ↓ret_bo, ↓rdC_nil, ↓rdC_im, ↓rdC_fr, ↓rdC_bo, bos_nil, bos_im, bos_fr, bos_bo, nd_nil, nd_one, ↓putB_nil, ↓putB_im, ↓putB_fr, ↓putB_bo, ↓ex_some, ↓ex_int, ↓post_nx, ↓post_rt, tru_bl, tru_int, tru_lst, tru_tup, tru_non, cmp_eq_int, cmp_ne_int, cmp_lt_int, cmp_le_int, cmp_gt_int, cmp_ge_int, cmp_lt_str, finsE, env0, List.getElem?_cons_zero, List.getElem?_cons_succ, List.length_cons, List.length_nil, List.replicate, List.cons_append, List.nil_append, List.append_nil, reduceIte, Bool.not_true, Bool.not_false, Bool.false_eq_true, if_true, if_false, true_and, and_true, ite_true, ite_false, Option.map_some, List.set_cons_zero, List.set_cons_succ, dIsi, stS]
    exact key 0 p4 q4 (by omega) (.inl rfl) ok4
end LW
end
section
namespace LW
open PySem TG
theorem nodup_le {l : List Str} : ∀ {m : List Str}, l.Nodup → (∀ x ∈ l, x ∈ m) → l.length ≤ m.length := by
  induction l with
  | nil => intro m _ _; exact Nat.zero_le _
  | cons a l ih =>
    intro m nd h
    obtain ⟨n1, n2⟩ := List.nodup_cons.mp nd
    have ha := h a List.mem_cons_self
    have := ih (m := m.erase a) n2 fun x hx => (List.mem_erase_of_ne fun e => n1 (by rw [← e]; exact hx)).mpr (h x (List.mem_cons_of_mem _ hx))
    rw [List.length_erase_of_mem ha] at this
    have := List.length_pos_of_mem ha
    rw [List.length_cons]
    omega
theorem nodup_all {l m : List Str} (nd : l.Nodup) (h : ∀ x ∈ l, x ∈ m) (e : m.length ≤ l.length) : ∀ x ∈ m, x ∈ l := by
  intro x hx
  refine Classical.byContradiction fun n => ?_
  have := nodup_le (l := x :: l) (m := m) (List.nodup_cons.mpr ⟨n, nd⟩) fun y hy => by
    rcases List.mem_cons.mp hy with rfl | hy
    · exact hx
    · exact h y hy
  rw [List.length_cons] at this
  omega
theorem sLt_irr {x y : Str} (h : sLt x y) : x ≠ y := fun e => List.lt_irrefl _ (e ▸ h)
theorem Rising.nodup {l : List Str} (h : Rising l) : l.Nodup := List.Pairwise.imp (fun h => sLt_irr h) h
theorem rising_eq : ∀ {l m : List Str}, Rising l → Rising m → (∀ x, x ∈ l ↔ x ∈ m) → l = m
  | [], [], _, _, _ => rfl
  | [], y :: m, _, _, h => absurd ((h y).mpr List.mem_cons_self) List.not_mem_nil
  | x :: l, [], _, _, h => absurd ((h x).mp List.mem_cons_self) List.not_mem_nil
  | x :: l, y :: m, hl, hm, h => by
    obtain ⟨l1, l2⟩ := List.pairwise_cons.mp hl
    obtain ⟨m1, m2⟩ := List.pairwise_cons.mp hm
    have e : x = y := by
      rcases List.mem_cons.mp ((h x).mp List.mem_cons_self) with e | hx
      · exact e
      rcases List.mem_cons.mp ((h y).mpr List.mem_cons_self) with e | hy
      · exact e.symm
      exact absurd (sLt_trans (m1 x hx) (l1 y hy)) fun q => sLt_irr q rfl
    subst e
    congr 1
    refine rising_eq l2 m2 fun z => ⟨fun hz => ?_, fun hz => ?_⟩
    · rcases List.mem_cons.mp ((h z).mp (List.mem_cons_of_mem _ hz)) with e | hz'
      · subst e; exact absurd (l1 _ hz) fun q => sLt_irr q rfl
      · exact hz'
    · rcases List.mem_cons.mp ((h z).mpr (List.mem_cons_of_mem _ hz)) with e | hz'
      · subst e; exact absurd (m1 _ hz) fun q => sLt_irr q rfl
      · exact hz'
def fi__law_lots : FI := { io := [false], sp := fun ds Q _ => ∃ w, ds = [webD w] ∧ WebOk w ∧ 2 ≤ w.ps.length ∧ w.ps.length ≤ 10 ∧ ∀ ls : List (List Str), ls ≠ [] → ls.length ≤ 1024 → (∀ l ∈ ls, LotOk w l) → Q (.fr (.lst (ls.map lotD))) [] }
def pushS (x : Str) : D → Option D
  | .tup ds => some (.tup (ds ++ [.str x]))
  | _ => none
def okLot (n : Nat) : D → Option D
  | .tup ds => if 0 < ds.length ∧ ds.length < n then some (.tup ds) else none
  | _ => none
theorem fm_push (x : Str) : ∀ ls : List (List Str), (ls.map lotD).filterMap (pushS x) = (ls.map fun l => l ++ [x]).map lotD
  | [] => rfl
  | l :: ls => by
    rw [List.map_cons, List.filterMap_cons, show pushS x (lotD l) = some (lotD (l ++ [x])) from by simp [lotD, pushS]]
    show _ :: _ = _
    rw [fm_push x ls]; rfl
theorem fm_ok (n : Nat) : ∀ ls : List (List Str), (ls.map lotD).filterMap (okLot n) = (ls.filter fun l => decide (0 < l.length ∧ l.length < n)).map lotD
  | [] => rfl
  | l :: ls => by
    rw [List.map_cons, List.filterMap_cons, List.filter_cons]
    have ih := fm_ok n ls
    by_cases h : 0 < l.length ∧ l.length < n
    · rw [show okLot n (lotD l) = some (lotD l) from if_pos (by simpa using h), decide_eq_true h, ih]; rfl
    · rw [show okLot n (lotD l) = none from if_neg (by simpa using h), decide_eq_false h, ih]; rfl
theorem k__law_lots (Γ : Ga) : Keeps Γ 4 sm__law_lots fi__law_lots := by
  rintro ds Q E ⟨w, rfl, ok, h2, h10, hq⟩
  refine ⟨rfl, by decide, ?_⟩
  have sz : 16777216 ≤ sizeLine := by rw [PySem.sizeLine_eq]; omega
  unfold sm__law_lots
  refine S_seq fun nx hnx => ?_
  try simp only [fi__law_lots, ↓S_nil, ↓S_cons, ↓S_pass, ↓S_asg, ↓S_asgt, ↓S_par2, ↓S_par3, ↓S_subT, ↓S_expr, ↓S_ret, ↓S_retN, ↓S_ifs, ↓E_var, ↓E_cint, ↓E_cstr, ↓E_cbl, ↓E_cnon, ↓E_glob, ↓E_bin, ↓E_neg, ↓E_cmp, ↓E_chain, ↓E_andn, ↓E_orn, ↓E_notn, ↓E_ife, ↓E_tupn, ↓E_lstn, ↓E_dnew, ↓E_blt, ↓E_meth, ↓E_mut, ↓E_idx, ↓E_slc, ↓E_isi, ↓T_var, ↓T_cint, ↓T_cstr, ↓T_cbl, ↓T_glob, ↓T_bin, ↓T_cmp, ↓T_neg, ↓T_chain, ↓T_call, ↓T_blt, ↓T_meth, ↓T_idx, ↓T_slc, ↓T_isi, ↓T_comp, ↓T_tupn, ↓T_lstn, ↓T_andn, ↓T_orn, ↓T_notn, ↓T_ife, ↓T_nil, ↓O_nil, ↓O_var, ↓O_cint, ↓O_neg, ↓O_bin, ↓O_blt, ↓O_glob, ↓A_nil, ↓A_cons, ↓B_nil, ↓B_cons, ↓C_nil, ↓C_io, ↓C_im, ↓rd_im, ↓rd_fr, ↓rd_bo, ↓fz_im, ↓fz_fr, ↓fz_bo, ↓rds_nil, ↓rds_cons, ↓ret_im, ↓ret_fr, ↓ret_bo, ↓rdC_nil, ↓rdC_im, ↓rdC_fr, ↓rdC_bo, bos_nil, bos_im, bos_fr, bos_bo, nd_nil, nd_one, ↓putB_nil, ↓putB_im, ↓putB_fr, ↓putB_bo, ↓ex_some, ↓ex_int, ↓post_nx, ↓post_rt, tru_bl, tru_int, tru_lst, tru_tup, tru_non, cmp_eq_int, cmp_ne_int, cmp_lt_int, cmp_le_int, cmp_gt_int, cmp_ge_int, cmp_lt_str, finsE, env0, List.getElem?_cons_zero, List.getElem?_cons_succ, List.length_cons, List.length_nil, List.replicate, List.cons_append, List.nil_append, List.append_nil, reduceIte, Bool.not_true, Bool.not_false, Bool.false_eq_true, if_true, if_false, true_and, and_true, ite_true, ite_false, Option.map_some, List.set_cons_zero, List.set_cons_succ, dIsi, stS]
  refine ⟨Nat.zero_le _, by omega, ?_⟩
  rw [hnx]
  refine S_seq fun nx hnx => ?_
  try simp only [webD, ↓S_for, ↓I_idx, ↓S_nil, ↓S_cons, ↓S_pass, ↓S_asg, ↓S_asgt, ↓S_par2, ↓S_par3, ↓S_subT, ↓S_expr, ↓S_ret, ↓S_retN, ↓S_ifs, ↓E_var, ↓E_cint, ↓E_cstr, ↓E_cbl, ↓E_cnon, ↓E_glob, ↓E_bin, ↓E_neg, ↓E_cmp, ↓E_chain, ↓E_andn, ↓E_orn, ↓E_notn, ↓E_ife, ↓E_tupn, ↓E_lstn, ↓E_dnew, ↓E_blt, ↓E_meth, ↓E_mut, ↓E_idx, ↓E_slc, ↓E_isi, ↓T_var, ↓T_cint, ↓T_cstr, ↓T_cbl, ↓T_glob, ↓T_bin, ↓T_cmp, ↓T_neg, ↓T_chain, ↓T_call, ↓T_blt, ↓T_meth, ↓T_idx, ↓T_slc, ↓T_isi, ↓T_comp, ↓T_tupn, ↓T_lstn, ↓T_andn, ↓T_orn, ↓T_notn, ↓T_ife, ↓T_nil, ↓O_nil, ↓O_var, ↓O_cint, ↓O_neg, ↓O_bin, ↓O_blt, ↓O_glob, ↓A_nil, ↓A_cons, ↓B_nil, ↓B_cons, ↓C_nil, ↓C_io, ↓C_im, ↓rd_im, ↓rd_fr, ↓rd_bo, ↓fz_im, ↓fz_fr, ↓fz_bo, ↓rds_nil, ↓rds_cons, ↓ret_im, ↓ret_fr, ↓ret_bo, ↓rdC_nil, ↓rdC_im, ↓rdC_fr, ↓rdC_bo, bos_nil, bos_im, bos_fr, bos_bo, nd_nil, nd_one, ↓putB_nil, ↓putB_im, ↓putB_fr, ↓putB_bo, ↓ex_some, ↓ex_int, ↓post_nx, ↓post_rt, tru_bl, tru_int, tru_lst, tru_tup, tru_non, cmp_eq_int, cmp_ne_int, cmp_lt_int, cmp_le_int, cmp_gt_int, cmp_ge_int, cmp_lt_str, finsE, env0, List.getElem?_cons_zero, List.getElem?_cons_succ, List.length_cons, List.length_nil, List.replicate, List.cons_append, List.nil_append, List.append_nil, reduceIte, Bool.not_true, Bool.not_false, Bool.false_eq_true, if_true, if_false, true_and, and_true, ite_true, ite_false, Option.map_some, List.set_cons_zero, List.set_cons_succ, dIsi, dIdx, at0, ↓srcR_im, itD, frzL]
  let S : List D → TG.Env → Prop := fun r e => ∃ (k : Nat) (ls : List (List Str)) (s2 : Sl), k ≤ w.ps.length ∧ r = (w.ps.drop k).map .str ∧ ls.length = 2 ^ k ∧ (∀ l ∈ ls, l.Sublist (w.ps.take k)) ∧ [] ∈ ls ∧ (0 < k → w.ps.take 1 ∈ ls) ∧
    e = [.im (webD w), .ow (.lst (ls.map lotD)), s2, .un] ∧ (∀ d, s2 ≠ .io d) ∧ (∀ d, s2 ≠ .lk d)
  refine forW_state S (fun r e _ i h => nomatch h) (fun d r e nx2 hS hk => ?_) ⟨0, [[]], .un, Nat.zero_le _, rfl, rfl, (fun l hl => by rw [List.mem_singleton.mp hl]; exact List.nil_sublist _), List.mem_singleton.mpr rfl, (fun h => absurd h (Nat.lt_irrefl _)), rfl, (fun _ h => nomatch h), (fun _ h => nomatch h)⟩ fun e hS => ?_
  · obtain ⟨k, ls, s2, hkl, er, hls, hsub, hnil, hone, rfl, i1, i2⟩ := hS
    have lt : k < w.ps.length := by
      have := congrArg List.length er
      simp at this
      omega
    rw [List.drop_eq_getElem_cons lt, List.map_cons] at er
    obtain ⟨rfl, rfl⟩ := List.cons.inj er
    have pw : 2 ^ k ≤ 512 := Nat.le_trans (Nat.pow_le_pow_right (by decide) (show k ≤ 9 by omega)) (by decide)
    simp only [fturn, bindT]
    rw [st_some (s := s2) rfl i1 i2]
    try simp only [↓S_nil, ↓S_cons, ↓S_pass, ↓S_asg, ↓S_asgt, ↓S_par2, ↓S_par3, ↓S_subT, ↓S_expr, ↓S_ret, ↓S_retN, ↓S_ifs, ↓E_var, ↓E_cint, ↓E_cstr, ↓E_cbl, ↓E_cnon, ↓E_glob, ↓E_bin, ↓E_neg, ↓E_cmp, ↓E_chain, ↓E_andn, ↓E_orn, ↓E_notn, ↓E_ife, ↓E_tupn, ↓E_lstn, ↓E_dnew, ↓E_blt, ↓E_meth, ↓E_mut, ↓E_idx, ↓E_slc, ↓E_isi, ↓T_var, ↓T_cint, ↓T_cstr, ↓T_cbl, ↓T_glob, ↓T_bin, ↓T_cmp, ↓T_neg, ↓T_chain, ↓T_call, ↓T_blt, ↓T_meth, ↓T_idx, ↓T_slc, ↓T_isi, ↓T_comp, ↓T_tupn, ↓T_lstn, ↓T_andn, ↓T_orn, ↓T_notn, ↓T_ife, ↓T_nil, ↓O_nil, ↓O_var, ↓O_cint, ↓O_neg, ↓O_bin, ↓O_blt, ↓O_glob, ↓A_nil, ↓A_cons, ↓B_nil, ↓B_cons, ↓C_nil, ↓C_io, ↓C_im, ↓rd_im, ↓rd_fr, ↓rd_bo, ↓fz_im, ↓fz_fr, ↓fz_bo, ↓rds_nil, ↓rds_cons, ↓ret_im, ↓ret_fr, ↓ret_bo, ↓rdC_nil, ↓rdC_im, ↓rdC_fr, ↓rdC_bo, bos_nil, bos_im, bos_fr, bos_bo, nd_nil, nd_one, ↓putB_nil, ↓putB_im, ↓putB_fr, ↓putB_bo, ↓ex_some, ↓ex_int, ↓post_nx, ↓post_rt, tru_bl, tru_int, tru_lst, tru_tup, tru_non, cmp_eq_int, cmp_ne_int, cmp_lt_int, cmp_le_int, cmp_gt_int, cmp_ge_int, cmp_lt_str, finsE, env0, List.getElem?_cons_zero, List.getElem?_cons_succ, List.length_cons, List.length_nil, List.replicate, List.cons_append, List.nil_append, List.append_nil, reduceIte, Bool.not_true, Bool.not_false, Bool.false_eq_true, if_true, if_false, true_and, and_true, ite_true, ite_false, Option.map_some, List.set_cons_zero, List.set_cons_succ, dIsi, ↓E_comp, ↓I_var, ↓srcR_bo, itD]
    refine ⟨by rw [List.length_map]; omega, compW_map (pushS w.ps[k]) (fun e => ∃ s, e = [.im (webD w), .ow (.lst (ls.map lotD)), .im (.str w.ps[k]), s]) (fun e ⟨s, e'⟩ => ?_) (fun d hd e k2 ⟨s, e'⟩ hk2 => ?_) ⟨_, rfl⟩ fun e' ⟨s, ee⟩ => ?_⟩
    · subst e'; intro i hi; rw [List.mem_singleton.mp hi]; rfl
    · subst e'
      obtain ⟨l, hl, rfl⟩ := List.mem_map.mp hd
      have l10 : l.length ≤ 10 := by
        have := (hsub l hl).length_le
        rw [List.length_take] at this
        omega
      try simp only [cturn, bindT, wipeE, stS, lotD, ↓S_nil, ↓S_cons, ↓S_pass, ↓S_asg, ↓S_asgt, ↓S_par2, ↓S_par3, ↓S_subT, ↓S_expr, ↓S_ret, ↓S_retN, ↓S_ifs, ↓E_var, ↓E_cint, ↓E_cstr, ↓E_cbl, ↓E_cnon, ↓E_glob, ↓E_bin, ↓E_neg, ↓E_cmp, ↓E_chain, ↓E_andn, ↓E_orn, ↓E_notn, ↓E_ife, ↓E_tupn, ↓E_lstn, ↓E_dnew, ↓E_blt, ↓E_meth, ↓E_mut, ↓E_idx, ↓E_slc, ↓E_isi, ↓T_var, ↓T_cint, ↓T_cstr, ↓T_cbl, ↓T_glob, ↓T_bin, ↓T_cmp, ↓T_neg, ↓T_chain, ↓T_call, ↓T_blt, ↓T_meth, ↓T_idx, ↓T_slc, ↓T_isi, ↓T_comp, ↓T_tupn, ↓T_lstn, ↓T_andn, ↓T_orn, ↓T_notn, ↓T_ife, ↓T_nil, ↓O_nil, ↓O_var, ↓O_cint, ↓O_neg, ↓O_bin, ↓O_blt, ↓O_glob, ↓A_nil, ↓A_cons, ↓B_nil, ↓B_cons, ↓C_nil, ↓C_io, ↓C_im, ↓rd_im, ↓rd_fr, ↓rd_bo, ↓fz_im, ↓fz_fr, ↓fz_bo, ↓rds_nil, ↓rds_cons, ↓ret_im, ↓ret_fr, ↓ret_bo, ↓rdC_nil, ↓rdC_im, ↓rdC_fr, ↓rdC_bo, bos_nil, bos_im, bos_fr, bos_bo, nd_nil, nd_one, ↓putB_nil, ↓putB_im, ↓putB_fr, ↓putB_bo, ↓ex_some, ↓ex_int, ↓post_nx, ↓post_rt, tru_bl, tru_int, tru_lst, tru_tup, tru_non, cmp_eq_int, cmp_ne_int, cmp_lt_int, cmp_le_int, cmp_gt_int, cmp_ge_int, cmp_lt_str, finsE, env0, List.getElem?_cons_zero, List.getElem?_cons_succ, List.length_cons, List.length_nil, List.replicate, List.cons_append, List.nil_append, List.append_nil, reduceIte, Bool.not_true, Bool.not_false, Bool.false_eq_true, if_true, if_false, true_and, and_true, ite_true, ite_false, Option.map_some, List.set_cons_zero, List.set_cons_succ, dIsi, dBin]
      refine ⟨by omega, by rw [List.length_map]; show l.length + 1 ≤ _; omega, ?_⟩
      exact hk2 _ ⟨_, rfl⟩
    · subst ee
      try simp only [wipeE, ↓S_nil, ↓S_cons, ↓S_pass, ↓S_asg, ↓S_asgt, ↓S_par2, ↓S_par3, ↓S_subT, ↓S_expr, ↓S_ret, ↓S_retN, ↓S_ifs, ↓E_var, ↓E_cint, ↓E_cstr, ↓E_cbl, ↓E_cnon, ↓E_glob, ↓E_bin, ↓E_neg, ↓E_cmp, ↓E_chain, ↓E_andn, ↓E_orn, ↓E_notn, ↓E_ife, ↓E_tupn, ↓E_lstn, ↓E_dnew, ↓E_blt, ↓E_meth, ↓E_mut, ↓E_idx, ↓E_slc, ↓E_isi, ↓T_var, ↓T_cint, ↓T_cstr, ↓T_cbl, ↓T_glob, ↓T_bin, ↓T_cmp, ↓T_neg, ↓T_chain, ↓T_call, ↓T_blt, ↓T_meth, ↓T_idx, ↓T_slc, ↓T_isi, ↓T_comp, ↓T_tupn, ↓T_lstn, ↓T_andn, ↓T_orn, ↓T_notn, ↓T_ife, ↓T_nil, ↓O_nil, ↓O_var, ↓O_cint, ↓O_neg, ↓O_bin, ↓O_blt, ↓O_glob, ↓A_nil, ↓A_cons, ↓B_nil, ↓B_cons, ↓C_nil, ↓C_io, ↓C_im, ↓rd_im, ↓rd_fr, ↓rd_bo, ↓fz_im, ↓fz_fr, ↓fz_bo, ↓rds_nil, ↓rds_cons, ↓ret_im, ↓ret_fr, ↓ret_bo, ↓rdC_nil, ↓rdC_im, ↓rdC_fr, ↓rdC_bo, bos_nil, bos_im, bos_fr, bos_bo, nd_nil, nd_one, ↓putB_nil, ↓putB_im, ↓putB_fr, ↓putB_bo, ↓ex_some, ↓ex_int, ↓post_nx, ↓post_rt, tru_bl, tru_int, tru_lst, tru_tup, tru_non, cmp_eq_int, cmp_ne_int, cmp_lt_int, cmp_le_int, cmp_gt_int, cmp_ge_int, cmp_lt_str, finsE, env0, List.getElem?_cons_zero, List.getElem?_cons_succ, List.length_cons, List.length_nil, List.replicate, List.cons_append, List.nil_append, List.append_nil, reduceIte, Bool.not_true, Bool.not_false, Bool.false_eq_true, if_true, if_false, true_and, and_true, ite_true, ite_false, Option.map_some, List.set_cons_zero, List.set_cons_succ, dIsi, dBin, stS]
      rw [fm_push, ← List.map_append]
      refine ⟨by simp; omega, ?_⟩
      refine hk _ ⟨k + 1, ls ++ ls.map fun l => l ++ [w.ps[k]], _, by omega, rfl, by rw [List.length_append, List.length_map, hls, Nat.pow_succ]; omega, fun l hl => ?_, List.mem_append.mpr (.inl hnil), fun _ => ?_, rfl, (fun _ h => nomatch h), (fun _ h => nomatch h)⟩
      · rw [List.take_succ_eq_append_getElem lt]
        rcases List.mem_append.mp hl with hl | hl
        · exact (hsub l hl).trans (List.sublist_append_left _ _)
        · obtain ⟨l', hl', rfl⟩ := List.mem_map.mp hl
          exact (hsub l' hl').append (List.Sublist.refl _)
      · by_cases h : 0 < k
        · exact List.mem_append.mpr (.inl (hone h))
        · have : k = 0 := by omega
          subst this
          refine List.mem_append.mpr (.inr (List.mem_map.mpr ⟨[], hnil, ?_⟩))
          rw [List.take_succ_eq_append_getElem lt]; rfl
  · obtain ⟨k, ls, s2, hkl, er, hls, hsub, hnil, hone, rfl, _⟩ := hS
    have hk : k = w.ps.length := by
      have := congrArg List.length er
      simp at this
      omega
    subst hk
    rw [List.take_of_length_le (Nat.le_refl _)] at hsub
    have pw : 2 ^ w.ps.length ≤ 1024 := Nat.le_trans (Nat.pow_le_pow_right (by decide) h10) (by decide)
    rw [hnx]
    try simp only [↓S_nil, ↓S_cons, ↓S_pass, ↓S_asg, ↓S_asgt, ↓S_par2, ↓S_par3, ↓S_subT, ↓S_expr, ↓S_ret, ↓S_retN, ↓S_ifs, ↓E_var, ↓E_cint, ↓E_cstr, ↓E_cbl, ↓E_cnon, ↓E_glob, ↓E_bin, ↓E_neg, ↓E_cmp, ↓E_chain, ↓E_andn, ↓E_orn, ↓E_notn, ↓E_ife, ↓E_tupn, ↓E_lstn, ↓E_dnew, ↓E_blt, ↓E_meth, ↓E_mut, ↓E_idx, ↓E_slc, ↓E_isi, ↓T_var, ↓T_cint, ↓T_cstr, ↓T_cbl, ↓T_glob, ↓T_bin, ↓T_cmp, ↓T_neg, ↓T_chain, ↓T_call, ↓T_blt, ↓T_meth, ↓T_idx, ↓T_slc, ↓T_isi, ↓T_comp, ↓T_tupn, ↓T_lstn, ↓T_andn, ↓T_orn, ↓T_notn, ↓T_ife, ↓T_nil, ↓O_nil, ↓O_var, ↓O_cint, ↓O_neg, ↓O_bin, ↓O_blt, ↓O_glob, ↓A_nil, ↓A_cons, ↓B_nil, ↓B_cons, ↓C_nil, ↓C_io, ↓C_im, ↓rd_im, ↓rd_fr, ↓rd_bo, ↓fz_im, ↓fz_fr, ↓fz_bo, ↓rds_nil, ↓rds_cons, ↓ret_im, ↓ret_fr, ↓ret_bo, ↓rdC_nil, ↓rdC_im, ↓rdC_fr, ↓rdC_bo, bos_nil, bos_im, bos_fr, bos_bo, nd_nil, nd_one, ↓putB_nil, ↓putB_im, ↓putB_fr, ↓putB_bo, ↓ex_some, ↓ex_int, ↓post_nx, ↓post_rt, tru_bl, tru_int, tru_lst, tru_tup, tru_non, cmp_eq_int, cmp_ne_int, cmp_lt_int, cmp_le_int, cmp_gt_int, cmp_ge_int, cmp_lt_str, finsE, env0, List.getElem?_cons_zero, List.getElem?_cons_succ, List.length_cons, List.length_nil, List.replicate, List.cons_append, List.nil_append, List.append_nil, reduceIte, Bool.not_true, Bool.not_false, Bool.false_eq_true, if_true, if_false, true_and, and_true, ite_true, ite_false, Option.map_some, List.set_cons_zero, List.set_cons_succ, dIsi, ↓E_comp, ↓I_var, ↓srcR_bo, itD]
    refine ⟨by rw [List.length_map]; omega, compW_map (okLot w.ps.length) (fun e => ∃ s, e = [.im (webD w), .ow (.lst (ls.map lotD)), s2, s]) (fun e ⟨s, e'⟩ => ?_) (fun d hd e k2 ⟨s, e'⟩ hk2 => ?_) ⟨_, rfl⟩ fun e' ⟨s, ee⟩ => ?_⟩
    · subst e'
      obtain ⟨l, hl, rfl⟩ := List.mem_map.mp hd
      try simp only [cturn, bindT, wipeE, stS, webD, lotD, ↓S_nil, ↓S_cons, ↓S_pass, ↓S_asg, ↓S_asgt, ↓S_par2, ↓S_par3, ↓S_subT, ↓S_expr, ↓S_ret, ↓S_retN, ↓S_ifs, ↓E_var, ↓E_cint, ↓E_cstr, ↓E_cbl, ↓E_cnon, ↓E_glob, ↓E_bin, ↓E_neg, ↓E_cmp, ↓E_chain, ↓E_andn, ↓E_orn, ↓E_notn, ↓E_ife, ↓E_tupn, ↓E_lstn, ↓E_dnew, ↓E_blt, ↓E_meth, ↓E_mut, ↓E_idx, ↓E_slc, ↓E_isi, ↓T_var, ↓T_cint, ↓T_cstr, ↓T_cbl, ↓T_glob, ↓T_bin, ↓T_cmp, ↓T_neg, ↓T_chain, ↓T_call, ↓T_blt, ↓T_meth, ↓T_idx, ↓T_slc, ↓T_isi, ↓T_comp, ↓T_tupn, ↓T_lstn, ↓T_andn, ↓T_orn, ↓T_notn, ↓T_ife, ↓T_nil, ↓O_nil, ↓O_var, ↓O_cint, ↓O_neg, ↓O_bin, ↓O_blt, ↓O_glob, ↓A_nil, ↓A_cons, ↓B_nil, ↓B_cons, ↓C_nil, ↓C_io, ↓C_im, ↓rd_im, ↓rd_fr, ↓rd_bo, ↓fz_im, ↓fz_fr, ↓fz_bo, ↓rds_nil, ↓rds_cons, ↓ret_im, ↓ret_fr, ↓ret_bo, ↓rdC_nil, ↓rdC_im, ↓rdC_fr, ↓rdC_bo, bos_nil, bos_im, bos_fr, bos_bo, nd_nil, nd_one, ↓putB_nil, ↓putB_im, ↓putB_fr, ↓putB_bo, ↓ex_some, ↓ex_int, ↓post_nx, ↓post_rt, tru_bl, tru_int, tru_lst, tru_tup, tru_non, cmp_eq_int, cmp_ne_int, cmp_lt_int, cmp_le_int, cmp_gt_int, cmp_ge_int, cmp_lt_str, finsE, env0, List.getElem?_cons_zero, List.getElem?_cons_succ, List.length_cons, List.length_nil, List.replicate, List.cons_append, List.nil_append, List.append_nil, reduceIte, Bool.not_true, Bool.not_false, Bool.false_eq_true, if_true, if_false, true_and, and_true, ite_true, ite_false, Option.map_some, List.set_cons_zero, List.set_cons_succ, dIsi, dBlt, dd_len, un, u_len, List.length_map, dIdx, at0]
      have hh := hk2 [.im (webD w), .ow (.lst (ls.map lotD)), s2, .im (lotD l)] ⟨_, rfl⟩
      by_cases a : 0 < l.length
      · rw [decide_eq_true (show (0 : Int) < (l.length : Int) by omega)]
        try simp only [↓S_nil, ↓S_cons, ↓S_pass, ↓S_asg, ↓S_asgt, ↓S_par2, ↓S_par3, ↓S_subT, ↓S_expr, ↓S_ret, ↓S_retN, ↓S_ifs, ↓E_var, ↓E_cint, ↓E_cstr, ↓E_cbl, ↓E_cnon, ↓E_glob, ↓E_bin, ↓E_neg, ↓E_cmp, ↓E_chain, ↓E_andn, ↓E_orn, ↓E_notn, ↓E_ife, ↓E_tupn, ↓E_lstn, ↓E_dnew, ↓E_blt, ↓E_meth, ↓E_mut, ↓E_idx, ↓E_slc, ↓E_isi, ↓T_var, ↓T_cint, ↓T_cstr, ↓T_cbl, ↓T_glob, ↓T_bin, ↓T_cmp, ↓T_neg, ↓T_chain, ↓T_call, ↓T_blt, ↓T_meth, ↓T_idx, ↓T_slc, ↓T_isi, ↓T_comp, ↓T_tupn, ↓T_lstn, ↓T_andn, ↓T_orn, ↓T_notn, ↓T_ife, ↓T_nil, ↓O_nil, ↓O_var, ↓O_cint, ↓O_neg, ↓O_bin, ↓O_blt, ↓O_glob, ↓A_nil, ↓A_cons, ↓B_nil, ↓B_cons, ↓C_nil, ↓C_io, ↓C_im, ↓rd_im, ↓rd_fr, ↓rd_bo, ↓fz_im, ↓fz_fr, ↓fz_bo, ↓rds_nil, ↓rds_cons, ↓ret_im, ↓ret_fr, ↓ret_bo, ↓rdC_nil, ↓rdC_im, ↓rdC_fr, ↓rdC_bo, bos_nil, bos_im, bos_fr, bos_bo, nd_nil, nd_one, ↓putB_nil, ↓putB_im, ↓putB_fr, ↓putB_bo, ↓ex_some, ↓ex_int, ↓post_nx, ↓post_rt, tru_bl, tru_int, tru_lst, tru_tup, tru_non, cmp_eq_int, cmp_ne_int, cmp_lt_int, cmp_le_int, cmp_gt_int, cmp_ge_int, cmp_lt_str, finsE, env0, List.getElem?_cons_zero, List.getElem?_cons_succ, List.length_cons, List.length_nil, List.replicate, List.cons_append, List.nil_append, List.append_nil, reduceIte, Bool.not_true, Bool.not_false, Bool.false_eq_true, if_true, if_false, true_and, and_true, ite_true, ite_false, Option.map_some, List.set_cons_zero, List.set_cons_succ, dIsi, dBlt, dd_len, un, u_len, List.length_map, dIdx, at0]
        by_cases b : l.length < w.ps.length
        · rw [show okLot w.ps.length (lotD l) = some (lotD l) from if_pos (by simpa using ⟨a, b⟩)] at hh
          rw [decide_eq_true (show (l.length : Int) < (w.ps.length : Int) by omega)]
          try simp only [↓S_nil, ↓S_cons, ↓S_pass, ↓S_asg, ↓S_asgt, ↓S_par2, ↓S_par3, ↓S_subT, ↓S_expr, ↓S_ret, ↓S_retN, ↓S_ifs, ↓E_var, ↓E_cint, ↓E_cstr, ↓E_cbl, ↓E_cnon, ↓E_glob, ↓E_bin, ↓E_neg, ↓E_cmp, ↓E_chain, ↓E_andn, ↓E_orn, ↓E_notn, ↓E_ife, ↓E_tupn, ↓E_lstn, ↓E_dnew, ↓E_blt, ↓E_meth, ↓E_mut, ↓E_idx, ↓E_slc, ↓E_isi, ↓T_var, ↓T_cint, ↓T_cstr, ↓T_cbl, ↓T_glob, ↓T_bin, ↓T_cmp, ↓T_neg, ↓T_chain, ↓T_call, ↓T_blt, ↓T_meth, ↓T_idx, ↓T_slc, ↓T_isi, ↓T_comp, ↓T_tupn, ↓T_lstn, ↓T_andn, ↓T_orn, ↓T_notn, ↓T_ife, ↓T_nil, ↓O_nil, ↓O_var, ↓O_cint, ↓O_neg, ↓O_bin, ↓O_blt, ↓O_glob, ↓A_nil, ↓A_cons, ↓B_nil, ↓B_cons, ↓C_nil, ↓C_io, ↓C_im, ↓rd_im, ↓rd_fr, ↓rd_bo, ↓fz_im, ↓fz_fr, ↓fz_bo, ↓rds_nil, ↓rds_cons, ↓ret_im, ↓ret_fr, ↓ret_bo, ↓rdC_nil, ↓rdC_im, ↓rdC_fr, ↓rdC_bo, bos_nil, bos_im, bos_fr, bos_bo, nd_nil, nd_one, ↓putB_nil, ↓putB_im, ↓putB_fr, ↓putB_bo, ↓ex_some, ↓ex_int, ↓post_nx, ↓post_rt, tru_bl, tru_int, tru_lst, tru_tup, tru_non, cmp_eq_int, cmp_ne_int, cmp_lt_int, cmp_le_int, cmp_gt_int, cmp_ge_int, cmp_lt_str, finsE, env0, List.getElem?_cons_zero, List.getElem?_cons_succ, List.length_cons, List.length_nil, List.replicate, List.cons_append, List.nil_append, List.append_nil, reduceIte, Bool.not_true, Bool.not_false, Bool.false_eq_true, if_true, if_false, true_and, and_true, ite_true, ite_false, Option.map_some, List.set_cons_zero, List.set_cons_succ, dIsi]
          exact hh
        · rw [show okLot w.ps.length (lotD l) = none from if_neg (by simp; omega)] at hh
          rw [decide_eq_false (show ¬ (l.length : Int) < (w.ps.length : Int) by omega)]
          try simp only [↓S_nil, ↓S_cons, ↓S_pass, ↓S_asg, ↓S_asgt, ↓S_par2, ↓S_par3, ↓S_subT, ↓S_expr, ↓S_ret, ↓S_retN, ↓S_ifs, ↓E_var, ↓E_cint, ↓E_cstr, ↓E_cbl, ↓E_cnon, ↓E_glob, ↓E_bin, ↓E_neg, ↓E_cmp, ↓E_chain, ↓E_andn, ↓E_orn, ↓E_notn, ↓E_ife, ↓E_tupn, ↓E_lstn, ↓E_dnew, ↓E_blt, ↓E_meth, ↓E_mut, ↓E_idx, ↓E_slc, ↓E_isi, ↓T_var, ↓T_cint, ↓T_cstr, ↓T_cbl, ↓T_glob, ↓T_bin, ↓T_cmp, ↓T_neg, ↓T_chain, ↓T_call, ↓T_blt, ↓T_meth, ↓T_idx, ↓T_slc, ↓T_isi, ↓T_comp, ↓T_tupn, ↓T_lstn, ↓T_andn, ↓T_orn, ↓T_notn, ↓T_ife, ↓T_nil, ↓O_nil, ↓O_var, ↓O_cint, ↓O_neg, ↓O_bin, ↓O_blt, ↓O_glob, ↓A_nil, ↓A_cons, ↓B_nil, ↓B_cons, ↓C_nil, ↓C_io, ↓C_im, ↓rd_im, ↓rd_fr, ↓rd_bo, ↓fz_im, ↓fz_fr, ↓fz_bo, ↓rds_nil, ↓rds_cons, ↓ret_im, ↓ret_fr, ↓ret_bo, ↓rdC_nil, ↓rdC_im, ↓rdC_fr, ↓rdC_bo, bos_nil, bos_im, bos_fr, bos_bo, nd_nil, nd_one, ↓putB_nil, ↓putB_im, ↓putB_fr, ↓putB_bo, ↓ex_some, ↓ex_int, ↓post_nx, ↓post_rt, tru_bl, tru_int, tru_lst, tru_tup, tru_non, cmp_eq_int, cmp_ne_int, cmp_lt_int, cmp_le_int, cmp_gt_int, cmp_ge_int, cmp_lt_str, finsE, env0, List.getElem?_cons_zero, List.getElem?_cons_succ, List.length_cons, List.length_nil, List.replicate, List.cons_append, List.nil_append, List.append_nil, reduceIte, Bool.not_true, Bool.not_false, Bool.false_eq_true, if_true, if_false, true_and, and_true, ite_true, ite_false, Option.map_some, List.set_cons_zero, List.set_cons_succ, dIsi]
          exact hh
      · rw [show okLot w.ps.length (lotD l) = none from if_neg (by simp; omega)] at hh
        rw [decide_eq_false (show ¬ (0 : Int) < (l.length : Int) by omega)]
        try simp only [↓S_nil, ↓S_cons, ↓S_pass, ↓S_asg, ↓S_asgt, ↓S_par2, ↓S_par3, ↓S_subT, ↓S_expr, ↓S_ret, ↓S_retN, ↓S_ifs, ↓E_var, ↓E_cint, ↓E_cstr, ↓E_cbl, ↓E_cnon, ↓E_glob, ↓E_bin, ↓E_neg, ↓E_cmp, ↓E_chain, ↓E_andn, ↓E_orn, ↓E_notn, ↓E_ife, ↓E_tupn, ↓E_lstn, ↓E_dnew, ↓E_blt, ↓E_meth, ↓E_mut, ↓E_idx, ↓E_slc, ↓E_isi, ↓T_var, ↓T_cint, ↓T_cstr, ↓T_cbl, ↓T_glob, ↓T_bin, ↓T_cmp, ↓T_neg, ↓T_chain, ↓T_call, ↓T_blt, ↓T_meth, ↓T_idx, ↓T_slc, ↓T_isi, ↓T_comp, ↓T_tupn, ↓T_lstn, ↓T_andn, ↓T_orn, ↓T_notn, ↓T_ife, ↓T_nil, ↓O_nil, ↓O_var, ↓O_cint, ↓O_neg, ↓O_bin, ↓O_blt, ↓O_glob, ↓A_nil, ↓A_cons, ↓B_nil, ↓B_cons, ↓C_nil, ↓C_io, ↓C_im, ↓rd_im, ↓rd_fr, ↓rd_bo, ↓fz_im, ↓fz_fr, ↓fz_bo, ↓rds_nil, ↓rds_cons, ↓ret_im, ↓ret_fr, ↓ret_bo, ↓rdC_nil, ↓rdC_im, ↓rdC_fr, ↓rdC_bo, bos_nil, bos_im, bos_fr, bos_bo, nd_nil, nd_one, ↓putB_nil, ↓putB_im, ↓putB_fr, ↓putB_bo, ↓ex_some, ↓ex_int, ↓post_nx, ↓post_rt, tru_bl, tru_int, tru_lst, tru_tup, tru_non, cmp_eq_int, cmp_ne_int, cmp_lt_int, cmp_le_int, cmp_gt_int, cmp_ge_int, cmp_lt_str, finsE, env0, List.getElem?_cons_zero, List.getElem?_cons_succ, List.length_cons, List.length_nil, List.replicate, List.cons_append, List.nil_append, List.append_nil, reduceIte, Bool.not_true, Bool.not_false, Bool.false_eq_true, if_true, if_false, true_and, and_true, ite_true, ite_false, Option.map_some, List.set_cons_zero, List.set_cons_succ, dIsi]
        exact hh
    · subst e'; intro i hi; rw [List.mem_singleton.mp hi]; rfl
    · subst ee
      try simp only [wipeE, ↓S_nil, ↓S_cons, ↓S_pass, ↓S_asg, ↓S_asgt, ↓S_par2, ↓S_par3, ↓S_subT, ↓S_expr, ↓S_ret, ↓S_retN, ↓S_ifs, ↓E_var, ↓E_cint, ↓E_cstr, ↓E_cbl, ↓E_cnon, ↓E_glob, ↓E_bin, ↓E_neg, ↓E_cmp, ↓E_chain, ↓E_andn, ↓E_orn, ↓E_notn, ↓E_ife, ↓E_tupn, ↓E_lstn, ↓E_dnew, ↓E_blt, ↓E_meth, ↓E_mut, ↓E_idx, ↓E_slc, ↓E_isi, ↓T_var, ↓T_cint, ↓T_cstr, ↓T_cbl, ↓T_glob, ↓T_bin, ↓T_cmp, ↓T_neg, ↓T_chain, ↓T_call, ↓T_blt, ↓T_meth, ↓T_idx, ↓T_slc, ↓T_isi, ↓T_comp, ↓T_tupn, ↓T_lstn, ↓T_andn, ↓T_orn, ↓T_notn, ↓T_ife, ↓T_nil, ↓O_nil, ↓O_var, ↓O_cint, ↓O_neg, ↓O_bin, ↓O_blt, ↓O_glob, ↓A_nil, ↓A_cons, ↓B_nil, ↓B_cons, ↓C_nil, ↓C_io, ↓C_im, ↓rd_im, ↓rd_fr, ↓rd_bo, ↓fz_im, ↓fz_fr, ↓fz_bo, ↓rds_nil, ↓rds_cons, ↓ret_im, ↓ret_fr, ↓ret_bo, ↓rdC_nil, ↓rdC_im, ↓rdC_fr, ↓rdC_bo, bos_nil, bos_im, bos_fr, bos_bo, nd_nil, nd_one, ↓putB_nil, ↓putB_im, ↓putB_fr, ↓putB_bo, ↓ex_some, ↓ex_int, ↓post_nx, ↓post_rt, tru_bl, tru_int, tru_lst, tru_tup, tru_non, cmp_eq_int, cmp_ne_int, cmp_lt_int, cmp_le_int, cmp_gt_int, cmp_ge_int, cmp_lt_str, finsE, env0, List.getElem?_cons_zero, List.getElem?_cons_succ, List.length_cons, List.length_nil, List.replicate, List.cons_append, List.nil_append, List.append_nil, reduceIte, Bool.not_true, Bool.not_false, Bool.false_eq_true, if_true, if_false, true_and, and_true, ite_true, ite_false, Option.map_some, List.set_cons_zero, List.set_cons_succ, dIsi]
      rw [fm_ok]
      have fin := hq (ls.filter fun l => decide (0 < l.length ∧ l.length < w.ps.length)) (fun e => by
        have : w.ps.take 1 ∈ ls.filter fun l => decide (0 < l.length ∧ l.length < w.ps.length) := by
          refine List.mem_filter.mpr ⟨hone (by omega), ?_⟩
          rw [decide_eq_true_iff, List.length_take]
          omega
        rw [e] at this
        exact absurd this List.not_mem_nil) (Nat.le_trans (List.length_filter_le _ _) (by omega)) fun l hl => by
          obtain ⟨hl, c⟩ := List.mem_filter.mp hl
          have c := of_decide_eq_true c
          exact ⟨fun e => by subst e; exact absurd c.1 (Nat.lt_irrefl _), c.2, fun p hp => (hsub l hl).subset hp, List.Pairwise.sublist (hsub l hl) ok.up⟩
      first | exact fin | exact ⟨[], rfl, fin⟩
def fi__law_lot : FI := { io := [true, false], sp := fun ds Q _ => ∃ p q w, ds = [potD p q, webD w] ∧ PotOk p q ∧ WebOk w ∧ 2 ≤ w.ps.length ∧ w.ps.length ≤ 10 ∧ ∀ l p' q', LotOk w l → PotOk p' q' → Q (.im (lotD l)) [potD p' q'] }
theorem k__law_lot (Γ : Ga) (h1 : Γ.fn "_law_draw" = some fi__law_draw) (h2 : Γ.fn "_law_lots" = some fi__law_lots) : Keeps Γ 3 sm__law_lot fi__law_lot := by
  rintro ds Q E ⟨p, q, w, rfl, pok, ok, l2, l10, hq⟩
  refine ⟨rfl, by decide, ?_⟩
  unfold sm__law_lot
  refine S_seq fun nx hnx => ?_
  try simp only [fi__law_lot, ↓S_nil, ↓S_cons, ↓S_pass, ↓S_asg, ↓S_asgt, ↓S_par2, ↓S_par3, ↓S_subT, ↓S_expr, ↓S_ret, ↓S_retN, ↓S_ifs, ↓E_var, ↓E_cint, ↓E_cstr, ↓E_cbl, ↓E_cnon, ↓E_glob, ↓E_bin, ↓E_neg, ↓E_cmp, ↓E_chain, ↓E_andn, ↓E_orn, ↓E_notn, ↓E_ife, ↓E_tupn, ↓E_lstn, ↓E_dnew, ↓E_blt, ↓E_meth, ↓E_mut, ↓E_idx, ↓E_slc, ↓E_isi, ↓T_var, ↓T_cint, ↓T_cstr, ↓T_cbl, ↓T_glob, ↓T_bin, ↓T_cmp, ↓T_neg, ↓T_chain, ↓T_call, ↓T_blt, ↓T_meth, ↓T_idx, ↓T_slc, ↓T_isi, ↓T_comp, ↓T_tupn, ↓T_lstn, ↓T_andn, ↓T_orn, ↓T_notn, ↓T_ife, ↓T_nil, ↓O_nil, ↓O_var, ↓O_cint, ↓O_neg, ↓O_bin, ↓O_blt, ↓O_glob, ↓A_nil, ↓A_cons, ↓B_nil, ↓B_cons, ↓C_nil, ↓C_io, ↓C_im, ↓rd_im, ↓rd_fr, ↓rd_bo, ↓fz_im, ↓fz_fr, ↓fz_bo, ↓rds_nil, ↓rds_cons, ↓ret_im, ↓ret_fr, ↓ret_bo, ↓rdC_nil, ↓rdC_im, ↓rdC_fr, ↓rdC_bo, bos_nil, bos_im, bos_fr, bos_bo, nd_nil, nd_one, ↓putB_nil, ↓putB_im, ↓putB_fr, ↓putB_bo, ↓ex_some, ↓ex_int, ↓post_nx, ↓post_rt, tru_bl, tru_int, tru_lst, tru_tup, tru_non, cmp_eq_int, cmp_ne_int, cmp_lt_int, cmp_le_int, cmp_gt_int, cmp_ge_int, cmp_lt_str, finsE, env0, List.getElem?_cons_zero, List.getElem?_cons_succ, List.length_cons, List.length_nil, List.replicate, List.cons_append, List.nil_append, List.append_nil, reduceIte, Bool.not_true, Bool.not_false, Bool.false_eq_true, if_true, if_false, true_and, and_true, ite_true, ite_false, Option.map_some, List.set_cons_zero, List.set_cons_succ, dIsi, ↓E_call' h2, fi__law_lots]
  refine ⟨w, rfl, ok, l2, l10, fun ls ne len lok => ?_⟩
  try simp only [↓S_nil, ↓S_cons, ↓S_pass, ↓S_asg, ↓S_asgt, ↓S_par2, ↓S_par3, ↓S_subT, ↓S_expr, ↓S_ret, ↓S_retN, ↓S_ifs, ↓E_var, ↓E_cint, ↓E_cstr, ↓E_cbl, ↓E_cnon, ↓E_glob, ↓E_bin, ↓E_neg, ↓E_cmp, ↓E_chain, ↓E_andn, ↓E_orn, ↓E_notn, ↓E_ife, ↓E_tupn, ↓E_lstn, ↓E_dnew, ↓E_blt, ↓E_meth, ↓E_mut, ↓E_idx, ↓E_slc, ↓E_isi, ↓T_var, ↓T_cint, ↓T_cstr, ↓T_cbl, ↓T_glob, ↓T_bin, ↓T_cmp, ↓T_neg, ↓T_chain, ↓T_call, ↓T_blt, ↓T_meth, ↓T_idx, ↓T_slc, ↓T_isi, ↓T_comp, ↓T_tupn, ↓T_lstn, ↓T_andn, ↓T_orn, ↓T_notn, ↓T_ife, ↓T_nil, ↓O_nil, ↓O_var, ↓O_cint, ↓O_neg, ↓O_bin, ↓O_blt, ↓O_glob, ↓A_nil, ↓A_cons, ↓B_nil, ↓B_cons, ↓C_nil, ↓C_io, ↓C_im, ↓rd_im, ↓rd_fr, ↓rd_bo, ↓fz_im, ↓fz_fr, ↓fz_bo, ↓rds_nil, ↓rds_cons, ↓ret_im, ↓ret_fr, ↓ret_bo, ↓rdC_nil, ↓rdC_im, ↓rdC_fr, ↓rdC_bo, bos_nil, bos_im, bos_fr, bos_bo, nd_nil, nd_one, ↓putB_nil, ↓putB_im, ↓putB_fr, ↓putB_bo, ↓ex_some, ↓ex_int, ↓post_nx, ↓post_rt, tru_bl, tru_int, tru_lst, tru_tup, tru_non, cmp_eq_int, cmp_ne_int, cmp_lt_int, cmp_le_int, cmp_gt_int, cmp_ge_int, cmp_lt_str, finsE, env0, List.getElem?_cons_zero, List.getElem?_cons_succ, List.length_cons, List.length_nil, List.replicate, List.cons_append, List.nil_append, List.append_nil, reduceIte, Bool.not_true, Bool.not_false, Bool.false_eq_true, if_true, if_false, true_and, and_true, ite_true, ite_false, Option.map_some, List.set_cons_zero, List.set_cons_succ, dIsi, stS]
  rw [hnx]
  have lp : 0 < ls.length := List.length_pos_iff.mpr ne
  try simp only [↓S_nil, ↓S_cons, ↓S_pass, ↓S_asg, ↓S_asgt, ↓S_par2, ↓S_par3, ↓S_subT, ↓S_expr, ↓S_ret, ↓S_retN, ↓S_ifs, ↓E_var, ↓E_cint, ↓E_cstr, ↓E_cbl, ↓E_cnon, ↓E_glob, ↓E_bin, ↓E_neg, ↓E_cmp, ↓E_chain, ↓E_andn, ↓E_orn, ↓E_notn, ↓E_ife, ↓E_tupn, ↓E_lstn, ↓E_dnew, ↓E_blt, ↓E_meth, ↓E_mut, ↓E_idx, ↓E_slc, ↓E_isi, ↓T_var, ↓T_cint, ↓T_cstr, ↓T_cbl, ↓T_glob, ↓T_bin, ↓T_cmp, ↓T_neg, ↓T_chain, ↓T_call, ↓T_blt, ↓T_meth, ↓T_idx, ↓T_slc, ↓T_isi, ↓T_comp, ↓T_tupn, ↓T_lstn, ↓T_andn, ↓T_orn, ↓T_notn, ↓T_ife, ↓T_nil, ↓O_nil, ↓O_var, ↓O_cint, ↓O_neg, ↓O_bin, ↓O_blt, ↓O_glob, ↓A_nil, ↓A_cons, ↓B_nil, ↓B_cons, ↓C_nil, ↓C_io, ↓C_im, ↓rd_im, ↓rd_fr, ↓rd_bo, ↓fz_im, ↓fz_fr, ↓fz_bo, ↓rds_nil, ↓rds_cons, ↓ret_im, ↓ret_fr, ↓ret_bo, ↓rdC_nil, ↓rdC_im, ↓rdC_fr, ↓rdC_bo, bos_nil, bos_im, bos_fr, bos_bo, nd_nil, nd_one, ↓putB_nil, ↓putB_im, ↓putB_fr, ↓putB_bo, ↓ex_some, ↓ex_int, ↓post_nx, ↓post_rt, tru_bl, tru_int, tru_lst, tru_tup, tru_non, cmp_eq_int, cmp_ne_int, cmp_lt_int, cmp_le_int, cmp_gt_int, cmp_ge_int, cmp_lt_str, finsE, env0, List.getElem?_cons_zero, List.getElem?_cons_succ, List.length_cons, List.length_nil, List.replicate, List.cons_append, List.nil_append, List.append_nil, reduceIte, Bool.not_true, Bool.not_false, Bool.false_eq_true, if_true, if_false, true_and, and_true, ite_true, ite_false, Option.map_some, List.set_cons_zero, List.set_cons_succ, dIsi, ↓E_call' h1, fi__law_draw, isOwnR, isOwn, dBlt, dd_len, un, u_len, potD, List.length_map]
  refine ⟨p, q, ls.length, by simp [potD], pok, by omega, by omega, fun x p1 q1 x0 x1 pok1 => ?_⟩
  try simp only [potD, putS, ↓S_nil, ↓S_cons, ↓S_pass, ↓S_asg, ↓S_asgt, ↓S_par2, ↓S_par3, ↓S_subT, ↓S_expr, ↓S_ret, ↓S_retN, ↓S_ifs, ↓E_var, ↓E_cint, ↓E_cstr, ↓E_cbl, ↓E_cnon, ↓E_glob, ↓E_bin, ↓E_neg, ↓E_cmp, ↓E_chain, ↓E_andn, ↓E_orn, ↓E_notn, ↓E_ife, ↓E_tupn, ↓E_lstn, ↓E_dnew, ↓E_blt, ↓E_meth, ↓E_mut, ↓E_idx, ↓E_slc, ↓E_isi, ↓T_var, ↓T_cint, ↓T_cstr, ↓T_cbl, ↓T_glob, ↓T_bin, ↓T_cmp, ↓T_neg, ↓T_chain, ↓T_call, ↓T_blt, ↓T_meth, ↓T_idx, ↓T_slc, ↓T_isi, ↓T_comp, ↓T_tupn, ↓T_lstn, ↓T_andn, ↓T_orn, ↓T_notn, ↓T_ife, ↓T_nil, ↓O_nil, ↓O_var, ↓O_cint, ↓O_neg, ↓O_bin, ↓O_blt, ↓O_glob, ↓A_nil, ↓A_cons, ↓B_nil, ↓B_cons, ↓C_nil, ↓C_io, ↓C_im, ↓rd_im, ↓rd_fr, ↓rd_bo, ↓fz_im, ↓fz_fr, ↓fz_bo, ↓rds_nil, ↓rds_cons, ↓ret_im, ↓ret_fr, ↓ret_bo, ↓rdC_nil, ↓rdC_im, ↓rdC_fr, ↓rdC_bo, bos_nil, bos_im, bos_fr, bos_bo, nd_nil, nd_one, ↓putB_nil, ↓putB_im, ↓putB_fr, ↓putB_bo, ↓ex_some, ↓ex_int, ↓post_nx, ↓post_rt, tru_bl, tru_int, tru_lst, tru_tup, tru_non, cmp_eq_int, cmp_ne_int, cmp_lt_int, cmp_le_int, cmp_gt_int, cmp_ge_int, cmp_lt_str, finsE, env0, List.getElem?_cons_zero, List.getElem?_cons_succ, List.length_cons, List.length_nil, List.replicate, List.cons_append, List.nil_append, List.append_nil, reduceIte, Bool.not_true, Bool.not_false, Bool.false_eq_true, if_true, if_false, true_and, and_true, ite_true, ite_false, Option.map_some, List.set_cons_zero, List.set_cons_succ, dIsi, dIdx]
  obtain ⟨k, rfl⟩ := Int.eq_ofNat_of_zero_le x0
  have hk : k < ls.length := by omega
  refine ⟨lotD ls[k], L2.atI_nat (by rw [List.getElem?_map, List.getElem?_eq_getElem hk]; rfl), ?_⟩
  have := hq ls[k] p1 q1 (lok _ (List.getElem_mem hk)) pok1
  first | exact this | exact ⟨_, rfl, this⟩
def inB (l : List Str) : Str → Bool := fun x => decide (x ∈ l)
def fi__law_room_of : FI := { io := [false, false], sp := fun ds Q _ => ∃ w l, ds = [webD w, .lst (l.map .str)] ∧ WebOk w ∧ w.ps.length ≤ 10 ∧ l.Nodup ∧ (∀ x ∈ l, x ∈ w.ps) ∧ Q (.im (.int (cut w (inB l)))) [] }
theorem shp_strs {l m : List Str} (h1 : ∀ x ∈ l, NameOk x) (h2 : ∀ x ∈ m, NameOk x) : D.shp2 (.tup (l.map .str)) (.tup (m.map .str)) := by
  refine ⟨pln_strs h1, pln_strs h2, .inl ?_⟩
  have : ∀ l : List Str, D.deps (l.map .str) = 0 := fun l => by
    induction l with
    | nil => rfl
    | cons x l ih => rw [List.map_cons, D.deps, ih]; rfl
  rw [D.dep, this]
  omega
theorem eqbs_strs : ∀ l m : List Str, D.eqbs (l.map .str) (m.map .str) = decide (l = m)
  | [], [] => rfl
  | [], _ :: _ => rfl
  | _ :: _, [] => rfl
  | x :: l, y :: m => by
    rw [List.map_cons, List.map_cons, D.eqbs, eqbs_strs l m, Bool.eq_iff_iff]
    simp [D.eqb]
theorem eqb_strs (l m : List Str) : D.eqb (.tup (l.map .str)) (.tup (m.map .str)) = decide (l = m) := eqbs_strs l m
theorem cmp_eq_strs {l m : List Str} {K : Bool → Prop} (h1 : ∀ x ∈ l, NameOk x) (h2 : ∀ x ∈ m, NameOk x) : dCmp .Eq (.tup (l.map .str)) (.tup (m.map .str)) K = K (decide (l = m)) :=
  propext ⟨fun h => by have := h.2; rwa [eqb_strs] at this, fun h => ⟨shp_strs h1 h2, by rwa [eqb_strs]⟩⟩
theorem cmp_ne_strs {l m : List Str} {K : Bool → Prop} (h1 : ∀ x ∈ l, NameOk x) (h2 : ∀ x ∈ m, NameOk x) : dCmp .NotEq (.tup (l.map .str)) (.tup (m.map .str)) K = K (!decide (l = m)) :=
  propext ⟨fun h => by have := h.2; rwa [eqb_strs] at this, fun h => ⟨shp_strs h1 h2, by rwa [eqb_strs]⟩⟩
theorem cmp_eq_nil {l : List Str} {K : Bool → Prop} (h1 : ∀ x ∈ l, NameOk x) : dCmp .Eq (.tup (l.map .str)) (.tup []) K = K (decide (l = [])) := cmp_eq_strs (m := []) h1 fun _ h => nomatch h
theorem k__law_room_of (Γ : Ga) (h1 : Γ.fn "lot_room" = some fi_lot_room) : Keeps Γ 3 sm__law_room_of fi__law_room_of := by
  rintro ds Q E ⟨w, l, rfl, ok, l10, nd, mem, q⟩
  refine ⟨rfl, by decide, ?_⟩
  have ll : l.length ≤ 10 := Nat.le_trans (nodup_le nd mem) l10
  unfold sm__law_room_of
  refine S_seq fun nx hnx => ?_
  try simp only [fi__law_room_of, ↓S_nil, ↓S_cons, ↓S_pass, ↓S_asg, ↓S_asgt, ↓S_par2, ↓S_par3, ↓S_subT, ↓S_expr, ↓S_ret, ↓S_retN, ↓S_ifs, ↓E_var, ↓E_cint, ↓E_cstr, ↓E_cbl, ↓E_cnon, ↓E_glob, ↓E_bin, ↓E_neg, ↓E_cmp, ↓E_chain, ↓E_andn, ↓E_orn, ↓E_notn, ↓E_ife, ↓E_tupn, ↓E_lstn, ↓E_dnew, ↓E_blt, ↓E_meth, ↓E_mut, ↓E_idx, ↓E_slc, ↓E_isi, ↓T_var, ↓T_cint, ↓T_cstr, ↓T_cbl, ↓T_glob, ↓T_bin, ↓T_cmp, ↓T_neg, ↓T_chain, ↓T_call, ↓T_blt, ↓T_meth, ↓T_idx, ↓T_slc, ↓T_isi, ↓T_comp, ↓T_tupn, ↓T_lstn, ↓T_andn, ↓T_orn, ↓T_notn, ↓T_ife, ↓T_nil, ↓O_nil, ↓O_var, ↓O_cint, ↓O_neg, ↓O_bin, ↓O_blt, ↓O_glob, ↓A_nil, ↓A_cons, ↓B_nil, ↓B_cons, ↓C_nil, ↓C_io, ↓C_im, ↓rd_im, ↓rd_fr, ↓rd_bo, ↓fz_im, ↓fz_fr, ↓fz_bo, ↓rds_nil, ↓rds_cons, ↓ret_im, ↓ret_fr, ↓ret_bo, ↓rdC_nil, ↓rdC_im, ↓rdC_fr, ↓rdC_bo, bos_nil, bos_im, bos_fr, bos_bo, nd_nil, nd_one, ↓putB_nil, ↓putB_im, ↓putB_fr, ↓putB_bo, ↓ex_some, ↓ex_int, ↓post_nx, ↓post_rt, tru_bl, tru_int, tru_lst, tru_tup, tru_non, cmp_eq_int, cmp_ne_int, cmp_lt_int, cmp_le_int, cmp_gt_int, cmp_ge_int, cmp_lt_str, finsE, env0, List.getElem?_cons_zero, List.getElem?_cons_succ, List.length_cons, List.length_nil, List.replicate, List.cons_append, List.nil_append, List.append_nil, reduceIte, Bool.not_true, Bool.not_false, Bool.false_eq_true, if_true, if_false, true_and, and_true, ite_true, ite_false, Option.map_some, List.set_cons_zero, List.set_cons_succ, dIsi, dBlt, dd_tuple, dd_sorted, un, u_tuple, u_sorted]
  refine .inr (.inl ⟨l, strs_map l, by omega, fun ys hp hs => ?_⟩)
  try simp only [↓S_nil, ↓S_cons, ↓S_pass, ↓S_asg, ↓S_asgt, ↓S_par2, ↓S_par3, ↓S_subT, ↓S_expr, ↓S_ret, ↓S_retN, ↓S_ifs, ↓E_var, ↓E_cint, ↓E_cstr, ↓E_cbl, ↓E_cnon, ↓E_glob, ↓E_bin, ↓E_neg, ↓E_cmp, ↓E_chain, ↓E_andn, ↓E_orn, ↓E_notn, ↓E_ife, ↓E_tupn, ↓E_lstn, ↓E_dnew, ↓E_blt, ↓E_meth, ↓E_mut, ↓E_idx, ↓E_slc, ↓E_isi, ↓T_var, ↓T_cint, ↓T_cstr, ↓T_cbl, ↓T_glob, ↓T_bin, ↓T_cmp, ↓T_neg, ↓T_chain, ↓T_call, ↓T_blt, ↓T_meth, ↓T_idx, ↓T_slc, ↓T_isi, ↓T_comp, ↓T_tupn, ↓T_lstn, ↓T_andn, ↓T_orn, ↓T_notn, ↓T_ife, ↓T_nil, ↓O_nil, ↓O_var, ↓O_cint, ↓O_neg, ↓O_bin, ↓O_blt, ↓O_glob, ↓A_nil, ↓A_cons, ↓B_nil, ↓B_cons, ↓C_nil, ↓C_io, ↓C_im, ↓rd_im, ↓rd_fr, ↓rd_bo, ↓fz_im, ↓fz_fr, ↓fz_bo, ↓rds_nil, ↓rds_cons, ↓ret_im, ↓ret_fr, ↓ret_bo, ↓rdC_nil, ↓rdC_im, ↓rdC_fr, ↓rdC_bo, bos_nil, bos_im, bos_fr, bos_bo, nd_nil, nd_one, ↓putB_nil, ↓putB_im, ↓putB_fr, ↓putB_bo, ↓ex_some, ↓ex_int, ↓post_nx, ↓post_rt, tru_bl, tru_int, tru_lst, tru_tup, tru_non, cmp_eq_int, cmp_ne_int, cmp_lt_int, cmp_le_int, cmp_gt_int, cmp_ge_int, cmp_lt_str, finsE, env0, List.getElem?_cons_zero, List.getElem?_cons_succ, List.length_cons, List.length_nil, List.replicate, List.cons_append, List.nil_append, List.append_nil, reduceIte, Bool.not_true, Bool.not_false, Bool.false_eq_true, if_true, if_false, true_and, and_true, ite_true, ite_false, Option.map_some, List.set_cons_zero, List.set_cons_succ, dIsi, stS]
  have up : Rising ys := rising_of hs (hp.nodup_iff.mpr nd)
  have hm : ∀ x, x ∈ ys ↔ x ∈ l := fun x => hp.mem_iff
  have ym : ∀ x ∈ ys, x ∈ w.ps := fun x hx => mem x ((hm x).mp hx)
  have yn : ∀ x ∈ ys, NameOk x := fun x hx => ok.nm x (ym x hx)
  have eb : inB ys = inB l := funext fun x => by unfold inB; exact decide_eq_decide.mpr (hm x)
  rw [hnx]
  refine S_seq fun nx hnx => ?_
  try simp only [↓S_nil, ↓S_cons, ↓S_pass, ↓S_asg, ↓S_asgt, ↓S_par2, ↓S_par3, ↓S_subT, ↓S_expr, ↓S_ret, ↓S_retN, ↓S_ifs, ↓E_var, ↓E_cint, ↓E_cstr, ↓E_cbl, ↓E_cnon, ↓E_glob, ↓E_bin, ↓E_neg, ↓E_cmp, ↓E_chain, ↓E_andn, ↓E_orn, ↓E_notn, ↓E_ife, ↓E_tupn, ↓E_lstn, ↓E_dnew, ↓E_blt, ↓E_meth, ↓E_mut, ↓E_idx, ↓E_slc, ↓E_isi, ↓T_var, ↓T_cint, ↓T_cstr, ↓T_cbl, ↓T_glob, ↓T_bin, ↓T_cmp, ↓T_neg, ↓T_chain, ↓T_call, ↓T_blt, ↓T_meth, ↓T_idx, ↓T_slc, ↓T_isi, ↓T_comp, ↓T_tupn, ↓T_lstn, ↓T_andn, ↓T_orn, ↓T_notn, ↓T_ife, ↓T_nil, ↓O_nil, ↓O_var, ↓O_cint, ↓O_neg, ↓O_bin, ↓O_blt, ↓O_glob, ↓A_nil, ↓A_cons, ↓B_nil, ↓B_cons, ↓C_nil, ↓C_io, ↓C_im, ↓rd_im, ↓rd_fr, ↓rd_bo, ↓fz_im, ↓fz_fr, ↓fz_bo, ↓rds_nil, ↓rds_cons, ↓ret_im, ↓ret_fr, ↓ret_bo, ↓rdC_nil, ↓rdC_im, ↓rdC_fr, ↓rdC_bo, bos_nil, bos_im, bos_fr, bos_bo, nd_nil, nd_one, ↓putB_nil, ↓putB_im, ↓putB_fr, ↓putB_bo, ↓ex_some, ↓ex_int, ↓post_nx, ↓post_rt, tru_bl, tru_int, tru_lst, tru_tup, tru_non, cmp_eq_int, cmp_ne_int, cmp_lt_int, cmp_le_int, cmp_gt_int, cmp_ge_int, cmp_lt_str, finsE, env0, List.getElem?_cons_zero, List.getElem?_cons_succ, List.length_cons, List.length_nil, List.replicate, List.cons_append, List.nil_append, List.append_nil, reduceIte, Bool.not_true, Bool.not_false, Bool.false_eq_true, if_true, if_false, true_and, and_true, ite_true, ite_false, Option.map_some, List.set_cons_zero, List.set_cons_succ, dIsi, cmp_eq_nil yn, dBlt, dd_len, un, u_len, webD, dIdx, at0, List.length_map]
  refine ⟨Nat.zero_le _, ?_⟩
  have z : ∀ n : Int, n = 0 → ∃ fs, finsE [false, false] [.im (webD w), .im (.lst (l.map .str)), .im (.tup (ys.map .str))] = some fs ∧ Q (.im (.int (cut w (inB l)))) fs := fun _ _ => ⟨[], rfl, q⟩
  by_cases e : ys = []
  · subst e
    try simp only [decide_true, ↓S_nil, ↓S_cons, ↓S_pass, ↓S_asg, ↓S_asgt, ↓S_par2, ↓S_par3, ↓S_subT, ↓S_expr, ↓S_ret, ↓S_retN, ↓S_ifs, ↓E_var, ↓E_cint, ↓E_cstr, ↓E_cbl, ↓E_cnon, ↓E_glob, ↓E_bin, ↓E_neg, ↓E_cmp, ↓E_chain, ↓E_andn, ↓E_orn, ↓E_notn, ↓E_ife, ↓E_tupn, ↓E_lstn, ↓E_dnew, ↓E_blt, ↓E_meth, ↓E_mut, ↓E_idx, ↓E_slc, ↓E_isi, ↓T_var, ↓T_cint, ↓T_cstr, ↓T_cbl, ↓T_glob, ↓T_bin, ↓T_cmp, ↓T_neg, ↓T_chain, ↓T_call, ↓T_blt, ↓T_meth, ↓T_idx, ↓T_slc, ↓T_isi, ↓T_comp, ↓T_tupn, ↓T_lstn, ↓T_andn, ↓T_orn, ↓T_notn, ↓T_ife, ↓T_nil, ↓O_nil, ↓O_var, ↓O_cint, ↓O_neg, ↓O_bin, ↓O_blt, ↓O_glob, ↓A_nil, ↓A_cons, ↓B_nil, ↓B_cons, ↓C_nil, ↓C_io, ↓C_im, ↓rd_im, ↓rd_fr, ↓rd_bo, ↓fz_im, ↓fz_fr, ↓fz_bo, ↓rds_nil, ↓rds_cons, ↓ret_im, ↓ret_fr, ↓ret_bo, ↓rdC_nil, ↓rdC_im, ↓rdC_fr, ↓rdC_bo, bos_nil, bos_im, bos_fr, bos_bo, nd_nil, nd_one, ↓putB_nil, ↓putB_im, ↓putB_fr, ↓putB_bo, ↓ex_some, ↓ex_int, ↓post_nx, ↓post_rt, tru_bl, tru_int, tru_lst, tru_tup, tru_non, cmp_eq_int, cmp_ne_int, cmp_lt_int, cmp_le_int, cmp_gt_int, cmp_ge_int, cmp_lt_str, finsE, env0, List.getElem?_cons_zero, List.getElem?_cons_succ, List.length_cons, List.length_nil, List.replicate, List.cons_append, List.nil_append, List.append_nil, reduceIte, Bool.not_true, Bool.not_false, Bool.false_eq_true, if_true, if_false, true_and, and_true, ite_true, ite_false, Option.map_some, List.set_cons_zero, List.set_cons_succ, dIsi]
    have : cut w (inB l) = 0 := by rw [← eb]; exact cut_zero w
    rw [this] at q
    first | exact q | exact ⟨[], rfl, q⟩
  · rw [decide_eq_false e]
    try simp only [↓S_nil, ↓S_cons, ↓S_pass, ↓S_asg, ↓S_asgt, ↓S_par2, ↓S_par3, ↓S_subT, ↓S_expr, ↓S_ret, ↓S_retN, ↓S_ifs, ↓E_var, ↓E_cint, ↓E_cstr, ↓E_cbl, ↓E_cnon, ↓E_glob, ↓E_bin, ↓E_neg, ↓E_cmp, ↓E_chain, ↓E_andn, ↓E_orn, ↓E_notn, ↓E_ife, ↓E_tupn, ↓E_lstn, ↓E_dnew, ↓E_blt, ↓E_meth, ↓E_mut, ↓E_idx, ↓E_slc, ↓E_isi, ↓T_var, ↓T_cint, ↓T_cstr, ↓T_cbl, ↓T_glob, ↓T_bin, ↓T_cmp, ↓T_neg, ↓T_chain, ↓T_call, ↓T_blt, ↓T_meth, ↓T_idx, ↓T_slc, ↓T_isi, ↓T_comp, ↓T_tupn, ↓T_lstn, ↓T_andn, ↓T_orn, ↓T_notn, ↓T_ife, ↓T_nil, ↓O_nil, ↓O_var, ↓O_cint, ↓O_neg, ↓O_bin, ↓O_blt, ↓O_glob, ↓A_nil, ↓A_cons, ↓B_nil, ↓B_cons, ↓C_nil, ↓C_io, ↓C_im, ↓rd_im, ↓rd_fr, ↓rd_bo, ↓fz_im, ↓fz_fr, ↓fz_bo, ↓rds_nil, ↓rds_cons, ↓ret_im, ↓ret_fr, ↓ret_bo, ↓rdC_nil, ↓rdC_im, ↓rdC_fr, ↓rdC_bo, bos_nil, bos_im, bos_fr, bos_bo, nd_nil, nd_one, ↓putB_nil, ↓putB_im, ↓putB_fr, ↓putB_bo, ↓ex_some, ↓ex_int, ↓post_nx, ↓post_rt, tru_bl, tru_int, tru_lst, tru_tup, tru_non, cmp_eq_int, cmp_ne_int, cmp_lt_int, cmp_le_int, cmp_gt_int, cmp_ge_int, cmp_lt_str, finsE, env0, List.getElem?_cons_zero, List.getElem?_cons_succ, List.length_cons, List.length_nil, List.replicate, List.cons_append, List.nil_append, List.append_nil, reduceIte, Bool.not_true, Bool.not_false, Bool.false_eq_true, if_true, if_false, true_and, and_true, ite_true, ite_false, Option.map_some, List.set_cons_zero, List.set_cons_succ, dIsi, dBlt, dd_len, un, u_len, webD, dIdx, at0, List.length_map]
    by_cases f : ys.length = w.ps.length
    · rw [show ((ys.length : Int) == (w.ps.length : Int)) = true by rw [f]; exact beq_self_eq_true _]
      try simp only [↓S_nil, ↓S_cons, ↓S_pass, ↓S_asg, ↓S_asgt, ↓S_par2, ↓S_par3, ↓S_subT, ↓S_expr, ↓S_ret, ↓S_retN, ↓S_ifs, ↓E_var, ↓E_cint, ↓E_cstr, ↓E_cbl, ↓E_cnon, ↓E_glob, ↓E_bin, ↓E_neg, ↓E_cmp, ↓E_chain, ↓E_andn, ↓E_orn, ↓E_notn, ↓E_ife, ↓E_tupn, ↓E_lstn, ↓E_dnew, ↓E_blt, ↓E_meth, ↓E_mut, ↓E_idx, ↓E_slc, ↓E_isi, ↓T_var, ↓T_cint, ↓T_cstr, ↓T_cbl, ↓T_glob, ↓T_bin, ↓T_cmp, ↓T_neg, ↓T_chain, ↓T_call, ↓T_blt, ↓T_meth, ↓T_idx, ↓T_slc, ↓T_isi, ↓T_comp, ↓T_tupn, ↓T_lstn, ↓T_andn, ↓T_orn, ↓T_notn, ↓T_ife, ↓T_nil, ↓O_nil, ↓O_var, ↓O_cint, ↓O_neg, ↓O_bin, ↓O_blt, ↓O_glob, ↓A_nil, ↓A_cons, ↓B_nil, ↓B_cons, ↓C_nil, ↓C_io, ↓C_im, ↓rd_im, ↓rd_fr, ↓rd_bo, ↓fz_im, ↓fz_fr, ↓fz_bo, ↓rds_nil, ↓rds_cons, ↓ret_im, ↓ret_fr, ↓ret_bo, ↓rdC_nil, ↓rdC_im, ↓rdC_fr, ↓rdC_bo, bos_nil, bos_im, bos_fr, bos_bo, nd_nil, nd_one, ↓putB_nil, ↓putB_im, ↓putB_fr, ↓putB_bo, ↓ex_some, ↓ex_int, ↓post_nx, ↓post_rt, tru_bl, tru_int, tru_lst, tru_tup, tru_non, cmp_eq_int, cmp_ne_int, cmp_lt_int, cmp_le_int, cmp_gt_int, cmp_ge_int, cmp_lt_str, finsE, env0, List.getElem?_cons_zero, List.getElem?_cons_succ, List.length_cons, List.length_nil, List.replicate, List.cons_append, List.nil_append, List.append_nil, reduceIte, Bool.not_true, Bool.not_false, Bool.false_eq_true, if_true, if_false, true_and, and_true, ite_true, ite_false, Option.map_some, List.set_cons_zero, List.set_cons_succ, dIsi]
      have : cut w (inB l) = 0 := by
        rw [← eb, ← cut_one w]
        exact cut_congr ok.rows fun x hx => decide_eq_true (nodup_all up.nodup ym (by omega) x hx)
      rw [this] at q
      first | exact q | exact ⟨[], rfl, q⟩
    · rw [show ((ys.length : Int) == (w.ps.length : Int)) = false by rw [beq_eq_false_iff_ne]; omega]
      try simp only [↓S_nil, ↓S_cons, ↓S_pass, ↓S_asg, ↓S_asgt, ↓S_par2, ↓S_par3, ↓S_subT, ↓S_expr, ↓S_ret, ↓S_retN, ↓S_ifs, ↓E_var, ↓E_cint, ↓E_cstr, ↓E_cbl, ↓E_cnon, ↓E_glob, ↓E_bin, ↓E_neg, ↓E_cmp, ↓E_chain, ↓E_andn, ↓E_orn, ↓E_notn, ↓E_ife, ↓E_tupn, ↓E_lstn, ↓E_dnew, ↓E_blt, ↓E_meth, ↓E_mut, ↓E_idx, ↓E_slc, ↓E_isi, ↓T_var, ↓T_cint, ↓T_cstr, ↓T_cbl, ↓T_glob, ↓T_bin, ↓T_cmp, ↓T_neg, ↓T_chain, ↓T_call, ↓T_blt, ↓T_meth, ↓T_idx, ↓T_slc, ↓T_isi, ↓T_comp, ↓T_tupn, ↓T_lstn, ↓T_andn, ↓T_orn, ↓T_notn, ↓T_ife, ↓T_nil, ↓O_nil, ↓O_var, ↓O_cint, ↓O_neg, ↓O_bin, ↓O_blt, ↓O_glob, ↓A_nil, ↓A_cons, ↓B_nil, ↓B_cons, ↓C_nil, ↓C_io, ↓C_im, ↓rd_im, ↓rd_fr, ↓rd_bo, ↓fz_im, ↓fz_fr, ↓fz_bo, ↓rds_nil, ↓rds_cons, ↓ret_im, ↓ret_fr, ↓ret_bo, ↓rdC_nil, ↓rdC_im, ↓rdC_fr, ↓rdC_bo, bos_nil, bos_im, bos_fr, bos_bo, nd_nil, nd_one, ↓putB_nil, ↓putB_im, ↓putB_fr, ↓putB_bo, ↓ex_some, ↓ex_int, ↓post_nx, ↓post_rt, tru_bl, tru_int, tru_lst, tru_tup, tru_non, cmp_eq_int, cmp_ne_int, cmp_lt_int, cmp_le_int, cmp_gt_int, cmp_ge_int, cmp_lt_str, finsE, env0, List.getElem?_cons_zero, List.getElem?_cons_succ, List.length_cons, List.length_nil, List.replicate, List.cons_append, List.nil_append, List.append_nil, reduceIte, Bool.not_true, Bool.not_false, Bool.false_eq_true, if_true, if_false, true_and, and_true, ite_true, ite_false, Option.map_some, List.set_cons_zero, List.set_cons_succ, dIsi]
      rw [hnx]
      try simp only [↓S_nil, ↓S_cons, ↓S_pass, ↓S_asg, ↓S_asgt, ↓S_par2, ↓S_par3, ↓S_subT, ↓S_expr, ↓S_ret, ↓S_retN, ↓S_ifs, ↓E_var, ↓E_cint, ↓E_cstr, ↓E_cbl, ↓E_cnon, ↓E_glob, ↓E_bin, ↓E_neg, ↓E_cmp, ↓E_chain, ↓E_andn, ↓E_orn, ↓E_notn, ↓E_ife, ↓E_tupn, ↓E_lstn, ↓E_dnew, ↓E_blt, ↓E_meth, ↓E_mut, ↓E_idx, ↓E_slc, ↓E_isi, ↓T_var, ↓T_cint, ↓T_cstr, ↓T_cbl, ↓T_glob, ↓T_bin, ↓T_cmp, ↓T_neg, ↓T_chain, ↓T_call, ↓T_blt, ↓T_meth, ↓T_idx, ↓T_slc, ↓T_isi, ↓T_comp, ↓T_tupn, ↓T_lstn, ↓T_andn, ↓T_orn, ↓T_notn, ↓T_ife, ↓T_nil, ↓O_nil, ↓O_var, ↓O_cint, ↓O_neg, ↓O_bin, ↓O_blt, ↓O_glob, ↓A_nil, ↓A_cons, ↓B_nil, ↓B_cons, ↓C_nil, ↓C_io, ↓C_im, ↓rd_im, ↓rd_fr, ↓rd_bo, ↓fz_im, ↓fz_fr, ↓fz_bo, ↓rds_nil, ↓rds_cons, ↓ret_im, ↓ret_fr, ↓ret_bo, ↓rdC_nil, ↓rdC_im, ↓rdC_fr, ↓rdC_bo, bos_nil, bos_im, bos_fr, bos_bo, nd_nil, nd_one, ↓putB_nil, ↓putB_im, ↓putB_fr, ↓putB_bo, ↓ex_some, ↓ex_int, ↓post_nx, ↓post_rt, tru_bl, tru_int, tru_lst, tru_tup, tru_non, cmp_eq_int, cmp_ne_int, cmp_lt_int, cmp_le_int, cmp_gt_int, cmp_ge_int, cmp_lt_str, finsE, env0, List.getElem?_cons_zero, List.getElem?_cons_succ, List.length_cons, List.length_nil, List.replicate, List.cons_append, List.nil_append, List.append_nil, reduceIte, Bool.not_true, Bool.not_false, Bool.false_eq_true, if_true, if_false, true_and, and_true, ite_true, ite_false, Option.map_some, List.set_cons_zero, List.set_cons_succ, dIsi, ↓E_call' h1, fi_lot_room, fnWL]
      have : ys.length ≤ w.ps.length := nodup_le up.nodup ym
      refine ⟨w, ys, rfl, ok, fun _ => ⟨e, by omega, ym, up⟩, ?_⟩
      have e2 : roomSum w ys = cut w (inB l) := (roomSum_cut w ys).trans (by rw [← eb]; rfl)
      simp only [e2]
      first | exact q | exact ⟨[], rfl, q⟩
end LW
end
section
namespace LW
open PySem TG
theorem mem_rest {w : Web} {l : List Str} {x : Str} : x ∈ restOf w l ↔ x ∈ w.ps ∧ x ∉ l := by
  unfold restOf
  rw [List.mem_filter]
  simp
theorem rest_rising {w : Web} (ok : WebOk w) (l : List Str) : Rising (restOf w l) := List.Pairwise.sublist List.filter_sublist ok.up
theorem rest_lot {w : Web} {l : List Str} (ok : WebOk w) (lo : LotOk w l) : LotOk w (restOf w l) := by
  obtain ⟨ne, lt, mem, up⟩ := lo
  refine ⟨fun e => ?_, ?_, fun p hp => (mem_rest.mp hp).1, rest_rising ok l⟩
  · have : ∀ x ∈ w.ps, x ∈ l := fun x hx => Classical.byContradiction fun n => by
      have := mem_rest.mpr ⟨hx, n⟩
      rw [e] at this
      exact absurd this List.not_mem_nil
    have := nodup_le ok.up.nodup this
    omega
  · have h1 := nodup_le (rest_rising ok l).nodup fun x hx => (mem_rest.mp hx).1
    refine Classical.byContradiction fun n => ?_
    have := nodup_all (rest_rising ok l).nodup (fun x hx => (mem_rest.mp hx).1) (by omega : w.ps.length ≤ (restOf w l).length)
    cases l with
    | nil => exact ne rfl
    | cons p l => exact (mem_rest.mp (this p (mem p List.mem_cons_self))).2 List.mem_cons_self
theorem rest_rest {w : Web} {l : List Str} (ok : WebOk w) (lo : LotOk w l) : restOf w (restOf w l) = l :=
  rising_eq (rest_rising ok _) lo.2.2.2 fun x => by
    rw [mem_rest, mem_rest]
    constructor
    · rintro ⟨h1, h2⟩
      exact Classical.byContradiction fun n => h2 ⟨h1, n⟩
    · exact fun h => ⟨lo.2.2.1 x h, fun h' => h'.2 h⟩
theorem leav_rest {w : Web} {l : List Str} {r : Row} (h : RowOk w.ps r) : leav (restOf w l) r = leav l r := by
  have e : ∀ x, x ∈ w.ps → decide (x ∈ restOf w l) = !decide (x ∈ l) := fun x hx => by
    rw [Bool.eq_iff_iff, decide_eq_true_iff, mem_rest]
    simp [hx]
  unfold leav
  rw [e _ h.a, e _ h.b]
  cases decide (r.a ∈ l) <;> cases decide (r.b ∈ l) <;> rfl
theorem rows_rest {w : Web} (ok : WebOk w) (l : List Str) : rowsOf w (restOf w l) = rowsOf w l := by
  unfold rowsOf
  exact List.filter_congr fun r hr => leav_rest (ok.rows r hr)
theorem ts_names {w : Web} (ok : WebOk w) (l : List Str) : ∀ x ∈ (rowsOf w l).map (·.t), NameOk x := fun x hx => by
  obtain ⟨r, hr, rfl⟩ := List.mem_map.mp hx
  exact (ok.rows r ((List.mem_filter.mp hr).1)).t
section
variable {κ α : Type} [DecidableEq κ]
theorem dput_new {kvs : List (κ × α)} {k : κ} {v : α} (h : ∀ kv ∈ kvs, kv.1 ≠ k) : dput kvs k v = kvs ++ [(k, v)] := by
  unfold dput
  rw [if_neg]
  rw [List.any_eq_true]
  rintro ⟨kv, hm, e⟩
  exact h kv hm (of_decide_eq_true e)
theorem dmerge_new : ∀ {more kvs : List (κ × α)}, (more.map (·.1)).Nodup → (∀ kv ∈ more, ∀ kv' ∈ kvs, kv'.1 ≠ kv.1) → dmerge kvs more = kvs ++ more
  | [], kvs, _, _ => (List.append_nil _).symm
  | kv :: more, kvs, nd, h => by
    obtain ⟨n1, n2⟩ := List.nodup_cons.mp nd
    show dmerge (dput kvs kv.1 kv.2) more = _
    rw [dput_new (h kv List.mem_cons_self), dmerge_new n2 fun x hx y hy => ?_, List.append_assoc]
    · rfl
    · rcases List.mem_append.mp hy with hy | hy
      · exact h x (List.mem_cons_of_mem _ hx) y hy
      · rw [List.mem_singleton.mp hy]
        exact fun e => n1 (List.mem_map.mpr ⟨x, hx, e.symm⟩)
theorem dmerge_nil {more : List (κ × α)} (nd : (more.map (·.1)).Nodup) : dmerge [] more = more := dmerge_new nd fun _ _ _ h => nomatch h
theorem dval_mem : ∀ {kvs : List (κ × α)} {k : κ} {v : α}, (kvs.map (·.1)).Nodup → (k, v) ∈ kvs → dval kvs k = some v
  | [], _, _, _, h => nomatch h
  | kv :: kvs, k, v, nd, h => by
    obtain ⟨n1, n2⟩ := List.nodup_cons.mp nd
    unfold dval
    rw [List.find?_cons]
    rcases List.mem_cons.mp h with e | h
    · subst e; simp
    · have : kv.1 ≠ k := fun e => n1 (List.mem_map.mpr ⟨_, h, e.symm⟩)
      rw [decide_eq_false this]
      exact dval_mem n2 h
end
def rkv (r : Row) : (Int ⊕ Str) × D := (.inr r.t, .int r.r)
def rowP : D → Option D
  | .tup [x, _, _, y] => some (.tup [x, y])
  | _ => none
theorem pairs_rows : ∀ rows : List Row, pairsD (rows.map fun r => D.tup [.str r.t, .int r.r]) = some (rows.map rkv)
  | [] => rfl
  | r :: rows => by
    rw [List.map_cons, pairsD, pairs_rows rows]; rfl
theorem keys_nodup {w : Web} (ok : WebOk w) : ((w.rows.map rkv).map (·.1)).Nodup := by
  have := ok.ts.nodup
  rw [List.map_map]
  refine List.pairwise_map.mpr (List.Pairwise.imp (fun h e => h ?_) (List.pairwise_map.mp this))
  exact Sum.inr.inj e
def lookR (w : Web) : D → Option D
  | .str x => dval (w.rows.map rkv) (.inr x)
  | _ => none
theorem look_rows {w : Web} (ok : WebOk w) (l : List Str) : ((rowsOf w l).map fun r => D.str r.t).filterMap (lookR w) = (rowsOf w l).map fun r => .int r.r := by
  have : ∀ rows : List Row, (∀ r ∈ rows, r ∈ w.rows) → (rows.map fun r => D.str r.t).filterMap (lookR w) = rows.map fun r => .int r.r := fun rows => by
    induction rows with
    | nil => intro _; rfl
    | cons r rows ih =>
      intro h
      rw [List.map_cons, List.filterMap_cons, show lookR w (.str r.t) = some (.int r.r) from dval_mem (keys_nodup ok) (List.mem_map.mpr ⟨r, h r List.mem_cons_self, rfl⟩), ih fun x hx => h x (List.mem_cons_of_mem _ hx)]
      rfl
  exact this _ fun r hr => (List.mem_filter.mp hr).1
def fi__law_sides_right : FI := { io := [false, false], sp := fun ds Q _ => ∃ w l, ds = [webD w, lotD l] ∧ WebOk w ∧ LotOk w l ∧ Q (.im (.bl true)) [] }
theorem k__law_sides_right (Γ : Ga) (h1 : Γ.fn "other_side" = some fi_other_side) (h2 : Γ.fn "ties_of" = some fi_ties_of) (h3 : Γ.fn "lot_room" = some fi_lot_room) : Keeps Γ 6 sm__law_sides_right fi__law_sides_right := by
  rintro ds Q E ⟨w, l, rfl, ok, lo, q⟩
  refine ⟨rfl, by decide, ?_⟩
  have sz : 16777216 ≤ sizeLine := by rw [PySem.sizeLine_eq]; omega
  have fo := rest_lot ok lo
  have ln : ∀ x ∈ l, NameOk x := fun x hx => ok.nm x (lo.2.2.1 x hx)
  have wr := ok.rl
  unfold sm__law_sides_right
  refine S_seq fun nx hnx => ?_
  try simp only [fi__law_sides_right, ↓S_nil, ↓S_cons, ↓S_pass, ↓S_asg, ↓S_asgt, ↓S_par2, ↓S_par3, ↓S_subT, ↓S_expr, ↓S_ret, ↓S_retN, ↓S_ifs, ↓E_var, ↓E_cint, ↓E_cstr, ↓E_cbl, ↓E_cnon, ↓E_glob, ↓E_bin, ↓E_neg, ↓E_cmp, ↓E_chain, ↓E_andn, ↓E_orn, ↓E_notn, ↓E_ife, ↓E_tupn, ↓E_lstn, ↓E_dnew, ↓E_blt, ↓E_meth, ↓E_mut, ↓E_idx, ↓E_slc, ↓E_isi, ↓T_var, ↓T_cint, ↓T_cstr, ↓T_cbl, ↓T_glob, ↓T_bin, ↓T_cmp, ↓T_neg, ↓T_chain, ↓T_call, ↓T_blt, ↓T_meth, ↓T_idx, ↓T_slc, ↓T_isi, ↓T_comp, ↓T_tupn, ↓T_lstn, ↓T_andn, ↓T_orn, ↓T_notn, ↓T_ife, ↓T_nil, ↓O_nil, ↓O_var, ↓O_cint, ↓O_neg, ↓O_bin, ↓O_blt, ↓O_glob, ↓A_nil, ↓A_cons, ↓B_nil, ↓B_cons, ↓C_nil, ↓C_io, ↓C_im, ↓rd_im, ↓rd_fr, ↓rd_bo, ↓fz_im, ↓fz_fr, ↓fz_bo, ↓rds_nil, ↓rds_cons, ↓ret_im, ↓ret_fr, ↓ret_bo, ↓rdC_nil, ↓rdC_im, ↓rdC_fr, ↓rdC_bo, bos_nil, bos_im, bos_fr, bos_bo, nd_nil, nd_one, ↓putB_nil, ↓putB_im, ↓putB_fr, ↓putB_bo, ↓ex_some, ↓ex_int, ↓post_nx, ↓post_rt, tru_bl, tru_int, tru_lst, tru_tup, tru_non, cmp_eq_int, cmp_ne_int, cmp_lt_int, cmp_le_int, cmp_gt_int, cmp_ge_int, cmp_lt_str, finsE, env0, List.getElem?_cons_zero, List.getElem?_cons_succ, List.length_cons, List.length_nil, List.replicate, List.cons_append, List.nil_append, List.append_nil, reduceIte, Bool.not_true, Bool.not_false, Bool.false_eq_true, if_true, if_false, true_and, and_true, ite_true, ite_false, Option.map_some, List.set_cons_zero, List.set_cons_succ, dIsi, ↓E_call' h1, fi_other_side, fnWL]
  refine ⟨w, l, rfl, ok, fun _ => lo, ?_⟩
  try simp only [↓S_nil, ↓S_cons, ↓S_pass, ↓S_asg, ↓S_asgt, ↓S_par2, ↓S_par3, ↓S_subT, ↓S_expr, ↓S_ret, ↓S_retN, ↓S_ifs, ↓E_var, ↓E_cint, ↓E_cstr, ↓E_cbl, ↓E_cnon, ↓E_glob, ↓E_bin, ↓E_neg, ↓E_cmp, ↓E_chain, ↓E_andn, ↓E_orn, ↓E_notn, ↓E_ife, ↓E_tupn, ↓E_lstn, ↓E_dnew, ↓E_blt, ↓E_meth, ↓E_mut, ↓E_idx, ↓E_slc, ↓E_isi, ↓T_var, ↓T_cint, ↓T_cstr, ↓T_cbl, ↓T_glob, ↓T_bin, ↓T_cmp, ↓T_neg, ↓T_chain, ↓T_call, ↓T_blt, ↓T_meth, ↓T_idx, ↓T_slc, ↓T_isi, ↓T_comp, ↓T_tupn, ↓T_lstn, ↓T_andn, ↓T_orn, ↓T_notn, ↓T_ife, ↓T_nil, ↓O_nil, ↓O_var, ↓O_cint, ↓O_neg, ↓O_bin, ↓O_blt, ↓O_glob, ↓A_nil, ↓A_cons, ↓B_nil, ↓B_cons, ↓C_nil, ↓C_io, ↓C_im, ↓rd_im, ↓rd_fr, ↓rd_bo, ↓fz_im, ↓fz_fr, ↓fz_bo, ↓rds_nil, ↓rds_cons, ↓ret_im, ↓ret_fr, ↓ret_bo, ↓rdC_nil, ↓rdC_im, ↓rdC_fr, ↓rdC_bo, bos_nil, bos_im, bos_fr, bos_bo, nd_nil, nd_one, ↓putB_nil, ↓putB_im, ↓putB_fr, ↓putB_bo, ↓ex_some, ↓ex_int, ↓post_nx, ↓post_rt, tru_bl, tru_int, tru_lst, tru_tup, tru_non, cmp_eq_int, cmp_ne_int, cmp_lt_int, cmp_le_int, cmp_gt_int, cmp_ge_int, cmp_lt_str, finsE, env0, List.getElem?_cons_zero, List.getElem?_cons_succ, List.length_cons, List.length_nil, List.replicate, List.cons_append, List.nil_append, List.append_nil, reduceIte, Bool.not_true, Bool.not_false, Bool.false_eq_true, if_true, if_false, true_and, and_true, ite_true, ite_false, Option.map_some, List.set_cons_zero, List.set_cons_succ, dIsi, stS]
  rw [hnx]
  refine S_seq fun nx hnx => ?_
  try simp only [↓S_nil, ↓S_cons, ↓S_pass, ↓S_asg, ↓S_asgt, ↓S_par2, ↓S_par3, ↓S_subT, ↓S_expr, ↓S_ret, ↓S_retN, ↓S_ifs, ↓E_var, ↓E_cint, ↓E_cstr, ↓E_cbl, ↓E_cnon, ↓E_glob, ↓E_bin, ↓E_neg, ↓E_cmp, ↓E_chain, ↓E_andn, ↓E_orn, ↓E_notn, ↓E_ife, ↓E_tupn, ↓E_lstn, ↓E_dnew, ↓E_blt, ↓E_meth, ↓E_mut, ↓E_idx, ↓E_slc, ↓E_isi, ↓T_var, ↓T_cint, ↓T_cstr, ↓T_cbl, ↓T_glob, ↓T_bin, ↓T_cmp, ↓T_neg, ↓T_chain, ↓T_call, ↓T_blt, ↓T_meth, ↓T_idx, ↓T_slc, ↓T_isi, ↓T_comp, ↓T_tupn, ↓T_lstn, ↓T_andn, ↓T_orn, ↓T_notn, ↓T_ife, ↓T_nil, ↓O_nil, ↓O_var, ↓O_cint, ↓O_neg, ↓O_bin, ↓O_blt, ↓O_glob, ↓A_nil, ↓A_cons, ↓B_nil, ↓B_cons, ↓C_nil, ↓C_io, ↓C_im, ↓rd_im, ↓rd_fr, ↓rd_bo, ↓fz_im, ↓fz_fr, ↓fz_bo, ↓rds_nil, ↓rds_cons, ↓ret_im, ↓ret_fr, ↓ret_bo, ↓rdC_nil, ↓rdC_im, ↓rdC_fr, ↓rdC_bo, bos_nil, bos_im, bos_fr, bos_bo, nd_nil, nd_one, ↓putB_nil, ↓putB_im, ↓putB_fr, ↓putB_bo, ↓ex_some, ↓ex_int, ↓post_nx, ↓post_rt, tru_bl, tru_int, tru_lst, tru_tup, tru_non, cmp_eq_int, cmp_ne_int, cmp_lt_int, cmp_le_int, cmp_gt_int, cmp_ge_int, cmp_lt_str, finsE, env0, List.getElem?_cons_zero, List.getElem?_cons_succ, List.length_cons, List.length_nil, List.replicate, List.cons_append, List.nil_append, List.append_nil, reduceIte, Bool.not_true, Bool.not_false, Bool.false_eq_true, if_true, if_false, true_and, and_true, ite_true, ite_false, Option.map_some, List.set_cons_zero, List.set_cons_succ, dIsi, ↓E_call' h1, fi_other_side, fnWL]
  refine ⟨w, restOf w l, rfl, ok, fun _ => fo, ?_⟩
  rw [rest_rest ok lo]
  try simp only [lotD, ↓S_nil, ↓S_cons, ↓S_pass, ↓S_asg, ↓S_asgt, ↓S_par2, ↓S_par3, ↓S_subT, ↓S_expr, ↓S_ret, ↓S_retN, ↓S_ifs, ↓E_var, ↓E_cint, ↓E_cstr, ↓E_cbl, ↓E_cnon, ↓E_glob, ↓E_bin, ↓E_neg, ↓E_cmp, ↓E_chain, ↓E_andn, ↓E_orn, ↓E_notn, ↓E_ife, ↓E_tupn, ↓E_lstn, ↓E_dnew, ↓E_blt, ↓E_meth, ↓E_mut, ↓E_idx, ↓E_slc, ↓E_isi, ↓T_var, ↓T_cint, ↓T_cstr, ↓T_cbl, ↓T_glob, ↓T_bin, ↓T_cmp, ↓T_neg, ↓T_chain, ↓T_call, ↓T_blt, ↓T_meth, ↓T_idx, ↓T_slc, ↓T_isi, ↓T_comp, ↓T_tupn, ↓T_lstn, ↓T_andn, ↓T_orn, ↓T_notn, ↓T_ife, ↓T_nil, ↓O_nil, ↓O_var, ↓O_cint, ↓O_neg, ↓O_bin, ↓O_blt, ↓O_glob, ↓A_nil, ↓A_cons, ↓B_nil, ↓B_cons, ↓C_nil, ↓C_io, ↓C_im, ↓rd_im, ↓rd_fr, ↓rd_bo, ↓fz_im, ↓fz_fr, ↓fz_bo, ↓rds_nil, ↓rds_cons, ↓ret_im, ↓ret_fr, ↓ret_bo, ↓rdC_nil, ↓rdC_im, ↓rdC_fr, ↓rdC_bo, bos_nil, bos_im, bos_fr, bos_bo, nd_nil, nd_one, ↓putB_nil, ↓putB_im, ↓putB_fr, ↓putB_bo, ↓ex_some, ↓ex_int, ↓post_nx, ↓post_rt, tru_bl, tru_int, tru_lst, tru_tup, tru_non, cmp_eq_int, cmp_ne_int, cmp_lt_int, cmp_le_int, cmp_gt_int, cmp_ge_int, cmp_lt_str, finsE, env0, List.getElem?_cons_zero, List.getElem?_cons_succ, List.length_cons, List.length_nil, List.replicate, List.cons_append, List.nil_append, List.append_nil, reduceIte, Bool.not_true, Bool.not_false, Bool.false_eq_true, if_true, if_false, true_and, and_true, ite_true, ite_false, Option.map_some, List.set_cons_zero, List.set_cons_succ, dIsi, cmp_ne_strs ln ln, decide_true]
  try simp only [↓S_nil, ↓S_cons, ↓S_pass, ↓S_asg, ↓S_asgt, ↓S_par2, ↓S_par3, ↓S_subT, ↓S_expr, ↓S_ret, ↓S_retN, ↓S_ifs, ↓E_var, ↓E_cint, ↓E_cstr, ↓E_cbl, ↓E_cnon, ↓E_glob, ↓E_bin, ↓E_neg, ↓E_cmp, ↓E_chain, ↓E_andn, ↓E_orn, ↓E_notn, ↓E_ife, ↓E_tupn, ↓E_lstn, ↓E_dnew, ↓E_blt, ↓E_meth, ↓E_mut, ↓E_idx, ↓E_slc, ↓E_isi, ↓T_var, ↓T_cint, ↓T_cstr, ↓T_cbl, ↓T_glob, ↓T_bin, ↓T_cmp, ↓T_neg, ↓T_chain, ↓T_call, ↓T_blt, ↓T_meth, ↓T_idx, ↓T_slc, ↓T_isi, ↓T_comp, ↓T_tupn, ↓T_lstn, ↓T_andn, ↓T_orn, ↓T_notn, ↓T_ife, ↓T_nil, ↓O_nil, ↓O_var, ↓O_cint, ↓O_neg, ↓O_bin, ↓O_blt, ↓O_glob, ↓A_nil, ↓A_cons, ↓B_nil, ↓B_cons, ↓C_nil, ↓C_io, ↓C_im, ↓rd_im, ↓rd_fr, ↓rd_bo, ↓fz_im, ↓fz_fr, ↓fz_bo, ↓rds_nil, ↓rds_cons, ↓ret_im, ↓ret_fr, ↓ret_bo, ↓rdC_nil, ↓rdC_im, ↓rdC_fr, ↓rdC_bo, bos_nil, bos_im, bos_fr, bos_bo, nd_nil, nd_one, ↓putB_nil, ↓putB_im, ↓putB_fr, ↓putB_bo, ↓ex_some, ↓ex_int, ↓post_nx, ↓post_rt, tru_bl, tru_int, tru_lst, tru_tup, tru_non, cmp_eq_int, cmp_ne_int, cmp_lt_int, cmp_le_int, cmp_gt_int, cmp_ge_int, cmp_lt_str, finsE, env0, List.getElem?_cons_zero, List.getElem?_cons_succ, List.length_cons, List.length_nil, List.replicate, List.cons_append, List.nil_append, List.append_nil, reduceIte, Bool.not_true, Bool.not_false, Bool.false_eq_true, if_true, if_false, true_and, and_true, ite_true, ite_false, Option.map_some, List.set_cons_zero, List.set_cons_succ, dIsi, ↓E_call' h2, fi_ties_of, fnWL]
  refine ⟨w, restOf w l, rfl, ok, fun _ => fo, ?_⟩
  try simp only [↓S_nil, ↓S_cons, ↓S_pass, ↓S_asg, ↓S_asgt, ↓S_par2, ↓S_par3, ↓S_subT, ↓S_expr, ↓S_ret, ↓S_retN, ↓S_ifs, ↓E_var, ↓E_cint, ↓E_cstr, ↓E_cbl, ↓E_cnon, ↓E_glob, ↓E_bin, ↓E_neg, ↓E_cmp, ↓E_chain, ↓E_andn, ↓E_orn, ↓E_notn, ↓E_ife, ↓E_tupn, ↓E_lstn, ↓E_dnew, ↓E_blt, ↓E_meth, ↓E_mut, ↓E_idx, ↓E_slc, ↓E_isi, ↓T_var, ↓T_cint, ↓T_cstr, ↓T_cbl, ↓T_glob, ↓T_bin, ↓T_cmp, ↓T_neg, ↓T_chain, ↓T_call, ↓T_blt, ↓T_meth, ↓T_idx, ↓T_slc, ↓T_isi, ↓T_comp, ↓T_tupn, ↓T_lstn, ↓T_andn, ↓T_orn, ↓T_notn, ↓T_ife, ↓T_nil, ↓O_nil, ↓O_var, ↓O_cint, ↓O_neg, ↓O_bin, ↓O_blt, ↓O_glob, ↓A_nil, ↓A_cons, ↓B_nil, ↓B_cons, ↓C_nil, ↓C_io, ↓C_im, ↓rd_im, ↓rd_fr, ↓rd_bo, ↓fz_im, ↓fz_fr, ↓fz_bo, ↓rds_nil, ↓rds_cons, ↓ret_im, ↓ret_fr, ↓ret_bo, ↓rdC_nil, ↓rdC_im, ↓rdC_fr, ↓rdC_bo, bos_nil, bos_im, bos_fr, bos_bo, nd_nil, nd_one, ↓putB_nil, ↓putB_im, ↓putB_fr, ↓putB_bo, ↓ex_some, ↓ex_int, ↓post_nx, ↓post_rt, tru_bl, tru_int, tru_lst, tru_tup, tru_non, cmp_eq_int, cmp_ne_int, cmp_lt_int, cmp_le_int, cmp_gt_int, cmp_ge_int, cmp_lt_str, finsE, env0, List.getElem?_cons_zero, List.getElem?_cons_succ, List.length_cons, List.length_nil, List.replicate, List.cons_append, List.nil_append, List.append_nil, reduceIte, Bool.not_true, Bool.not_false, Bool.false_eq_true, if_true, if_false, true_and, and_true, ite_true, ite_false, Option.map_some, List.set_cons_zero, List.set_cons_succ, dIsi, ↓E_call' h2, fi_ties_of, fnWL]
  refine ⟨w, l, rfl, ok, fun _ => lo, ?_⟩
  rw [rows_rest ok]
  try simp only [lotD, ↓S_nil, ↓S_cons, ↓S_pass, ↓S_asg, ↓S_asgt, ↓S_par2, ↓S_par3, ↓S_subT, ↓S_expr, ↓S_ret, ↓S_retN, ↓S_ifs, ↓E_var, ↓E_cint, ↓E_cstr, ↓E_cbl, ↓E_cnon, ↓E_glob, ↓E_bin, ↓E_neg, ↓E_cmp, ↓E_chain, ↓E_andn, ↓E_orn, ↓E_notn, ↓E_ife, ↓E_tupn, ↓E_lstn, ↓E_dnew, ↓E_blt, ↓E_meth, ↓E_mut, ↓E_idx, ↓E_slc, ↓E_isi, ↓T_var, ↓T_cint, ↓T_cstr, ↓T_cbl, ↓T_glob, ↓T_bin, ↓T_cmp, ↓T_neg, ↓T_chain, ↓T_call, ↓T_blt, ↓T_meth, ↓T_idx, ↓T_slc, ↓T_isi, ↓T_comp, ↓T_tupn, ↓T_lstn, ↓T_andn, ↓T_orn, ↓T_notn, ↓T_ife, ↓T_nil, ↓O_nil, ↓O_var, ↓O_cint, ↓O_neg, ↓O_bin, ↓O_blt, ↓O_glob, ↓A_nil, ↓A_cons, ↓B_nil, ↓B_cons, ↓C_nil, ↓C_io, ↓C_im, ↓rd_im, ↓rd_fr, ↓rd_bo, ↓fz_im, ↓fz_fr, ↓fz_bo, ↓rds_nil, ↓rds_cons, ↓ret_im, ↓ret_fr, ↓ret_bo, ↓rdC_nil, ↓rdC_im, ↓rdC_fr, ↓rdC_bo, bos_nil, bos_im, bos_fr, bos_bo, nd_nil, nd_one, ↓putB_nil, ↓putB_im, ↓putB_fr, ↓putB_bo, ↓ex_some, ↓ex_int, ↓post_nx, ↓post_rt, tru_bl, tru_int, tru_lst, tru_tup, tru_non, cmp_eq_int, cmp_ne_int, cmp_lt_int, cmp_le_int, cmp_gt_int, cmp_ge_int, cmp_lt_str, finsE, env0, List.getElem?_cons_zero, List.getElem?_cons_succ, List.length_cons, List.length_nil, List.replicate, List.cons_append, List.nil_append, List.append_nil, reduceIte, Bool.not_true, Bool.not_false, Bool.false_eq_true, if_true, if_false, true_and, and_true, ite_true, ite_false, Option.map_some, List.set_cons_zero, List.set_cons_succ, dIsi, cmp_ne_strs (ts_names ok l) (ts_names ok l), decide_true]
  rw [hnx]
  refine S_seq fun nx hnx => ?_
  try simp only [webD, ↓S_nil, ↓S_cons, ↓S_pass, ↓S_asg, ↓S_asgt, ↓S_par2, ↓S_par3, ↓S_subT, ↓S_expr, ↓S_ret, ↓S_retN, ↓S_ifs, ↓E_var, ↓E_cint, ↓E_cstr, ↓E_cbl, ↓E_cnon, ↓E_glob, ↓E_bin, ↓E_neg, ↓E_cmp, ↓E_chain, ↓E_andn, ↓E_orn, ↓E_notn, ↓E_ife, ↓E_tupn, ↓E_lstn, ↓E_dnew, ↓E_blt, ↓E_meth, ↓E_mut, ↓E_idx, ↓E_slc, ↓E_isi, ↓T_var, ↓T_cint, ↓T_cstr, ↓T_cbl, ↓T_glob, ↓T_bin, ↓T_cmp, ↓T_neg, ↓T_chain, ↓T_call, ↓T_blt, ↓T_meth, ↓T_idx, ↓T_slc, ↓T_isi, ↓T_comp, ↓T_tupn, ↓T_lstn, ↓T_andn, ↓T_orn, ↓T_notn, ↓T_ife, ↓T_nil, ↓O_nil, ↓O_var, ↓O_cint, ↓O_neg, ↓O_bin, ↓O_blt, ↓O_glob, ↓A_nil, ↓A_cons, ↓B_nil, ↓B_cons, ↓C_nil, ↓C_io, ↓C_im, ↓rd_im, ↓rd_fr, ↓rd_bo, ↓fz_im, ↓fz_fr, ↓fz_bo, ↓rds_nil, ↓rds_cons, ↓ret_im, ↓ret_fr, ↓ret_bo, ↓rdC_nil, ↓rdC_im, ↓rdC_fr, ↓rdC_bo, bos_nil, bos_im, bos_fr, bos_bo, nd_nil, nd_one, ↓putB_nil, ↓putB_im, ↓putB_fr, ↓putB_bo, ↓ex_some, ↓ex_int, ↓post_nx, ↓post_rt, tru_bl, tru_int, tru_lst, tru_tup, tru_non, cmp_eq_int, cmp_ne_int, cmp_lt_int, cmp_le_int, cmp_gt_int, cmp_ge_int, cmp_lt_str, finsE, env0, List.getElem?_cons_zero, List.getElem?_cons_succ, List.length_cons, List.length_nil, List.replicate, List.cons_append, List.nil_append, List.append_nil, reduceIte, Bool.not_true, Bool.not_false, Bool.false_eq_true, if_true, if_false, true_and, and_true, ite_true, ite_false, Option.map_some, List.set_cons_zero, List.set_cons_succ, dIsi, dBlt, ↓E_comp, ↓I_idx, dIdx, at1, ↓srcR_im, itD]
  refine ⟨by rw [List.length_map]; omega, compW_map rowP (fun e => ∃ s, e = [.im (webD w), .im (lotD l), .im (lotD (restOf w l)), .un, s, .un]) (fun e ⟨s, e'⟩ => ?ok) (fun d hd e k ⟨s, e'⟩ hk => ?tn) ⟨_, rfl⟩ fun e' ⟨s, ee⟩ => ?_⟩
  case ok => intro i h; cases h
  case tn =>
    subst e'
    obtain ⟨c, hc, rfl⟩ := List.mem_map.mp hd
    try simp only [cturn, bindT, wipeE, stS, rowD, ↓S_nil, ↓S_cons, ↓S_pass, ↓S_asg, ↓S_asgt, ↓S_par2, ↓S_par3, ↓S_subT, ↓S_expr, ↓S_ret, ↓S_retN, ↓S_ifs, ↓E_var, ↓E_cint, ↓E_cstr, ↓E_cbl, ↓E_cnon, ↓E_glob, ↓E_bin, ↓E_neg, ↓E_cmp, ↓E_chain, ↓E_andn, ↓E_orn, ↓E_notn, ↓E_ife, ↓E_tupn, ↓E_lstn, ↓E_dnew, ↓E_blt, ↓E_meth, ↓E_mut, ↓E_idx, ↓E_slc, ↓E_isi, ↓T_var, ↓T_cint, ↓T_cstr, ↓T_cbl, ↓T_glob, ↓T_bin, ↓T_cmp, ↓T_neg, ↓T_chain, ↓T_call, ↓T_blt, ↓T_meth, ↓T_idx, ↓T_slc, ↓T_isi, ↓T_comp, ↓T_tupn, ↓T_lstn, ↓T_andn, ↓T_orn, ↓T_notn, ↓T_ife, ↓T_nil, ↓O_nil, ↓O_var, ↓O_cint, ↓O_neg, ↓O_bin, ↓O_blt, ↓O_glob, ↓A_nil, ↓A_cons, ↓B_nil, ↓B_cons, ↓C_nil, ↓C_io, ↓C_im, ↓rd_im, ↓rd_fr, ↓rd_bo, ↓fz_im, ↓fz_fr, ↓fz_bo, ↓rds_nil, ↓rds_cons, ↓ret_im, ↓ret_fr, ↓ret_bo, ↓rdC_nil, ↓rdC_im, ↓rdC_fr, ↓rdC_bo, bos_nil, bos_im, bos_fr, bos_bo, nd_nil, nd_one, ↓putB_nil, ↓putB_im, ↓putB_fr, ↓putB_bo, ↓ex_some, ↓ex_int, ↓post_nx, ↓post_rt, tru_bl, tru_int, tru_lst, tru_tup, tru_non, cmp_eq_int, cmp_ne_int, cmp_lt_int, cmp_le_int, cmp_gt_int, cmp_ge_int, cmp_lt_str, finsE, env0, List.getElem?_cons_zero, List.getElem?_cons_succ, List.length_cons, List.length_nil, List.replicate, List.cons_append, List.nil_append, List.append_nil, reduceIte, Bool.not_true, Bool.not_false, Bool.false_eq_true, if_true, if_false, true_and, and_true, ite_true, ite_false, Option.map_some, List.set_cons_zero, List.set_cons_succ, dIsi, dIdx, at0, at3]
    exact ⟨by omega, hk _ ⟨_, rfl⟩⟩
  subst ee
  rw [List.nil_append, filterMap_row (f := fun r => .tup [.str r.t, .int r.r]) fun r => rfl]
  try simp only [wipeE, ↓S_nil, ↓S_cons, ↓S_pass, ↓S_asg, ↓S_asgt, ↓S_par2, ↓S_par3, ↓S_subT, ↓S_expr, ↓S_ret, ↓S_retN, ↓S_ifs, ↓E_var, ↓E_cint, ↓E_cstr, ↓E_cbl, ↓E_cnon, ↓E_glob, ↓E_bin, ↓E_neg, ↓E_cmp, ↓E_chain, ↓E_andn, ↓E_orn, ↓E_notn, ↓E_ife, ↓E_tupn, ↓E_lstn, ↓E_dnew, ↓E_blt, ↓E_meth, ↓E_mut, ↓E_idx, ↓E_slc, ↓E_isi, ↓T_var, ↓T_cint, ↓T_cstr, ↓T_cbl, ↓T_glob, ↓T_bin, ↓T_cmp, ↓T_neg, ↓T_chain, ↓T_call, ↓T_blt, ↓T_meth, ↓T_idx, ↓T_slc, ↓T_isi, ↓T_comp, ↓T_tupn, ↓T_lstn, ↓T_andn, ↓T_orn, ↓T_notn, ↓T_ife, ↓T_nil, ↓O_nil, ↓O_var, ↓O_cint, ↓O_neg, ↓O_bin, ↓O_blt, ↓O_glob, ↓A_nil, ↓A_cons, ↓B_nil, ↓B_cons, ↓C_nil, ↓C_io, ↓C_im, ↓rd_im, ↓rd_fr, ↓rd_bo, ↓fz_im, ↓fz_fr, ↓fz_bo, ↓rds_nil, ↓rds_cons, ↓ret_im, ↓ret_fr, ↓ret_bo, ↓rdC_nil, ↓rdC_im, ↓rdC_fr, ↓rdC_bo, bos_nil, bos_im, bos_fr, bos_bo, nd_nil, nd_one, ↓putB_nil, ↓putB_im, ↓putB_fr, ↓putB_bo, ↓ex_some, ↓ex_int, ↓post_nx, ↓post_rt, tru_bl, tru_int, tru_lst, tru_tup, tru_non, cmp_eq_int, cmp_ne_int, cmp_lt_int, cmp_le_int, cmp_gt_int, cmp_ge_int, cmp_lt_str, finsE, env0, List.getElem?_cons_zero, List.getElem?_cons_succ, List.length_cons, List.length_nil, List.replicate, List.cons_append, List.nil_append, List.append_nil, reduceIte, Bool.not_true, Bool.not_false, Bool.false_eq_true, if_true, if_false, true_and, and_true, ite_true, ite_false, Option.map_some, List.set_cons_zero, List.set_cons_succ, dIsi, dd_dict, un, u_dict]
  refine ⟨_, pairs_rows _, ?_⟩
  rw [dmerge_nil (keys_nodup ok)]
  try simp only [↓S_nil, ↓S_cons, ↓S_pass, ↓S_asg, ↓S_asgt, ↓S_par2, ↓S_par3, ↓S_subT, ↓S_expr, ↓S_ret, ↓S_retN, ↓S_ifs, ↓E_var, ↓E_cint, ↓E_cstr, ↓E_cbl, ↓E_cnon, ↓E_glob, ↓E_bin, ↓E_neg, ↓E_cmp, ↓E_chain, ↓E_andn, ↓E_orn, ↓E_notn, ↓E_ife, ↓E_tupn, ↓E_lstn, ↓E_dnew, ↓E_blt, ↓E_meth, ↓E_mut, ↓E_idx, ↓E_slc, ↓E_isi, ↓T_var, ↓T_cint, ↓T_cstr, ↓T_cbl, ↓T_glob, ↓T_bin, ↓T_cmp, ↓T_neg, ↓T_chain, ↓T_call, ↓T_blt, ↓T_meth, ↓T_idx, ↓T_slc, ↓T_isi, ↓T_comp, ↓T_tupn, ↓T_lstn, ↓T_andn, ↓T_orn, ↓T_notn, ↓T_ife, ↓T_nil, ↓O_nil, ↓O_var, ↓O_cint, ↓O_neg, ↓O_bin, ↓O_blt, ↓O_glob, ↓A_nil, ↓A_cons, ↓B_nil, ↓B_cons, ↓C_nil, ↓C_io, ↓C_im, ↓rd_im, ↓rd_fr, ↓rd_bo, ↓fz_im, ↓fz_fr, ↓fz_bo, ↓rds_nil, ↓rds_cons, ↓ret_im, ↓ret_fr, ↓ret_bo, ↓rdC_nil, ↓rdC_im, ↓rdC_fr, ↓rdC_bo, bos_nil, bos_im, bos_fr, bos_bo, nd_nil, nd_one, ↓putB_nil, ↓putB_im, ↓putB_fr, ↓putB_bo, ↓ex_some, ↓ex_int, ↓post_nx, ↓post_rt, tru_bl, tru_int, tru_lst, tru_tup, tru_non, cmp_eq_int, cmp_ne_int, cmp_lt_int, cmp_le_int, cmp_gt_int, cmp_ge_int, cmp_lt_str, finsE, env0, List.getElem?_cons_zero, List.getElem?_cons_succ, List.length_cons, List.length_nil, List.replicate, List.cons_append, List.nil_append, List.append_nil, reduceIte, Bool.not_true, Bool.not_false, Bool.false_eq_true, if_true, if_false, true_and, and_true, ite_true, ite_false, Option.map_some, List.set_cons_zero, List.set_cons_succ, dIsi, stS]
  rw [hnx]
  try simp only [↓S_nil, ↓S_cons, ↓S_pass, ↓S_asg, ↓S_asgt, ↓S_par2, ↓S_par3, ↓S_subT, ↓S_expr, ↓S_ret, ↓S_retN, ↓S_ifs, ↓E_var, ↓E_cint, ↓E_cstr, ↓E_cbl, ↓E_cnon, ↓E_glob, ↓E_bin, ↓E_neg, ↓E_cmp, ↓E_chain, ↓E_andn, ↓E_orn, ↓E_notn, ↓E_ife, ↓E_tupn, ↓E_lstn, ↓E_dnew, ↓E_blt, ↓E_meth, ↓E_mut, ↓E_idx, ↓E_slc, ↓E_isi, ↓T_var, ↓T_cint, ↓T_cstr, ↓T_cbl, ↓T_glob, ↓T_bin, ↓T_cmp, ↓T_neg, ↓T_chain, ↓T_call, ↓T_blt, ↓T_meth, ↓T_idx, ↓T_slc, ↓T_isi, ↓T_comp, ↓T_tupn, ↓T_lstn, ↓T_andn, ↓T_orn, ↓T_notn, ↓T_ife, ↓T_nil, ↓O_nil, ↓O_var, ↓O_cint, ↓O_neg, ↓O_bin, ↓O_blt, ↓O_glob, ↓A_nil, ↓A_cons, ↓B_nil, ↓B_cons, ↓C_nil, ↓C_io, ↓C_im, ↓rd_im, ↓rd_fr, ↓rd_bo, ↓fz_im, ↓fz_fr, ↓fz_bo, ↓rds_nil, ↓rds_cons, ↓ret_im, ↓ret_fr, ↓ret_bo, ↓rdC_nil, ↓rdC_im, ↓rdC_fr, ↓rdC_bo, bos_nil, bos_im, bos_fr, bos_bo, nd_nil, nd_one, ↓putB_nil, ↓putB_im, ↓putB_fr, ↓putB_bo, ↓ex_some, ↓ex_int, ↓post_nx, ↓post_rt, tru_bl, tru_int, tru_lst, tru_tup, tru_non, cmp_eq_int, cmp_ne_int, cmp_lt_int, cmp_le_int, cmp_gt_int, cmp_ge_int, cmp_lt_str, finsE, env0, List.getElem?_cons_zero, List.getElem?_cons_succ, List.length_cons, List.length_nil, List.replicate, List.cons_append, List.nil_append, List.append_nil, reduceIte, Bool.not_true, Bool.not_false, Bool.false_eq_true, if_true, if_false, true_and, and_true, ite_true, ite_false, Option.map_some, List.set_cons_zero, List.set_cons_succ, dIsi, ↓E_call' h3, fi_lot_room, fnWL]
  refine ⟨w, l, rfl, ok, fun _ => lo, ?_⟩
  try simp only [↓S_nil, ↓S_cons, ↓S_pass, ↓S_asg, ↓S_asgt, ↓S_par2, ↓S_par3, ↓S_subT, ↓S_expr, ↓S_ret, ↓S_retN, ↓S_ifs, ↓E_var, ↓E_cint, ↓E_cstr, ↓E_cbl, ↓E_cnon, ↓E_glob, ↓E_bin, ↓E_neg, ↓E_cmp, ↓E_chain, ↓E_andn, ↓E_orn, ↓E_notn, ↓E_ife, ↓E_tupn, ↓E_lstn, ↓E_dnew, ↓E_blt, ↓E_meth, ↓E_mut, ↓E_idx, ↓E_slc, ↓E_isi, ↓T_var, ↓T_cint, ↓T_cstr, ↓T_cbl, ↓T_glob, ↓T_bin, ↓T_cmp, ↓T_neg, ↓T_chain, ↓T_call, ↓T_blt, ↓T_meth, ↓T_idx, ↓T_slc, ↓T_isi, ↓T_comp, ↓T_tupn, ↓T_lstn, ↓T_andn, ↓T_orn, ↓T_notn, ↓T_ife, ↓T_nil, ↓O_nil, ↓O_var, ↓O_cint, ↓O_neg, ↓O_bin, ↓O_blt, ↓O_glob, ↓A_nil, ↓A_cons, ↓B_nil, ↓B_cons, ↓C_nil, ↓C_io, ↓C_im, ↓rd_im, ↓rd_fr, ↓rd_bo, ↓fz_im, ↓fz_fr, ↓fz_bo, ↓rds_nil, ↓rds_cons, ↓ret_im, ↓ret_fr, ↓ret_bo, ↓rdC_nil, ↓rdC_im, ↓rdC_fr, ↓rdC_bo, bos_nil, bos_im, bos_fr, bos_bo, nd_nil, nd_one, ↓putB_nil, ↓putB_im, ↓putB_fr, ↓putB_bo, ↓ex_some, ↓ex_int, ↓post_nx, ↓post_rt, tru_bl, tru_int, tru_lst, tru_tup, tru_non, cmp_eq_int, cmp_ne_int, cmp_lt_int, cmp_le_int, cmp_gt_int, cmp_ge_int, cmp_lt_str, finsE, env0, List.getElem?_cons_zero, List.getElem?_cons_succ, List.length_cons, List.length_nil, List.replicate, List.cons_append, List.nil_append, List.append_nil, reduceIte, Bool.not_true, Bool.not_false, Bool.false_eq_true, if_true, if_false, true_and, and_true, ite_true, ite_false, Option.map_some, List.set_cons_zero, List.set_cons_succ, dIsi, ↓E_call' h3, fi_lot_room, fnWL]
  refine ⟨w, restOf w l, rfl, ok, fun _ => fo, ?_⟩
  have er : roomSum w (restOf w l) = roomSum w l := by unfold roomSum; rw [rows_rest ok]
  rw [er]
  try simp only [↓S_nil, ↓S_cons, ↓S_pass, ↓S_asg, ↓S_asgt, ↓S_par2, ↓S_par3, ↓S_subT, ↓S_expr, ↓S_ret, ↓S_retN, ↓S_ifs, ↓E_var, ↓E_cint, ↓E_cstr, ↓E_cbl, ↓E_cnon, ↓E_glob, ↓E_bin, ↓E_neg, ↓E_cmp, ↓E_chain, ↓E_andn, ↓E_orn, ↓E_notn, ↓E_ife, ↓E_tupn, ↓E_lstn, ↓E_dnew, ↓E_blt, ↓E_meth, ↓E_mut, ↓E_idx, ↓E_slc, ↓E_isi, ↓T_var, ↓T_cint, ↓T_cstr, ↓T_cbl, ↓T_glob, ↓T_bin, ↓T_cmp, ↓T_neg, ↓T_chain, ↓T_call, ↓T_blt, ↓T_meth, ↓T_idx, ↓T_slc, ↓T_isi, ↓T_comp, ↓T_tupn, ↓T_lstn, ↓T_andn, ↓T_orn, ↓T_notn, ↓T_ife, ↓T_nil, ↓O_nil, ↓O_var, ↓O_cint, ↓O_neg, ↓O_bin, ↓O_blt, ↓O_glob, ↓A_nil, ↓A_cons, ↓B_nil, ↓B_cons, ↓C_nil, ↓C_io, ↓C_im, ↓rd_im, ↓rd_fr, ↓rd_bo, ↓fz_im, ↓fz_fr, ↓fz_bo, ↓rds_nil, ↓rds_cons, ↓ret_im, ↓ret_fr, ↓ret_bo, ↓rdC_nil, ↓rdC_im, ↓rdC_fr, ↓rdC_bo, bos_nil, bos_im, bos_fr, bos_bo, nd_nil, nd_one, ↓putB_nil, ↓putB_im, ↓putB_fr, ↓putB_bo, ↓ex_some, ↓ex_int, ↓post_nx, ↓post_rt, tru_bl, tru_int, tru_lst, tru_tup, tru_non, cmp_eq_int, cmp_ne_int, cmp_lt_int, cmp_le_int, cmp_gt_int, cmp_ge_int, cmp_lt_str, finsE, env0, List.getElem?_cons_zero, List.getElem?_cons_succ, List.length_cons, List.length_nil, List.replicate, List.cons_append, List.nil_append, List.append_nil, reduceIte, Bool.not_true, Bool.not_false, Bool.false_eq_true, if_true, if_false, true_and, and_true, ite_true, ite_false, Option.map_some, List.set_cons_zero, List.set_cons_succ, dIsi]
  rw [show (roomSum w l == roomSum w l) = true from beq_self_eq_true _]
  try simp only [↓S_nil, ↓S_cons, ↓S_pass, ↓S_asg, ↓S_asgt, ↓S_par2, ↓S_par3, ↓S_subT, ↓S_expr, ↓S_ret, ↓S_retN, ↓S_ifs, ↓E_var, ↓E_cint, ↓E_cstr, ↓E_cbl, ↓E_cnon, ↓E_glob, ↓E_bin, ↓E_neg, ↓E_cmp, ↓E_chain, ↓E_andn, ↓E_orn, ↓E_notn, ↓E_ife, ↓E_tupn, ↓E_lstn, ↓E_dnew, ↓E_blt, ↓E_meth, ↓E_mut, ↓E_idx, ↓E_slc, ↓E_isi, ↓T_var, ↓T_cint, ↓T_cstr, ↓T_cbl, ↓T_glob, ↓T_bin, ↓T_cmp, ↓T_neg, ↓T_chain, ↓T_call, ↓T_blt, ↓T_meth, ↓T_idx, ↓T_slc, ↓T_isi, ↓T_comp, ↓T_tupn, ↓T_lstn, ↓T_andn, ↓T_orn, ↓T_notn, ↓T_ife, ↓T_nil, ↓O_nil, ↓O_var, ↓O_cint, ↓O_neg, ↓O_bin, ↓O_blt, ↓O_glob, ↓A_nil, ↓A_cons, ↓B_nil, ↓B_cons, ↓C_nil, ↓C_io, ↓C_im, ↓rd_im, ↓rd_fr, ↓rd_bo, ↓fz_im, ↓fz_fr, ↓fz_bo, ↓rds_nil, ↓rds_cons, ↓ret_im, ↓ret_fr, ↓ret_bo, ↓rdC_nil, ↓rdC_im, ↓rdC_fr, ↓rdC_bo, bos_nil, bos_im, bos_fr, bos_bo, nd_nil, nd_one, ↓putB_nil, ↓putB_im, ↓putB_fr, ↓putB_bo, ↓ex_some, ↓ex_int, ↓post_nx, ↓post_rt, tru_bl, tru_int, tru_lst, tru_tup, tru_non, cmp_eq_int, cmp_ne_int, cmp_lt_int, cmp_le_int, cmp_gt_int, cmp_ge_int, cmp_lt_str, finsE, env0, List.getElem?_cons_zero, List.getElem?_cons_succ, List.length_cons, List.length_nil, List.replicate, List.cons_append, List.nil_append, List.append_nil, reduceIte, Bool.not_true, Bool.not_false, Bool.false_eq_true, if_true, if_false, true_and, and_true, ite_true, ite_false, Option.map_some, List.set_cons_zero, List.set_cons_succ, dIsi, dBlt, ↓E_comp, ↓I_call, ↓E_call' h2, fi_ties_of, fnWL]
  refine ⟨w, l, rfl, ok, fun _ => lo, ?_⟩
  try simp only [lotD, ↓S_nil, ↓S_cons, ↓S_pass, ↓S_asg, ↓S_asgt, ↓S_par2, ↓S_par3, ↓S_subT, ↓S_expr, ↓S_ret, ↓S_retN, ↓S_ifs, ↓E_var, ↓E_cint, ↓E_cstr, ↓E_cbl, ↓E_cnon, ↓E_glob, ↓E_bin, ↓E_neg, ↓E_cmp, ↓E_chain, ↓E_andn, ↓E_orn, ↓E_notn, ↓E_ife, ↓E_tupn, ↓E_lstn, ↓E_dnew, ↓E_blt, ↓E_meth, ↓E_mut, ↓E_idx, ↓E_slc, ↓E_isi, ↓T_var, ↓T_cint, ↓T_cstr, ↓T_cbl, ↓T_glob, ↓T_bin, ↓T_cmp, ↓T_neg, ↓T_chain, ↓T_call, ↓T_blt, ↓T_meth, ↓T_idx, ↓T_slc, ↓T_isi, ↓T_comp, ↓T_tupn, ↓T_lstn, ↓T_andn, ↓T_orn, ↓T_notn, ↓T_ife, ↓T_nil, ↓O_nil, ↓O_var, ↓O_cint, ↓O_neg, ↓O_bin, ↓O_blt, ↓O_glob, ↓A_nil, ↓A_cons, ↓B_nil, ↓B_cons, ↓C_nil, ↓C_io, ↓C_im, ↓rd_im, ↓rd_fr, ↓rd_bo, ↓fz_im, ↓fz_fr, ↓fz_bo, ↓rds_nil, ↓rds_cons, ↓ret_im, ↓ret_fr, ↓ret_bo, ↓rdC_nil, ↓rdC_im, ↓rdC_fr, ↓rdC_bo, bos_nil, bos_im, bos_fr, bos_bo, nd_nil, nd_one, ↓putB_nil, ↓putB_im, ↓putB_fr, ↓putB_bo, ↓ex_some, ↓ex_int, ↓post_nx, ↓post_rt, tru_bl, tru_int, tru_lst, tru_tup, tru_non, cmp_eq_int, cmp_ne_int, cmp_lt_int, cmp_le_int, cmp_gt_int, cmp_ge_int, cmp_lt_str, finsE, env0, List.getElem?_cons_zero, List.getElem?_cons_succ, List.length_cons, List.length_nil, List.replicate, List.cons_append, List.nil_append, List.append_nil, reduceIte, Bool.not_true, Bool.not_false, Bool.false_eq_true, if_true, if_false, true_and, and_true, ite_true, ite_false, Option.map_some, List.set_cons_zero, List.set_cons_succ, dIsi, ↓srcR_im, itD]
  refine ⟨by have := rows_len w l ok; simpa using this, compW_map (lookR w) (fun e => ∃ s s4, e = [.im (webD w), .im (lotD l), .im (lotD (restOf w l)), .ow (.dct (w.rows.map rkv)), s4, s]) (fun e ⟨s, s4, e'⟩ => ?ok) (fun d hd e k ⟨s, s4, e'⟩ hk => ?tn) ⟨_, _, rfl⟩ fun e' ⟨s, s4, ee⟩ => ?_⟩
  case ok => intro i h; cases h
  case tn =>
    subst e'
    rw [List.map_map] at hd
    obtain ⟨c, hc, rfl⟩ := List.mem_map.mp hd
    have hv : dval (w.rows.map rkv) (.inr c.t) = some (.int c.r) := dval_mem (keys_nodup ok) (List.mem_map.mpr ⟨c, (List.mem_filter.mp hc).1, rfl⟩)
    have hk := hk [.im (webD w), .im (lotD l), .im (lotD (restOf w l)), .ow (.dct (w.rows.map rkv)), s4, .im (.str c.t)] ⟨_, _, rfl⟩
    rw [show lookR w ((D.str ∘ fun r : Row => r.t) c) = some (.int c.r) from hv] at hk
    try simp only [cturn, bindT, wipeE, stS, ↓S_nil, ↓S_cons, ↓S_pass, ↓S_asg, ↓S_asgt, ↓S_par2, ↓S_par3, ↓S_subT, ↓S_expr, ↓S_ret, ↓S_retN, ↓S_ifs, ↓E_var, ↓E_cint, ↓E_cstr, ↓E_cbl, ↓E_cnon, ↓E_glob, ↓E_bin, ↓E_neg, ↓E_cmp, ↓E_chain, ↓E_andn, ↓E_orn, ↓E_notn, ↓E_ife, ↓E_tupn, ↓E_lstn, ↓E_dnew, ↓E_blt, ↓E_meth, ↓E_mut, ↓E_idx, ↓E_slc, ↓E_isi, ↓T_var, ↓T_cint, ↓T_cstr, ↓T_cbl, ↓T_glob, ↓T_bin, ↓T_cmp, ↓T_neg, ↓T_chain, ↓T_call, ↓T_blt, ↓T_meth, ↓T_idx, ↓T_slc, ↓T_isi, ↓T_comp, ↓T_tupn, ↓T_lstn, ↓T_andn, ↓T_orn, ↓T_notn, ↓T_ife, ↓T_nil, ↓O_nil, ↓O_var, ↓O_cint, ↓O_neg, ↓O_bin, ↓O_blt, ↓O_glob, ↓A_nil, ↓A_cons, ↓B_nil, ↓B_cons, ↓C_nil, ↓C_io, ↓C_im, ↓rd_im, ↓rd_fr, ↓rd_bo, ↓fz_im, ↓fz_fr, ↓fz_bo, ↓rds_nil, ↓rds_cons, ↓ret_im, ↓ret_fr, ↓ret_bo, ↓rdC_nil, ↓rdC_im, ↓rdC_fr, ↓rdC_bo, bos_nil, bos_im, bos_fr, bos_bo, nd_nil, nd_one, ↓putB_nil, ↓putB_im, ↓putB_fr, ↓putB_bo, ↓ex_some, ↓ex_int, ↓post_nx, ↓post_rt, tru_bl, tru_int, tru_lst, tru_tup, tru_non, cmp_eq_int, cmp_ne_int, cmp_lt_int, cmp_le_int, cmp_gt_int, cmp_ge_int, cmp_lt_str, finsE, env0, List.getElem?_cons_zero, List.getElem?_cons_succ, List.length_cons, List.length_nil, List.replicate, List.cons_append, List.nil_append, List.append_nil, reduceIte, Bool.not_true, Bool.not_false, Bool.false_eq_true, if_true, if_false, true_and, and_true, ite_true, ite_false, Option.map_some, List.set_cons_zero, List.set_cons_succ, dIsi, dIdx, keyD, Function.comp]
    exact ⟨_, hv, hk⟩
  subst ee
  rw [List.map_map]
  rw [show (D.str ∘ fun r : Row => r.t) = fun r => D.str r.t from rfl, List.nil_append, look_rows ok]
  try simp only [wipeE, ↓S_nil, ↓S_cons, ↓S_pass, ↓S_asg, ↓S_asgt, ↓S_par2, ↓S_par3, ↓S_subT, ↓S_expr, ↓S_ret, ↓S_retN, ↓S_ifs, ↓E_var, ↓E_cint, ↓E_cstr, ↓E_cbl, ↓E_cnon, ↓E_glob, ↓E_bin, ↓E_neg, ↓E_cmp, ↓E_chain, ↓E_andn, ↓E_orn, ↓E_notn, ↓E_ife, ↓E_tupn, ↓E_lstn, ↓E_dnew, ↓E_blt, ↓E_meth, ↓E_mut, ↓E_idx, ↓E_slc, ↓E_isi, ↓T_var, ↓T_cint, ↓T_cstr, ↓T_cbl, ↓T_glob, ↓T_bin, ↓T_cmp, ↓T_neg, ↓T_chain, ↓T_call, ↓T_blt, ↓T_meth, ↓T_idx, ↓T_slc, ↓T_isi, ↓T_comp, ↓T_tupn, ↓T_lstn, ↓T_andn, ↓T_orn, ↓T_notn, ↓T_ife, ↓T_nil, ↓O_nil, ↓O_var, ↓O_cint, ↓O_neg, ↓O_bin, ↓O_blt, ↓O_glob, ↓A_nil, ↓A_cons, ↓B_nil, ↓B_cons, ↓C_nil, ↓C_io, ↓C_im, ↓rd_im, ↓rd_fr, ↓rd_bo, ↓fz_im, ↓fz_fr, ↓fz_bo, ↓rds_nil, ↓rds_cons, ↓ret_im, ↓ret_fr, ↓ret_bo, ↓rdC_nil, ↓rdC_im, ↓rdC_fr, ↓rdC_bo, bos_nil, bos_im, bos_fr, bos_bo, nd_nil, nd_one, ↓putB_nil, ↓putB_im, ↓putB_fr, ↓putB_bo, ↓ex_some, ↓ex_int, ↓post_nx, ↓post_rt, tru_bl, tru_int, tru_lst, tru_tup, tru_non, cmp_eq_int, cmp_ne_int, cmp_lt_int, cmp_le_int, cmp_gt_int, cmp_ge_int, cmp_lt_str, finsE, env0, List.getElem?_cons_zero, List.getElem?_cons_succ, List.length_cons, List.length_nil, List.replicate, List.cons_append, List.nil_append, List.append_nil, reduceIte, Bool.not_true, Bool.not_false, Bool.false_eq_true, if_true, if_false, true_and, and_true, ite_true, ite_false, Option.map_some, List.set_cons_zero, List.set_cons_succ, dIsi, dd_sum, un, u_sum]
  refine ⟨_, ints_rows _, ?_⟩
  rw [show (roomSum w l == ((rowsOf w l).map (·.r)).sum) = true from beq_self_eq_true _]
  first | exact q | exact ⟨[], rfl, q⟩
def fi__law_right : FI := { io := [false, false, false], sp := fun ds Q _ => ∃ w l m, ds = [webD w, lotD l, lotD m] ∧ WebOk w ∧ w.ps.length ≤ 10 ∧ LotOk w l ∧ LotOk w m ∧ Q (.im (.bl true)) [] }
def inS (l : List Str) : D → Option D
  | .str x => if x ∈ l then some (.str x) else none
  | _ => none
theorem fm_in (l : List Str) : ∀ ps : List Str, (ps.map D.str).filterMap (inS l) = (ps.filter (inB l)).map .str
  | [] => rfl
  | p :: ps => by
    rw [List.map_cons, List.filterMap_cons, List.filter_cons]
    by_cases hm : p ∈ l
    · rw [show inS l (.str p) = some (.str p) from if_pos hm, show inB l p = true from decide_eq_true hm, fm_in l ps]; rfl
    · rw [show inS l (.str p) = none from if_neg hm, show inB l p = false from decide_eq_false hm, fm_in l ps]; rfl
theorem fm_out (l : List Str) : ∀ ps : List Str, (ps.map D.str).filterMap (outS l) = (ps.filter fun x => !inB l x).map .str
  | [] => rfl
  | p :: ps => by
    rw [List.map_cons, List.filterMap_cons, List.filter_cons]
    by_cases hm : p ∈ l
    · rw [show outS l (.str p) = none from if_pos hm, show inB l p = true from decide_eq_true hm, fm_out l ps]; rfl
    · rw [show outS l (.str p) = some (.str p) from if_neg hm, show inB l p = false from decide_eq_false hm, fm_out l ps]; rfl
theorem inB_iff {l : List Str} {x : Str} : inB l x = true ↔ x ∈ l := by unfold inB; exact decide_eq_true_iff
theorem inB_eq {l : List Str} {f : Str → Bool} (h : ∀ x, x ∈ l ↔ f x = true) : inB l = f := funext fun x => by rw [Bool.eq_iff_iff, inB_iff]; exact h x
theorem k__law_right (Γ : Ga) (h1 : Γ.fn "_law_sides_right" = some fi__law_sides_right) (h2 : Γ.fn "lot_room" = some fi_lot_room) (h3 : Γ.fn "_law_room_of" = some fi__law_room_of) : Keeps Γ 8 sm__law_right fi__law_right := by
  rintro ds Q E ⟨w, l, m, rfl, ok, w10, lo, mo, q⟩
  refine ⟨rfl, by decide, ?_⟩
  have sz : 16777216 ≤ sizeLine := by rw [PySem.sizeLine_eq]; omega
  have ll : l.length ≤ 10 := by have := lo.2.1; omega
  have ml : m.length ≤ 10 := by have := mo.2.1; omega
  unfold sm__law_right
  refine S_seq fun nx hnx => ?_
  try simp only [fi__law_right, ↓S_nil, ↓S_cons, ↓S_pass, ↓S_asg, ↓S_asgt, ↓S_par2, ↓S_par3, ↓S_subT, ↓S_expr, ↓S_ret, ↓S_retN, ↓S_ifs, ↓E_var, ↓E_cint, ↓E_cstr, ↓E_cbl, ↓E_cnon, ↓E_glob, ↓E_bin, ↓E_neg, ↓E_cmp, ↓E_chain, ↓E_andn, ↓E_orn, ↓E_notn, ↓E_ife, ↓E_tupn, ↓E_lstn, ↓E_dnew, ↓E_blt, ↓E_meth, ↓E_mut, ↓E_idx, ↓E_slc, ↓E_isi, ↓T_var, ↓T_cint, ↓T_cstr, ↓T_cbl, ↓T_glob, ↓T_bin, ↓T_cmp, ↓T_neg, ↓T_chain, ↓T_call, ↓T_blt, ↓T_meth, ↓T_idx, ↓T_slc, ↓T_isi, ↓T_comp, ↓T_tupn, ↓T_lstn, ↓T_andn, ↓T_orn, ↓T_notn, ↓T_ife, ↓T_nil, ↓O_nil, ↓O_var, ↓O_cint, ↓O_neg, ↓O_bin, ↓O_blt, ↓O_glob, ↓A_nil, ↓A_cons, ↓B_nil, ↓B_cons, ↓C_nil, ↓C_io, ↓C_im, ↓rd_im, ↓rd_fr, ↓rd_bo, ↓fz_im, ↓fz_fr, ↓fz_bo, ↓rds_nil, ↓rds_cons, ↓ret_im, ↓ret_fr, ↓ret_bo, ↓rdC_nil, ↓rdC_im, ↓rdC_fr, ↓rdC_bo, bos_nil, bos_im, bos_fr, bos_bo, nd_nil, nd_one, ↓putB_nil, ↓putB_im, ↓putB_fr, ↓putB_bo, ↓ex_some, ↓ex_int, ↓post_nx, ↓post_rt, tru_bl, tru_int, tru_lst, tru_tup, tru_non, cmp_eq_int, cmp_ne_int, cmp_lt_int, cmp_le_int, cmp_gt_int, cmp_ge_int, cmp_lt_str, finsE, env0, List.getElem?_cons_zero, List.getElem?_cons_succ, List.length_cons, List.length_nil, List.replicate, List.cons_append, List.nil_append, List.append_nil, reduceIte, Bool.not_true, Bool.not_false, Bool.false_eq_true, if_true, if_false, true_and, and_true, ite_true, ite_false, Option.map_some, List.set_cons_zero, List.set_cons_succ, dIsi, ↓E_call' h1, fi__law_sides_right]
  refine ⟨w, l, rfl, ok, lo, ?_⟩
  try simp only [↓S_nil, ↓S_cons, ↓S_pass, ↓S_asg, ↓S_asgt, ↓S_par2, ↓S_par3, ↓S_subT, ↓S_expr, ↓S_ret, ↓S_retN, ↓S_ifs, ↓E_var, ↓E_cint, ↓E_cstr, ↓E_cbl, ↓E_cnon, ↓E_glob, ↓E_bin, ↓E_neg, ↓E_cmp, ↓E_chain, ↓E_andn, ↓E_orn, ↓E_notn, ↓E_ife, ↓E_tupn, ↓E_lstn, ↓E_dnew, ↓E_blt, ↓E_meth, ↓E_mut, ↓E_idx, ↓E_slc, ↓E_isi, ↓T_var, ↓T_cint, ↓T_cstr, ↓T_cbl, ↓T_glob, ↓T_bin, ↓T_cmp, ↓T_neg, ↓T_chain, ↓T_call, ↓T_blt, ↓T_meth, ↓T_idx, ↓T_slc, ↓T_isi, ↓T_comp, ↓T_tupn, ↓T_lstn, ↓T_andn, ↓T_orn, ↓T_notn, ↓T_ife, ↓T_nil, ↓O_nil, ↓O_var, ↓O_cint, ↓O_neg, ↓O_bin, ↓O_blt, ↓O_glob, ↓A_nil, ↓A_cons, ↓B_nil, ↓B_cons, ↓C_nil, ↓C_io, ↓C_im, ↓rd_im, ↓rd_fr, ↓rd_bo, ↓fz_im, ↓fz_fr, ↓fz_bo, ↓rds_nil, ↓rds_cons, ↓ret_im, ↓ret_fr, ↓ret_bo, ↓rdC_nil, ↓rdC_im, ↓rdC_fr, ↓rdC_bo, bos_nil, bos_im, bos_fr, bos_bo, nd_nil, nd_one, ↓putB_nil, ↓putB_im, ↓putB_fr, ↓putB_bo, ↓ex_some, ↓ex_int, ↓post_nx, ↓post_rt, tru_bl, tru_int, tru_lst, tru_tup, tru_non, cmp_eq_int, cmp_ne_int, cmp_lt_int, cmp_le_int, cmp_gt_int, cmp_ge_int, cmp_lt_str, finsE, env0, List.getElem?_cons_zero, List.getElem?_cons_succ, List.length_cons, List.length_nil, List.replicate, List.cons_append, List.nil_append, List.append_nil, reduceIte, Bool.not_true, Bool.not_false, Bool.false_eq_true, if_true, if_false, true_and, and_true, ite_true, ite_false, Option.map_some, List.set_cons_zero, List.set_cons_succ, dIsi, ↓E_call' h1, fi__law_sides_right]
  refine ⟨w, m, rfl, ok, mo, ?_⟩
  try simp only [↓S_nil, ↓S_cons, ↓S_pass, ↓S_asg, ↓S_asgt, ↓S_par2, ↓S_par3, ↓S_subT, ↓S_expr, ↓S_ret, ↓S_retN, ↓S_ifs, ↓E_var, ↓E_cint, ↓E_cstr, ↓E_cbl, ↓E_cnon, ↓E_glob, ↓E_bin, ↓E_neg, ↓E_cmp, ↓E_chain, ↓E_andn, ↓E_orn, ↓E_notn, ↓E_ife, ↓E_tupn, ↓E_lstn, ↓E_dnew, ↓E_blt, ↓E_meth, ↓E_mut, ↓E_idx, ↓E_slc, ↓E_isi, ↓T_var, ↓T_cint, ↓T_cstr, ↓T_cbl, ↓T_glob, ↓T_bin, ↓T_cmp, ↓T_neg, ↓T_chain, ↓T_call, ↓T_blt, ↓T_meth, ↓T_idx, ↓T_slc, ↓T_isi, ↓T_comp, ↓T_tupn, ↓T_lstn, ↓T_andn, ↓T_orn, ↓T_notn, ↓T_ife, ↓T_nil, ↓O_nil, ↓O_var, ↓O_cint, ↓O_neg, ↓O_bin, ↓O_blt, ↓O_glob, ↓A_nil, ↓A_cons, ↓B_nil, ↓B_cons, ↓C_nil, ↓C_io, ↓C_im, ↓rd_im, ↓rd_fr, ↓rd_bo, ↓fz_im, ↓fz_fr, ↓fz_bo, ↓rds_nil, ↓rds_cons, ↓ret_im, ↓ret_fr, ↓ret_bo, ↓rdC_nil, ↓rdC_im, ↓rdC_fr, ↓rdC_bo, bos_nil, bos_im, bos_fr, bos_bo, nd_nil, nd_one, ↓putB_nil, ↓putB_im, ↓putB_fr, ↓putB_bo, ↓ex_some, ↓ex_int, ↓post_nx, ↓post_rt, tru_bl, tru_int, tru_lst, tru_tup, tru_non, cmp_eq_int, cmp_ne_int, cmp_lt_int, cmp_le_int, cmp_gt_int, cmp_ge_int, cmp_lt_str, finsE, env0, List.getElem?_cons_zero, List.getElem?_cons_succ, List.length_cons, List.length_nil, List.replicate, List.cons_append, List.nil_append, List.append_nil, reduceIte, Bool.not_true, Bool.not_false, Bool.false_eq_true, if_true, if_false, true_and, and_true, ite_true, ite_false, Option.map_some, List.set_cons_zero, List.set_cons_succ, dIsi]
  rw [hnx]
  -- the three lists
  refine S_seq fun nx hnx => ?_
  try simp only [↓S_nil, ↓S_cons, ↓S_pass, ↓S_asg, ↓S_asgt, ↓S_par2, ↓S_par3, ↓S_subT, ↓S_expr, ↓S_ret, ↓S_retN, ↓S_ifs, ↓E_var, ↓E_cint, ↓E_cstr, ↓E_cbl, ↓E_cnon, ↓E_glob, ↓E_bin, ↓E_neg, ↓E_cmp, ↓E_chain, ↓E_andn, ↓E_orn, ↓E_notn, ↓E_ife, ↓E_tupn, ↓E_lstn, ↓E_dnew, ↓E_blt, ↓E_meth, ↓E_mut, ↓E_idx, ↓E_slc, ↓E_isi, ↓T_var, ↓T_cint, ↓T_cstr, ↓T_cbl, ↓T_glob, ↓T_bin, ↓T_cmp, ↓T_neg, ↓T_chain, ↓T_call, ↓T_blt, ↓T_meth, ↓T_idx, ↓T_slc, ↓T_isi, ↓T_comp, ↓T_tupn, ↓T_lstn, ↓T_andn, ↓T_orn, ↓T_notn, ↓T_ife, ↓T_nil, ↓O_nil, ↓O_var, ↓O_cint, ↓O_neg, ↓O_bin, ↓O_blt, ↓O_glob, ↓A_nil, ↓A_cons, ↓B_nil, ↓B_cons, ↓C_nil, ↓C_io, ↓C_im, ↓rd_im, ↓rd_fr, ↓rd_bo, ↓fz_im, ↓fz_fr, ↓fz_bo, ↓rds_nil, ↓rds_cons, ↓ret_im, ↓ret_fr, ↓ret_bo, ↓rdC_nil, ↓rdC_im, ↓rdC_fr, ↓rdC_bo, bos_nil, bos_im, bos_fr, bos_bo, nd_nil, nd_one, ↓putB_nil, ↓putB_im, ↓putB_fr, ↓putB_bo, ↓ex_some, ↓ex_int, ↓post_nx, ↓post_rt, tru_bl, tru_int, tru_lst, tru_tup, tru_non, cmp_eq_int, cmp_ne_int, cmp_lt_int, cmp_le_int, cmp_gt_int, cmp_ge_int, cmp_lt_str, finsE, env0, List.getElem?_cons_zero, List.getElem?_cons_succ, List.length_cons, List.length_nil, List.replicate, List.cons_append, List.nil_append, List.append_nil, reduceIte, Bool.not_true, Bool.not_false, Bool.false_eq_true, if_true, if_false, true_and, and_true, ite_true, ite_false, Option.map_some, List.set_cons_zero, List.set_cons_succ, dIsi, ↓E_comp, ↓I_var, ↓srcR_im, itD, lotD]
  refine ⟨by rw [List.length_map]; omega, compW_map (inS m) (fun e => ∃ s, e = [.im (webD w), .im (lotD l), .im (lotD m), .un, .un, .un, .un, s]) (fun e ⟨s, e'⟩ => ?ok) (fun d hd e k ⟨s, e'⟩ hk => ?tn) ⟨_, rfl⟩ fun e' ⟨s, ee⟩ => ?_⟩
  case ok => intro i h; cases h
  case tn =>
    subst e'
    obtain ⟨c, hc, rfl⟩ := List.mem_map.mp hd
    have hk := hk [.im (webD w), .im (lotD l), .im (lotD m), .un, .un, .un, .un, .im (.str c)] ⟨_, rfl⟩
    try simp only [cturn, bindT, wipeE, stS, lotD, ↓S_nil, ↓S_cons, ↓S_pass, ↓S_asg, ↓S_asgt, ↓S_par2, ↓S_par3, ↓S_subT, ↓S_expr, ↓S_ret, ↓S_retN, ↓S_ifs, ↓E_var, ↓E_cint, ↓E_cstr, ↓E_cbl, ↓E_cnon, ↓E_glob, ↓E_bin, ↓E_neg, ↓E_cmp, ↓E_chain, ↓E_andn, ↓E_orn, ↓E_notn, ↓E_ife, ↓E_tupn, ↓E_lstn, ↓E_dnew, ↓E_blt, ↓E_meth, ↓E_mut, ↓E_idx, ↓E_slc, ↓E_isi, ↓T_var, ↓T_cint, ↓T_cstr, ↓T_cbl, ↓T_glob, ↓T_bin, ↓T_cmp, ↓T_neg, ↓T_chain, ↓T_call, ↓T_blt, ↓T_meth, ↓T_idx, ↓T_slc, ↓T_isi, ↓T_comp, ↓T_tupn, ↓T_lstn, ↓T_andn, ↓T_orn, ↓T_notn, ↓T_ife, ↓T_nil, ↓O_nil, ↓O_var, ↓O_cint, ↓O_neg, ↓O_bin, ↓O_blt, ↓O_glob, ↓A_nil, ↓A_cons, ↓B_nil, ↓B_cons, ↓C_nil, ↓C_io, ↓C_im, ↓rd_im, ↓rd_fr, ↓rd_bo, ↓fz_im, ↓fz_fr, ↓fz_bo, ↓rds_nil, ↓rds_cons, ↓ret_im, ↓ret_fr, ↓ret_bo, ↓rdC_nil, ↓rdC_im, ↓rdC_fr, ↓rdC_bo, bos_nil, bos_im, bos_fr, bos_bo, nd_nil, nd_one, ↓putB_nil, ↓putB_im, ↓putB_fr, ↓putB_bo, ↓ex_some, ↓ex_int, ↓post_nx, ↓post_rt, tru_bl, tru_int, tru_lst, tru_tup, tru_non, cmp_eq_int, cmp_ne_int, cmp_lt_int, cmp_le_int, cmp_gt_int, cmp_ge_int, cmp_lt_str, finsE, env0, List.getElem?_cons_zero, List.getElem?_cons_succ, List.length_cons, List.length_nil, List.replicate, List.cons_append, List.nil_append, List.append_nil, reduceIte, Bool.not_true, Bool.not_false, Bool.false_eq_true, if_true, if_false, true_and, and_true, ite_true, ite_false, Option.map_some, List.set_cons_zero, List.set_cons_succ, dIsi, in_strs]
    by_cases hm : c ∈ m
    · rw [show inS m (.str c) = some (.str c) from if_pos hm] at hk
      rw [decide_eq_true hm]
      try simp only [↓S_nil, ↓S_cons, ↓S_pass, ↓S_asg, ↓S_asgt, ↓S_par2, ↓S_par3, ↓S_subT, ↓S_expr, ↓S_ret, ↓S_retN, ↓S_ifs, ↓E_var, ↓E_cint, ↓E_cstr, ↓E_cbl, ↓E_cnon, ↓E_glob, ↓E_bin, ↓E_neg, ↓E_cmp, ↓E_chain, ↓E_andn, ↓E_orn, ↓E_notn, ↓E_ife, ↓E_tupn, ↓E_lstn, ↓E_dnew, ↓E_blt, ↓E_meth, ↓E_mut, ↓E_idx, ↓E_slc, ↓E_isi, ↓T_var, ↓T_cint, ↓T_cstr, ↓T_cbl, ↓T_glob, ↓T_bin, ↓T_cmp, ↓T_neg, ↓T_chain, ↓T_call, ↓T_blt, ↓T_meth, ↓T_idx, ↓T_slc, ↓T_isi, ↓T_comp, ↓T_tupn, ↓T_lstn, ↓T_andn, ↓T_orn, ↓T_notn, ↓T_ife, ↓T_nil, ↓O_nil, ↓O_var, ↓O_cint, ↓O_neg, ↓O_bin, ↓O_blt, ↓O_glob, ↓A_nil, ↓A_cons, ↓B_nil, ↓B_cons, ↓C_nil, ↓C_io, ↓C_im, ↓rd_im, ↓rd_fr, ↓rd_bo, ↓fz_im, ↓fz_fr, ↓fz_bo, ↓rds_nil, ↓rds_cons, ↓ret_im, ↓ret_fr, ↓ret_bo, ↓rdC_nil, ↓rdC_im, ↓rdC_fr, ↓rdC_bo, bos_nil, bos_im, bos_fr, bos_bo, nd_nil, nd_one, ↓putB_nil, ↓putB_im, ↓putB_fr, ↓putB_bo, ↓ex_some, ↓ex_int, ↓post_nx, ↓post_rt, tru_bl, tru_int, tru_lst, tru_tup, tru_non, cmp_eq_int, cmp_ne_int, cmp_lt_int, cmp_le_int, cmp_gt_int, cmp_ge_int, cmp_lt_str, finsE, env0, List.getElem?_cons_zero, List.getElem?_cons_succ, List.length_cons, List.length_nil, List.replicate, List.cons_append, List.nil_append, List.append_nil, reduceIte, Bool.not_true, Bool.not_false, Bool.false_eq_true, if_true, if_false, true_and, and_true, ite_true, ite_false, Option.map_some, List.set_cons_zero, List.set_cons_succ, dIsi]
      exact hk
    · rw [show inS m (.str c) = none from if_neg hm] at hk
      rw [decide_eq_false hm]
      try simp only [↓S_nil, ↓S_cons, ↓S_pass, ↓S_asg, ↓S_asgt, ↓S_par2, ↓S_par3, ↓S_subT, ↓S_expr, ↓S_ret, ↓S_retN, ↓S_ifs, ↓E_var, ↓E_cint, ↓E_cstr, ↓E_cbl, ↓E_cnon, ↓E_glob, ↓E_bin, ↓E_neg, ↓E_cmp, ↓E_chain, ↓E_andn, ↓E_orn, ↓E_notn, ↓E_ife, ↓E_tupn, ↓E_lstn, ↓E_dnew, ↓E_blt, ↓E_meth, ↓E_mut, ↓E_idx, ↓E_slc, ↓E_isi, ↓T_var, ↓T_cint, ↓T_cstr, ↓T_cbl, ↓T_glob, ↓T_bin, ↓T_cmp, ↓T_neg, ↓T_chain, ↓T_call, ↓T_blt, ↓T_meth, ↓T_idx, ↓T_slc, ↓T_isi, ↓T_comp, ↓T_tupn, ↓T_lstn, ↓T_andn, ↓T_orn, ↓T_notn, ↓T_ife, ↓T_nil, ↓O_nil, ↓O_var, ↓O_cint, ↓O_neg, ↓O_bin, ↓O_blt, ↓O_glob, ↓A_nil, ↓A_cons, ↓B_nil, ↓B_cons, ↓C_nil, ↓C_io, ↓C_im, ↓rd_im, ↓rd_fr, ↓rd_bo, ↓fz_im, ↓fz_fr, ↓fz_bo, ↓rds_nil, ↓rds_cons, ↓ret_im, ↓ret_fr, ↓ret_bo, ↓rdC_nil, ↓rdC_im, ↓rdC_fr, ↓rdC_bo, bos_nil, bos_im, bos_fr, bos_bo, nd_nil, nd_one, ↓putB_nil, ↓putB_im, ↓putB_fr, ↓putB_bo, ↓ex_some, ↓ex_int, ↓post_nx, ↓post_rt, tru_bl, tru_int, tru_lst, tru_tup, tru_non, cmp_eq_int, cmp_ne_int, cmp_lt_int, cmp_le_int, cmp_gt_int, cmp_ge_int, cmp_lt_str, finsE, env0, List.getElem?_cons_zero, List.getElem?_cons_succ, List.length_cons, List.length_nil, List.replicate, List.cons_append, List.nil_append, List.append_nil, reduceIte, Bool.not_true, Bool.not_false, Bool.false_eq_true, if_true, if_false, true_and, and_true, ite_true, ite_false, Option.map_some, List.set_cons_zero, List.set_cons_succ, dIsi]
      exact hk
  subst ee
  rw [List.nil_append, fm_in]
  try simp only [wipeE, ↓S_nil, ↓S_cons, ↓S_pass, ↓S_asg, ↓S_asgt, ↓S_par2, ↓S_par3, ↓S_subT, ↓S_expr, ↓S_ret, ↓S_retN, ↓S_ifs, ↓E_var, ↓E_cint, ↓E_cstr, ↓E_cbl, ↓E_cnon, ↓E_glob, ↓E_bin, ↓E_neg, ↓E_cmp, ↓E_chain, ↓E_andn, ↓E_orn, ↓E_notn, ↓E_ife, ↓E_tupn, ↓E_lstn, ↓E_dnew, ↓E_blt, ↓E_meth, ↓E_mut, ↓E_idx, ↓E_slc, ↓E_isi, ↓T_var, ↓T_cint, ↓T_cstr, ↓T_cbl, ↓T_glob, ↓T_bin, ↓T_cmp, ↓T_neg, ↓T_chain, ↓T_call, ↓T_blt, ↓T_meth, ↓T_idx, ↓T_slc, ↓T_isi, ↓T_comp, ↓T_tupn, ↓T_lstn, ↓T_andn, ↓T_orn, ↓T_notn, ↓T_ife, ↓T_nil, ↓O_nil, ↓O_var, ↓O_cint, ↓O_neg, ↓O_bin, ↓O_blt, ↓O_glob, ↓A_nil, ↓A_cons, ↓B_nil, ↓B_cons, ↓C_nil, ↓C_io, ↓C_im, ↓rd_im, ↓rd_fr, ↓rd_bo, ↓fz_im, ↓fz_fr, ↓fz_bo, ↓rds_nil, ↓rds_cons, ↓ret_im, ↓ret_fr, ↓ret_bo, ↓rdC_nil, ↓rdC_im, ↓rdC_fr, ↓rdC_bo, bos_nil, bos_im, bos_fr, bos_bo, nd_nil, nd_one, ↓putB_nil, ↓putB_im, ↓putB_fr, ↓putB_bo, ↓ex_some, ↓ex_int, ↓post_nx, ↓post_rt, tru_bl, tru_int, tru_lst, tru_tup, tru_non, cmp_eq_int, cmp_ne_int, cmp_lt_int, cmp_le_int, cmp_gt_int, cmp_ge_int, cmp_lt_str, finsE, env0, List.getElem?_cons_zero, List.getElem?_cons_succ, List.length_cons, List.length_nil, List.replicate, List.cons_append, List.nil_append, List.append_nil, reduceIte, Bool.not_true, Bool.not_false, Bool.false_eq_true, if_true, if_false, true_and, and_true, ite_true, ite_false, Option.map_some, List.set_cons_zero, List.set_cons_succ, dIsi, stS]
  rw [hnx]
  generalize hA : l.filter (inB m) = A
  refine S_seq fun nx hnx => ?_
  try simp only [↓S_nil, ↓S_cons, ↓S_pass, ↓S_asg, ↓S_asgt, ↓S_par2, ↓S_par3, ↓S_subT, ↓S_expr, ↓S_ret, ↓S_retN, ↓S_ifs, ↓E_var, ↓E_cint, ↓E_cstr, ↓E_cbl, ↓E_cnon, ↓E_glob, ↓E_bin, ↓E_neg, ↓E_cmp, ↓E_chain, ↓E_andn, ↓E_orn, ↓E_notn, ↓E_ife, ↓E_tupn, ↓E_lstn, ↓E_dnew, ↓E_blt, ↓E_meth, ↓E_mut, ↓E_idx, ↓E_slc, ↓E_isi, ↓T_var, ↓T_cint, ↓T_cstr, ↓T_cbl, ↓T_glob, ↓T_bin, ↓T_cmp, ↓T_neg, ↓T_chain, ↓T_call, ↓T_blt, ↓T_meth, ↓T_idx, ↓T_slc, ↓T_isi, ↓T_comp, ↓T_tupn, ↓T_lstn, ↓T_andn, ↓T_orn, ↓T_notn, ↓T_ife, ↓T_nil, ↓O_nil, ↓O_var, ↓O_cint, ↓O_neg, ↓O_bin, ↓O_blt, ↓O_glob, ↓A_nil, ↓A_cons, ↓B_nil, ↓B_cons, ↓C_nil, ↓C_io, ↓C_im, ↓rd_im, ↓rd_fr, ↓rd_bo, ↓fz_im, ↓fz_fr, ↓fz_bo, ↓rds_nil, ↓rds_cons, ↓ret_im, ↓ret_fr, ↓ret_bo, ↓rdC_nil, ↓rdC_im, ↓rdC_fr, ↓rdC_bo, bos_nil, bos_im, bos_fr, bos_bo, nd_nil, nd_one, ↓putB_nil, ↓putB_im, ↓putB_fr, ↓putB_bo, ↓ex_some, ↓ex_int, ↓post_nx, ↓post_rt, tru_bl, tru_int, tru_lst, tru_tup, tru_non, cmp_eq_int, cmp_ne_int, cmp_lt_int, cmp_le_int, cmp_gt_int, cmp_ge_int, cmp_lt_str, finsE, env0, List.getElem?_cons_zero, List.getElem?_cons_succ, List.length_cons, List.length_nil, List.replicate, List.cons_append, List.nil_append, List.append_nil, reduceIte, Bool.not_true, Bool.not_false, Bool.false_eq_true, if_true, if_false, true_and, and_true, ite_true, ite_false, Option.map_some, List.set_cons_zero, List.set_cons_succ, dIsi, ↓E_comp, ↓I_var, ↓srcR_im, itD, lotD]
  refine ⟨by rw [List.length_map]; omega, compW_map (outS m) (fun e => ∃ s, e = [.im (webD w), .im (lotD l), .im (lotD m), .ow (.lst (A.map .str)), .un, .un, .un, s]) (fun e ⟨s, e'⟩ => ?ok) (fun d hd e k ⟨s, e'⟩ hk => ?tn) ⟨_, rfl⟩ fun e' ⟨s, ee⟩ => ?_⟩
  case ok => intro i h; cases h
  case tn =>
    subst e'
    obtain ⟨c, hc, rfl⟩ := List.mem_map.mp hd
    have hk := hk [.im (webD w), .im (lotD l), .im (lotD m), .ow (.lst (A.map .str)), .un, .un, .un, .im (.str c)] ⟨_, rfl⟩
    try simp only [cturn, bindT, wipeE, stS, lotD, ↓S_nil, ↓S_cons, ↓S_pass, ↓S_asg, ↓S_asgt, ↓S_par2, ↓S_par3, ↓S_subT, ↓S_expr, ↓S_ret, ↓S_retN, ↓S_ifs, ↓E_var, ↓E_cint, ↓E_cstr, ↓E_cbl, ↓E_cnon, ↓E_glob, ↓E_bin, ↓E_neg, ↓E_cmp, ↓E_chain, ↓E_andn, ↓E_orn, ↓E_notn, ↓E_ife, ↓E_tupn, ↓E_lstn, ↓E_dnew, ↓E_blt, ↓E_meth, ↓E_mut, ↓E_idx, ↓E_slc, ↓E_isi, ↓T_var, ↓T_cint, ↓T_cstr, ↓T_cbl, ↓T_glob, ↓T_bin, ↓T_cmp, ↓T_neg, ↓T_chain, ↓T_call, ↓T_blt, ↓T_meth, ↓T_idx, ↓T_slc, ↓T_isi, ↓T_comp, ↓T_tupn, ↓T_lstn, ↓T_andn, ↓T_orn, ↓T_notn, ↓T_ife, ↓T_nil, ↓O_nil, ↓O_var, ↓O_cint, ↓O_neg, ↓O_bin, ↓O_blt, ↓O_glob, ↓A_nil, ↓A_cons, ↓B_nil, ↓B_cons, ↓C_nil, ↓C_io, ↓C_im, ↓rd_im, ↓rd_fr, ↓rd_bo, ↓fz_im, ↓fz_fr, ↓fz_bo, ↓rds_nil, ↓rds_cons, ↓ret_im, ↓ret_fr, ↓ret_bo, ↓rdC_nil, ↓rdC_im, ↓rdC_fr, ↓rdC_bo, bos_nil, bos_im, bos_fr, bos_bo, nd_nil, nd_one, ↓putB_nil, ↓putB_im, ↓putB_fr, ↓putB_bo, ↓ex_some, ↓ex_int, ↓post_nx, ↓post_rt, tru_bl, tru_int, tru_lst, tru_tup, tru_non, cmp_eq_int, cmp_ne_int, cmp_lt_int, cmp_le_int, cmp_gt_int, cmp_ge_int, cmp_lt_str, finsE, env0, List.getElem?_cons_zero, List.getElem?_cons_succ, List.length_cons, List.length_nil, List.replicate, List.cons_append, List.nil_append, List.append_nil, reduceIte, Bool.not_true, Bool.not_false, Bool.false_eq_true, if_true, if_false, true_and, and_true, ite_true, ite_false, Option.map_some, List.set_cons_zero, List.set_cons_succ, dIsi, notin_strs]
    by_cases hm : c ∈ m
    · rw [show outS m (.str c) = none from if_pos hm] at hk
      rw [decide_eq_true hm]
      try simp only [↓S_nil, ↓S_cons, ↓S_pass, ↓S_asg, ↓S_asgt, ↓S_par2, ↓S_par3, ↓S_subT, ↓S_expr, ↓S_ret, ↓S_retN, ↓S_ifs, ↓E_var, ↓E_cint, ↓E_cstr, ↓E_cbl, ↓E_cnon, ↓E_glob, ↓E_bin, ↓E_neg, ↓E_cmp, ↓E_chain, ↓E_andn, ↓E_orn, ↓E_notn, ↓E_ife, ↓E_tupn, ↓E_lstn, ↓E_dnew, ↓E_blt, ↓E_meth, ↓E_mut, ↓E_idx, ↓E_slc, ↓E_isi, ↓T_var, ↓T_cint, ↓T_cstr, ↓T_cbl, ↓T_glob, ↓T_bin, ↓T_cmp, ↓T_neg, ↓T_chain, ↓T_call, ↓T_blt, ↓T_meth, ↓T_idx, ↓T_slc, ↓T_isi, ↓T_comp, ↓T_tupn, ↓T_lstn, ↓T_andn, ↓T_orn, ↓T_notn, ↓T_ife, ↓T_nil, ↓O_nil, ↓O_var, ↓O_cint, ↓O_neg, ↓O_bin, ↓O_blt, ↓O_glob, ↓A_nil, ↓A_cons, ↓B_nil, ↓B_cons, ↓C_nil, ↓C_io, ↓C_im, ↓rd_im, ↓rd_fr, ↓rd_bo, ↓fz_im, ↓fz_fr, ↓fz_bo, ↓rds_nil, ↓rds_cons, ↓ret_im, ↓ret_fr, ↓ret_bo, ↓rdC_nil, ↓rdC_im, ↓rdC_fr, ↓rdC_bo, bos_nil, bos_im, bos_fr, bos_bo, nd_nil, nd_one, ↓putB_nil, ↓putB_im, ↓putB_fr, ↓putB_bo, ↓ex_some, ↓ex_int, ↓post_nx, ↓post_rt, tru_bl, tru_int, tru_lst, tru_tup, tru_non, cmp_eq_int, cmp_ne_int, cmp_lt_int, cmp_le_int, cmp_gt_int, cmp_ge_int, cmp_lt_str, finsE, env0, List.getElem?_cons_zero, List.getElem?_cons_succ, List.length_cons, List.length_nil, List.replicate, List.cons_append, List.nil_append, List.append_nil, reduceIte, Bool.not_true, Bool.not_false, Bool.false_eq_true, if_true, if_false, true_and, and_true, ite_true, ite_false, Option.map_some, List.set_cons_zero, List.set_cons_succ, dIsi]
      exact hk
    · rw [show outS m (.str c) = some (.str c) from if_neg hm] at hk
      rw [decide_eq_false hm]
      try simp only [↓S_nil, ↓S_cons, ↓S_pass, ↓S_asg, ↓S_asgt, ↓S_par2, ↓S_par3, ↓S_subT, ↓S_expr, ↓S_ret, ↓S_retN, ↓S_ifs, ↓E_var, ↓E_cint, ↓E_cstr, ↓E_cbl, ↓E_cnon, ↓E_glob, ↓E_bin, ↓E_neg, ↓E_cmp, ↓E_chain, ↓E_andn, ↓E_orn, ↓E_notn, ↓E_ife, ↓E_tupn, ↓E_lstn, ↓E_dnew, ↓E_blt, ↓E_meth, ↓E_mut, ↓E_idx, ↓E_slc, ↓E_isi, ↓T_var, ↓T_cint, ↓T_cstr, ↓T_cbl, ↓T_glob, ↓T_bin, ↓T_cmp, ↓T_neg, ↓T_chain, ↓T_call, ↓T_blt, ↓T_meth, ↓T_idx, ↓T_slc, ↓T_isi, ↓T_comp, ↓T_tupn, ↓T_lstn, ↓T_andn, ↓T_orn, ↓T_notn, ↓T_ife, ↓T_nil, ↓O_nil, ↓O_var, ↓O_cint, ↓O_neg, ↓O_bin, ↓O_blt, ↓O_glob, ↓A_nil, ↓A_cons, ↓B_nil, ↓B_cons, ↓C_nil, ↓C_io, ↓C_im, ↓rd_im, ↓rd_fr, ↓rd_bo, ↓fz_im, ↓fz_fr, ↓fz_bo, ↓rds_nil, ↓rds_cons, ↓ret_im, ↓ret_fr, ↓ret_bo, ↓rdC_nil, ↓rdC_im, ↓rdC_fr, ↓rdC_bo, bos_nil, bos_im, bos_fr, bos_bo, nd_nil, nd_one, ↓putB_nil, ↓putB_im, ↓putB_fr, ↓putB_bo, ↓ex_some, ↓ex_int, ↓post_nx, ↓post_rt, tru_bl, tru_int, tru_lst, tru_tup, tru_non, cmp_eq_int, cmp_ne_int, cmp_lt_int, cmp_le_int, cmp_gt_int, cmp_ge_int, cmp_lt_str, finsE, env0, List.getElem?_cons_zero, List.getElem?_cons_succ, List.length_cons, List.length_nil, List.replicate, List.cons_append, List.nil_append, List.append_nil, reduceIte, Bool.not_true, Bool.not_false, Bool.false_eq_true, if_true, if_false, true_and, and_true, ite_true, ite_false, Option.map_some, List.set_cons_zero, List.set_cons_succ, dIsi]
      exact hk
  subst ee
  rw [List.nil_append, fm_out]
  try simp only [wipeE, ↓S_nil, ↓S_cons, ↓S_pass, ↓S_asg, ↓S_asgt, ↓S_par2, ↓S_par3, ↓S_subT, ↓S_expr, ↓S_ret, ↓S_retN, ↓S_ifs, ↓E_var, ↓E_cint, ↓E_cstr, ↓E_cbl, ↓E_cnon, ↓E_glob, ↓E_bin, ↓E_neg, ↓E_cmp, ↓E_chain, ↓E_andn, ↓E_orn, ↓E_notn, ↓E_ife, ↓E_tupn, ↓E_lstn, ↓E_dnew, ↓E_blt, ↓E_meth, ↓E_mut, ↓E_idx, ↓E_slc, ↓E_isi, ↓T_var, ↓T_cint, ↓T_cstr, ↓T_cbl, ↓T_glob, ↓T_bin, ↓T_cmp, ↓T_neg, ↓T_chain, ↓T_call, ↓T_blt, ↓T_meth, ↓T_idx, ↓T_slc, ↓T_isi, ↓T_comp, ↓T_tupn, ↓T_lstn, ↓T_andn, ↓T_orn, ↓T_notn, ↓T_ife, ↓T_nil, ↓O_nil, ↓O_var, ↓O_cint, ↓O_neg, ↓O_bin, ↓O_blt, ↓O_glob, ↓A_nil, ↓A_cons, ↓B_nil, ↓B_cons, ↓C_nil, ↓C_io, ↓C_im, ↓rd_im, ↓rd_fr, ↓rd_bo, ↓fz_im, ↓fz_fr, ↓fz_bo, ↓rds_nil, ↓rds_cons, ↓ret_im, ↓ret_fr, ↓ret_bo, ↓rdC_nil, ↓rdC_im, ↓rdC_fr, ↓rdC_bo, bos_nil, bos_im, bos_fr, bos_bo, nd_nil, nd_one, ↓putB_nil, ↓putB_im, ↓putB_fr, ↓putB_bo, ↓ex_some, ↓ex_int, ↓post_nx, ↓post_rt, tru_bl, tru_int, tru_lst, tru_tup, tru_non, cmp_eq_int, cmp_ne_int, cmp_lt_int, cmp_le_int, cmp_gt_int, cmp_ge_int, cmp_lt_str, finsE, env0, List.getElem?_cons_zero, List.getElem?_cons_succ, List.length_cons, List.length_nil, List.replicate, List.cons_append, List.nil_append, List.append_nil, reduceIte, Bool.not_true, Bool.not_false, Bool.false_eq_true, if_true, if_false, true_and, and_true, ite_true, ite_false, Option.map_some, List.set_cons_zero, List.set_cons_succ, dIsi, stS]
  rw [hnx]
  generalize hB : (l.filter fun x => !inB m x) = B
  refine S_seq fun nx hnx => ?_
  try simp only [↓S_nil, ↓S_cons, ↓S_pass, ↓S_asg, ↓S_asgt, ↓S_par2, ↓S_par3, ↓S_subT, ↓S_expr, ↓S_ret, ↓S_retN, ↓S_ifs, ↓E_var, ↓E_cint, ↓E_cstr, ↓E_cbl, ↓E_cnon, ↓E_glob, ↓E_bin, ↓E_neg, ↓E_cmp, ↓E_chain, ↓E_andn, ↓E_orn, ↓E_notn, ↓E_ife, ↓E_tupn, ↓E_lstn, ↓E_dnew, ↓E_blt, ↓E_meth, ↓E_mut, ↓E_idx, ↓E_slc, ↓E_isi, ↓T_var, ↓T_cint, ↓T_cstr, ↓T_cbl, ↓T_glob, ↓T_bin, ↓T_cmp, ↓T_neg, ↓T_chain, ↓T_call, ↓T_blt, ↓T_meth, ↓T_idx, ↓T_slc, ↓T_isi, ↓T_comp, ↓T_tupn, ↓T_lstn, ↓T_andn, ↓T_orn, ↓T_notn, ↓T_ife, ↓T_nil, ↓O_nil, ↓O_var, ↓O_cint, ↓O_neg, ↓O_bin, ↓O_blt, ↓O_glob, ↓A_nil, ↓A_cons, ↓B_nil, ↓B_cons, ↓C_nil, ↓C_io, ↓C_im, ↓rd_im, ↓rd_fr, ↓rd_bo, ↓fz_im, ↓fz_fr, ↓fz_bo, ↓rds_nil, ↓rds_cons, ↓ret_im, ↓ret_fr, ↓ret_bo, ↓rdC_nil, ↓rdC_im, ↓rdC_fr, ↓rdC_bo, bos_nil, bos_im, bos_fr, bos_bo, nd_nil, nd_one, ↓putB_nil, ↓putB_im, ↓putB_fr, ↓putB_bo, ↓ex_some, ↓ex_int, ↓post_nx, ↓post_rt, tru_bl, tru_int, tru_lst, tru_tup, tru_non, cmp_eq_int, cmp_ne_int, cmp_lt_int, cmp_le_int, cmp_gt_int, cmp_ge_int, cmp_lt_str, finsE, env0, List.getElem?_cons_zero, List.getElem?_cons_succ, List.length_cons, List.length_nil, List.replicate, List.cons_append, List.nil_append, List.append_nil, reduceIte, Bool.not_true, Bool.not_false, Bool.false_eq_true, if_true, if_false, true_and, and_true, ite_true, ite_false, Option.map_some, List.set_cons_zero, List.set_cons_succ, dIsi, ↓E_comp, ↓I_var, ↓srcR_im, itD, lotD]
  refine ⟨by rw [List.length_map]; omega, compW_map (outS l) (fun e => ∃ s, e = [.im (webD w), .im (lotD l), .im (lotD m), .ow (.lst (A.map .str)), .ow (.lst (B.map .str)), .un, .un, s]) (fun e ⟨s, e'⟩ => ?ok) (fun d hd e k ⟨s, e'⟩ hk => ?tn) ⟨_, rfl⟩ fun e' ⟨s, ee⟩ => ?_⟩
  case ok => intro i h; cases h
  case tn =>
    subst e'
    obtain ⟨c, hc, rfl⟩ := List.mem_map.mp hd
    have hk := hk [.im (webD w), .im (lotD l), .im (lotD m), .ow (.lst (A.map .str)), .ow (.lst (B.map .str)), .un, .un, .im (.str c)] ⟨_, rfl⟩
    try simp only [cturn, bindT, wipeE, stS, lotD, ↓S_nil, ↓S_cons, ↓S_pass, ↓S_asg, ↓S_asgt, ↓S_par2, ↓S_par3, ↓S_subT, ↓S_expr, ↓S_ret, ↓S_retN, ↓S_ifs, ↓E_var, ↓E_cint, ↓E_cstr, ↓E_cbl, ↓E_cnon, ↓E_glob, ↓E_bin, ↓E_neg, ↓E_cmp, ↓E_chain, ↓E_andn, ↓E_orn, ↓E_notn, ↓E_ife, ↓E_tupn, ↓E_lstn, ↓E_dnew, ↓E_blt, ↓E_meth, ↓E_mut, ↓E_idx, ↓E_slc, ↓E_isi, ↓T_var, ↓T_cint, ↓T_cstr, ↓T_cbl, ↓T_glob, ↓T_bin, ↓T_cmp, ↓T_neg, ↓T_chain, ↓T_call, ↓T_blt, ↓T_meth, ↓T_idx, ↓T_slc, ↓T_isi, ↓T_comp, ↓T_tupn, ↓T_lstn, ↓T_andn, ↓T_orn, ↓T_notn, ↓T_ife, ↓T_nil, ↓O_nil, ↓O_var, ↓O_cint, ↓O_neg, ↓O_bin, ↓O_blt, ↓O_glob, ↓A_nil, ↓A_cons, ↓B_nil, ↓B_cons, ↓C_nil, ↓C_io, ↓C_im, ↓rd_im, ↓rd_fr, ↓rd_bo, ↓fz_im, ↓fz_fr, ↓fz_bo, ↓rds_nil, ↓rds_cons, ↓ret_im, ↓ret_fr, ↓ret_bo, ↓rdC_nil, ↓rdC_im, ↓rdC_fr, ↓rdC_bo, bos_nil, bos_im, bos_fr, bos_bo, nd_nil, nd_one, ↓putB_nil, ↓putB_im, ↓putB_fr, ↓putB_bo, ↓ex_some, ↓ex_int, ↓post_nx, ↓post_rt, tru_bl, tru_int, tru_lst, tru_tup, tru_non, cmp_eq_int, cmp_ne_int, cmp_lt_int, cmp_le_int, cmp_gt_int, cmp_ge_int, cmp_lt_str, finsE, env0, List.getElem?_cons_zero, List.getElem?_cons_succ, List.length_cons, List.length_nil, List.replicate, List.cons_append, List.nil_append, List.append_nil, reduceIte, Bool.not_true, Bool.not_false, Bool.false_eq_true, if_true, if_false, true_and, and_true, ite_true, ite_false, Option.map_some, List.set_cons_zero, List.set_cons_succ, dIsi, notin_strs]
    by_cases hm : c ∈ l
    · rw [show outS l (.str c) = none from if_pos hm] at hk
      rw [decide_eq_true hm]
      try simp only [↓S_nil, ↓S_cons, ↓S_pass, ↓S_asg, ↓S_asgt, ↓S_par2, ↓S_par3, ↓S_subT, ↓S_expr, ↓S_ret, ↓S_retN, ↓S_ifs, ↓E_var, ↓E_cint, ↓E_cstr, ↓E_cbl, ↓E_cnon, ↓E_glob, ↓E_bin, ↓E_neg, ↓E_cmp, ↓E_chain, ↓E_andn, ↓E_orn, ↓E_notn, ↓E_ife, ↓E_tupn, ↓E_lstn, ↓E_dnew, ↓E_blt, ↓E_meth, ↓E_mut, ↓E_idx, ↓E_slc, ↓E_isi, ↓T_var, ↓T_cint, ↓T_cstr, ↓T_cbl, ↓T_glob, ↓T_bin, ↓T_cmp, ↓T_neg, ↓T_chain, ↓T_call, ↓T_blt, ↓T_meth, ↓T_idx, ↓T_slc, ↓T_isi, ↓T_comp, ↓T_tupn, ↓T_lstn, ↓T_andn, ↓T_orn, ↓T_notn, ↓T_ife, ↓T_nil, ↓O_nil, ↓O_var, ↓O_cint, ↓O_neg, ↓O_bin, ↓O_blt, ↓O_glob, ↓A_nil, ↓A_cons, ↓B_nil, ↓B_cons, ↓C_nil, ↓C_io, ↓C_im, ↓rd_im, ↓rd_fr, ↓rd_bo, ↓fz_im, ↓fz_fr, ↓fz_bo, ↓rds_nil, ↓rds_cons, ↓ret_im, ↓ret_fr, ↓ret_bo, ↓rdC_nil, ↓rdC_im, ↓rdC_fr, ↓rdC_bo, bos_nil, bos_im, bos_fr, bos_bo, nd_nil, nd_one, ↓putB_nil, ↓putB_im, ↓putB_fr, ↓putB_bo, ↓ex_some, ↓ex_int, ↓post_nx, ↓post_rt, tru_bl, tru_int, tru_lst, tru_tup, tru_non, cmp_eq_int, cmp_ne_int, cmp_lt_int, cmp_le_int, cmp_gt_int, cmp_ge_int, cmp_lt_str, finsE, env0, List.getElem?_cons_zero, List.getElem?_cons_succ, List.length_cons, List.length_nil, List.replicate, List.cons_append, List.nil_append, List.append_nil, reduceIte, Bool.not_true, Bool.not_false, Bool.false_eq_true, if_true, if_false, true_and, and_true, ite_true, ite_false, Option.map_some, List.set_cons_zero, List.set_cons_succ, dIsi]
      exact hk
    · rw [show outS l (.str c) = some (.str c) from if_neg hm] at hk
      rw [decide_eq_false hm]
      try simp only [↓S_nil, ↓S_cons, ↓S_pass, ↓S_asg, ↓S_asgt, ↓S_par2, ↓S_par3, ↓S_subT, ↓S_expr, ↓S_ret, ↓S_retN, ↓S_ifs, ↓E_var, ↓E_cint, ↓E_cstr, ↓E_cbl, ↓E_cnon, ↓E_glob, ↓E_bin, ↓E_neg, ↓E_cmp, ↓E_chain, ↓E_andn, ↓E_orn, ↓E_notn, ↓E_ife, ↓E_tupn, ↓E_lstn, ↓E_dnew, ↓E_blt, ↓E_meth, ↓E_mut, ↓E_idx, ↓E_slc, ↓E_isi, ↓T_var, ↓T_cint, ↓T_cstr, ↓T_cbl, ↓T_glob, ↓T_bin, ↓T_cmp, ↓T_neg, ↓T_chain, ↓T_call, ↓T_blt, ↓T_meth, ↓T_idx, ↓T_slc, ↓T_isi, ↓T_comp, ↓T_tupn, ↓T_lstn, ↓T_andn, ↓T_orn, ↓T_notn, ↓T_ife, ↓T_nil, ↓O_nil, ↓O_var, ↓O_cint, ↓O_neg, ↓O_bin, ↓O_blt, ↓O_glob, ↓A_nil, ↓A_cons, ↓B_nil, ↓B_cons, ↓C_nil, ↓C_io, ↓C_im, ↓rd_im, ↓rd_fr, ↓rd_bo, ↓fz_im, ↓fz_fr, ↓fz_bo, ↓rds_nil, ↓rds_cons, ↓ret_im, ↓ret_fr, ↓ret_bo, ↓rdC_nil, ↓rdC_im, ↓rdC_fr, ↓rdC_bo, bos_nil, bos_im, bos_fr, bos_bo, nd_nil, nd_one, ↓putB_nil, ↓putB_im, ↓putB_fr, ↓putB_bo, ↓ex_some, ↓ex_int, ↓post_nx, ↓post_rt, tru_bl, tru_int, tru_lst, tru_tup, tru_non, cmp_eq_int, cmp_ne_int, cmp_lt_int, cmp_le_int, cmp_gt_int, cmp_ge_int, cmp_lt_str, finsE, env0, List.getElem?_cons_zero, List.getElem?_cons_succ, List.length_cons, List.length_nil, List.replicate, List.cons_append, List.nil_append, List.append_nil, reduceIte, Bool.not_true, Bool.not_false, Bool.false_eq_true, if_true, if_false, true_and, and_true, ite_true, ite_false, Option.map_some, List.set_cons_zero, List.set_cons_succ, dIsi]
      exact hk
  subst ee
  rw [List.nil_append, fm_out]
  try simp only [wipeE, ↓S_nil, ↓S_cons, ↓S_pass, ↓S_asg, ↓S_asgt, ↓S_par2, ↓S_par3, ↓S_subT, ↓S_expr, ↓S_ret, ↓S_retN, ↓S_ifs, ↓E_var, ↓E_cint, ↓E_cstr, ↓E_cbl, ↓E_cnon, ↓E_glob, ↓E_bin, ↓E_neg, ↓E_cmp, ↓E_chain, ↓E_andn, ↓E_orn, ↓E_notn, ↓E_ife, ↓E_tupn, ↓E_lstn, ↓E_dnew, ↓E_blt, ↓E_meth, ↓E_mut, ↓E_idx, ↓E_slc, ↓E_isi, ↓T_var, ↓T_cint, ↓T_cstr, ↓T_cbl, ↓T_glob, ↓T_bin, ↓T_cmp, ↓T_neg, ↓T_chain, ↓T_call, ↓T_blt, ↓T_meth, ↓T_idx, ↓T_slc, ↓T_isi, ↓T_comp, ↓T_tupn, ↓T_lstn, ↓T_andn, ↓T_orn, ↓T_notn, ↓T_ife, ↓T_nil, ↓O_nil, ↓O_var, ↓O_cint, ↓O_neg, ↓O_bin, ↓O_blt, ↓O_glob, ↓A_nil, ↓A_cons, ↓B_nil, ↓B_cons, ↓C_nil, ↓C_io, ↓C_im, ↓rd_im, ↓rd_fr, ↓rd_bo, ↓fz_im, ↓fz_fr, ↓fz_bo, ↓rds_nil, ↓rds_cons, ↓ret_im, ↓ret_fr, ↓ret_bo, ↓rdC_nil, ↓rdC_im, ↓rdC_fr, ↓rdC_bo, bos_nil, bos_im, bos_fr, bos_bo, nd_nil, nd_one, ↓putB_nil, ↓putB_im, ↓putB_fr, ↓putB_bo, ↓ex_some, ↓ex_int, ↓post_nx, ↓post_rt, tru_bl, tru_int, tru_lst, tru_tup, tru_non, cmp_eq_int, cmp_ne_int, cmp_lt_int, cmp_le_int, cmp_gt_int, cmp_ge_int, cmp_lt_str, finsE, env0, List.getElem?_cons_zero, List.getElem?_cons_succ, List.length_cons, List.length_nil, List.replicate, List.cons_append, List.nil_append, List.append_nil, reduceIte, Bool.not_true, Bool.not_false, Bool.false_eq_true, if_true, if_false, true_and, and_true, ite_true, ite_false, Option.map_some, List.set_cons_zero, List.set_cons_succ, dIsi, stS]
  rw [hnx]
  generalize hC : (m.filter fun x => !inB l x) = C
  -- what they are
  have mA : ∀ x, x ∈ A ↔ x ∈ l ∧ x ∈ m := fun x => by rw [← hA, List.mem_filter, inB_iff]
  have mB : ∀ x, x ∈ B ↔ x ∈ l ∧ x ∉ m := fun x => by rw [← hB, List.mem_filter, Bool.not_eq_true', ← Bool.not_eq_true, inB_iff]
  have mC : ∀ x, x ∈ C ↔ x ∈ m ∧ x ∉ l := fun x => by rw [← hC, List.mem_filter, Bool.not_eq_true', ← Bool.not_eq_true, inB_iff]
  have nA : A.Nodup := hA ▸ List.Pairwise.sublist List.filter_sublist lo.2.2.2.nodup
  have nB : B.Nodup := hB ▸ List.Pairwise.sublist List.filter_sublist lo.2.2.2.nodup
  have nC : C.Nodup := hC ▸ List.Pairwise.sublist List.filter_sublist mo.2.2.2.nodup
  have lA : A.length ≤ 10 := Nat.le_trans (hA ▸ List.length_filter_le _ _) ll
  have lB : B.length ≤ 10 := Nat.le_trans (hB ▸ List.length_filter_le _ _) ll
  have lC : C.length ≤ 10 := Nat.le_trans (hC ▸ List.length_filter_le _ _) ml
  have nAB : (A ++ B).Nodup := List.nodup_append.mpr ⟨nA, nB, fun x hx y hy e => ((mB y).mp hy).2 (e ▸ ((mA x).mp hx).2)⟩
  have nBC : (B ++ C).Nodup := List.nodup_append.mpr ⟨nB, nC, fun x hx y hy e => ((mC y).mp hy).2 (e ▸ ((mB x).mp hx).1)⟩
  have nABC : (A ++ B ++ C).Nodup := List.nodup_append.mpr ⟨nAB, nC, fun x hx y hy e => ((mC y).mp hy).2 (e ▸ (List.mem_append.mp hx).elim (fun h => ((mA x).mp h).1) fun h => ((mB x).mp h).1)⟩
  have sl : ∀ x, x ∈ l → x ∈ w.ps := lo.2.2.1
  have sm : ∀ x, x ∈ m → x ∈ w.ps := mo.2.2.1
  have sA : ∀ x ∈ A, x ∈ w.ps := fun x h => sl x ((mA x).mp h).1
  have sB : ∀ x ∈ B, x ∈ w.ps := fun x h => sl x ((mB x).mp h).1
  have sC : ∀ x ∈ C, x ∈ w.ps := fun x h => sm x ((mC x).mp h).1
  have sBC : ∀ x ∈ B ++ C, x ∈ w.ps := fun x h => (List.mem_append.mp h).elim (sB x) (sC x)
  have sABC : ∀ x ∈ A ++ B ++ C, x ∈ w.ps := fun x h => (List.mem_append.mp h).elim (fun h => (List.mem_append.mp h).elim (sA x) (sB x)) (sC x)
  have eA : inB A = fun x => inB l x && inB m x := inB_eq fun x => by rw [mA, Bool.and_eq_true, inB_iff, inB_iff]
  have eB : inB B = fun x => inB l x && !inB m x := inB_eq fun x => by rw [mB, Bool.and_eq_true, inB_iff, Bool.not_eq_true', ← Bool.not_eq_true, inB_iff]
  have eC : inB C = fun x => inB m x && !inB l x := inB_eq fun x => by rw [mC, Bool.and_eq_true, inB_iff, Bool.not_eq_true', ← Bool.not_eq_true, inB_iff]
  have eBC : inB (B ++ C) = fun x => inB l x != inB m x := inB_eq fun x => by
    rw [List.mem_append, ← inB_iff, ← inB_iff, eB, eC]
    show ((inB l x && !inB m x) = true ∨ (inB m x && !inB l x) = true) ↔ (inB l x != inB m x) = true
    cases inB l x <;> cases inB m x <;> decide
  have eABC : inB (A ++ B ++ C) = fun x => inB l x || inB m x := inB_eq fun x => by
    rw [List.mem_append, List.mem_append, ← inB_iff, ← inB_iff, ← inB_iff, eA, eB, eC]
    show (((inB l x && inB m x) = true ∨ (inB l x && !inB m x) = true) ∨ (inB m x && !inB l x) = true) ↔ (inB l x || inB m x) = true
    cases inB l x <;> cases inB m x <;> decide
  have rl : roomSum w l = cut w (inB l) := roomSum_cut w l
  have rm : roomSum w m = cut w (inB m) := roomSum_cut w m
  have c1 : cut w (inB A) + cut w (inB (A ++ B ++ C)) ≤ roomSum w l + roomSum w m := by rw [eA, eABC, rl, rm]; exact cut_inter ok.rows _ _
  have c2 : cut w (inB B) + cut w (inB C) ≤ roomSum w l + roomSum w m := by rw [eB, eC, rl, rm]; exact cut_diff ok.rows _ _
  have c3 : cut w (inB (B ++ C)) ≤ roomSum w l + roomSum w m := by rw [eBC, rl, rm]; exact cut_sym ok.rows _ _
  clear eA eB eC eBC eABC rl rm mA mB mC hA hB hC nAB
  refine S_seq fun nx hnx => ?_
  try simp only [↓S_nil, ↓S_cons, ↓S_pass, ↓S_asg, ↓S_asgt, ↓S_par2, ↓S_par3, ↓S_subT, ↓S_expr, ↓S_ret, ↓S_retN, ↓S_ifs, ↓E_var, ↓E_cint, ↓E_cstr, ↓E_cbl, ↓E_cnon, ↓E_glob, ↓E_bin, ↓E_neg, ↓E_cmp, ↓E_chain, ↓E_andn, ↓E_orn, ↓E_notn, ↓E_ife, ↓E_tupn, ↓E_lstn, ↓E_dnew, ↓E_blt, ↓E_meth, ↓E_mut, ↓E_idx, ↓E_slc, ↓E_isi, ↓T_var, ↓T_cint, ↓T_cstr, ↓T_cbl, ↓T_glob, ↓T_bin, ↓T_cmp, ↓T_neg, ↓T_chain, ↓T_call, ↓T_blt, ↓T_meth, ↓T_idx, ↓T_slc, ↓T_isi, ↓T_comp, ↓T_tupn, ↓T_lstn, ↓T_andn, ↓T_orn, ↓T_notn, ↓T_ife, ↓T_nil, ↓O_nil, ↓O_var, ↓O_cint, ↓O_neg, ↓O_bin, ↓O_blt, ↓O_glob, ↓A_nil, ↓A_cons, ↓B_nil, ↓B_cons, ↓C_nil, ↓C_io, ↓C_im, ↓rd_im, ↓rd_fr, ↓rd_bo, ↓fz_im, ↓fz_fr, ↓fz_bo, ↓rds_nil, ↓rds_cons, ↓ret_im, ↓ret_fr, ↓ret_bo, ↓rdC_nil, ↓rdC_im, ↓rdC_fr, ↓rdC_bo, bos_nil, bos_im, bos_fr, bos_bo, nd_nil, nd_one, ↓putB_nil, ↓putB_im, ↓putB_fr, ↓putB_bo, ↓ex_some, ↓ex_int, ↓post_nx, ↓post_rt, tru_bl, tru_int, tru_lst, tru_tup, tru_non, cmp_eq_int, cmp_ne_int, cmp_lt_int, cmp_le_int, cmp_gt_int, cmp_ge_int, cmp_lt_str, finsE, env0, List.getElem?_cons_zero, List.getElem?_cons_succ, List.length_cons, List.length_nil, List.replicate, List.cons_append, List.nil_append, List.append_nil, reduceIte, Bool.not_true, Bool.not_false, Bool.false_eq_true, if_true, if_false, true_and, and_true, ite_true, ite_false, Option.map_some, List.set_cons_zero, List.set_cons_succ, dIsi, ↓E_call' h2, fi_lot_room, fnWL]
  refine ⟨w, l, rfl, ok, fun _ => lo, ?_⟩
  try simp only [↓S_nil, ↓S_cons, ↓S_pass, ↓S_asg, ↓S_asgt, ↓S_par2, ↓S_par3, ↓S_subT, ↓S_expr, ↓S_ret, ↓S_retN, ↓S_ifs, ↓E_var, ↓E_cint, ↓E_cstr, ↓E_cbl, ↓E_cnon, ↓E_glob, ↓E_bin, ↓E_neg, ↓E_cmp, ↓E_chain, ↓E_andn, ↓E_orn, ↓E_notn, ↓E_ife, ↓E_tupn, ↓E_lstn, ↓E_dnew, ↓E_blt, ↓E_meth, ↓E_mut, ↓E_idx, ↓E_slc, ↓E_isi, ↓T_var, ↓T_cint, ↓T_cstr, ↓T_cbl, ↓T_glob, ↓T_bin, ↓T_cmp, ↓T_neg, ↓T_chain, ↓T_call, ↓T_blt, ↓T_meth, ↓T_idx, ↓T_slc, ↓T_isi, ↓T_comp, ↓T_tupn, ↓T_lstn, ↓T_andn, ↓T_orn, ↓T_notn, ↓T_ife, ↓T_nil, ↓O_nil, ↓O_var, ↓O_cint, ↓O_neg, ↓O_bin, ↓O_blt, ↓O_glob, ↓A_nil, ↓A_cons, ↓B_nil, ↓B_cons, ↓C_nil, ↓C_io, ↓C_im, ↓rd_im, ↓rd_fr, ↓rd_bo, ↓fz_im, ↓fz_fr, ↓fz_bo, ↓rds_nil, ↓rds_cons, ↓ret_im, ↓ret_fr, ↓ret_bo, ↓rdC_nil, ↓rdC_im, ↓rdC_fr, ↓rdC_bo, bos_nil, bos_im, bos_fr, bos_bo, nd_nil, nd_one, ↓putB_nil, ↓putB_im, ↓putB_fr, ↓putB_bo, ↓ex_some, ↓ex_int, ↓post_nx, ↓post_rt, tru_bl, tru_int, tru_lst, tru_tup, tru_non, cmp_eq_int, cmp_ne_int, cmp_lt_int, cmp_le_int, cmp_gt_int, cmp_ge_int, cmp_lt_str, finsE, env0, List.getElem?_cons_zero, List.getElem?_cons_succ, List.length_cons, List.length_nil, List.replicate, List.cons_append, List.nil_append, List.append_nil, reduceIte, Bool.not_true, Bool.not_false, Bool.false_eq_true, if_true, if_false, true_and, and_true, ite_true, ite_false, Option.map_some, List.set_cons_zero, List.set_cons_succ, dIsi, ↓E_call' h2, fi_lot_room, fnWL]
  refine ⟨w, m, rfl, ok, fun _ => mo, ?_⟩
  try simp only [↓S_nil, ↓S_cons, ↓S_pass, ↓S_asg, ↓S_asgt, ↓S_par2, ↓S_par3, ↓S_subT, ↓S_expr, ↓S_ret, ↓S_retN, ↓S_ifs, ↓E_var, ↓E_cint, ↓E_cstr, ↓E_cbl, ↓E_cnon, ↓E_glob, ↓E_bin, ↓E_neg, ↓E_cmp, ↓E_chain, ↓E_andn, ↓E_orn, ↓E_notn, ↓E_ife, ↓E_tupn, ↓E_lstn, ↓E_dnew, ↓E_blt, ↓E_meth, ↓E_mut, ↓E_idx, ↓E_slc, ↓E_isi, ↓T_var, ↓T_cint, ↓T_cstr, ↓T_cbl, ↓T_glob, ↓T_bin, ↓T_cmp, ↓T_neg, ↓T_chain, ↓T_call, ↓T_blt, ↓T_meth, ↓T_idx, ↓T_slc, ↓T_isi, ↓T_comp, ↓T_tupn, ↓T_lstn, ↓T_andn, ↓T_orn, ↓T_notn, ↓T_ife, ↓T_nil, ↓O_nil, ↓O_var, ↓O_cint, ↓O_neg, ↓O_bin, ↓O_blt, ↓O_glob, ↓A_nil, ↓A_cons, ↓B_nil, ↓B_cons, ↓C_nil, ↓C_io, ↓C_im, ↓rd_im, ↓rd_fr, ↓rd_bo, ↓fz_im, ↓fz_fr, ↓fz_bo, ↓rds_nil, ↓rds_cons, ↓ret_im, ↓ret_fr, ↓ret_bo, ↓rdC_nil, ↓rdC_im, ↓rdC_fr, ↓rdC_bo, bos_nil, bos_im, bos_fr, bos_bo, nd_nil, nd_one, ↓putB_nil, ↓putB_im, ↓putB_fr, ↓putB_bo, ↓ex_some, ↓ex_int, ↓post_nx, ↓post_rt, tru_bl, tru_int, tru_lst, tru_tup, tru_non, cmp_eq_int, cmp_ne_int, cmp_lt_int, cmp_le_int, cmp_gt_int, cmp_ge_int, cmp_lt_str, finsE, env0, List.getElem?_cons_zero, List.getElem?_cons_succ, List.length_cons, List.length_nil, List.replicate, List.cons_append, List.nil_append, List.append_nil, reduceIte, Bool.not_true, Bool.not_false, Bool.false_eq_true, if_true, if_false, true_and, and_true, ite_true, ite_false, Option.map_some, List.set_cons_zero, List.set_cons_succ, dIsi, dBin, stS]
  rw [hnx]
  refine S_seq fun nx hnx => ?_
  try simp only [↓S_nil, ↓S_cons, ↓S_pass, ↓S_asg, ↓S_asgt, ↓S_par2, ↓S_par3, ↓S_subT, ↓S_expr, ↓S_ret, ↓S_retN, ↓S_ifs, ↓E_var, ↓E_cint, ↓E_cstr, ↓E_cbl, ↓E_cnon, ↓E_glob, ↓E_bin, ↓E_neg, ↓E_cmp, ↓E_chain, ↓E_andn, ↓E_orn, ↓E_notn, ↓E_ife, ↓E_tupn, ↓E_lstn, ↓E_dnew, ↓E_blt, ↓E_meth, ↓E_mut, ↓E_idx, ↓E_slc, ↓E_isi, ↓T_var, ↓T_cint, ↓T_cstr, ↓T_cbl, ↓T_glob, ↓T_bin, ↓T_cmp, ↓T_neg, ↓T_chain, ↓T_call, ↓T_blt, ↓T_meth, ↓T_idx, ↓T_slc, ↓T_isi, ↓T_comp, ↓T_tupn, ↓T_lstn, ↓T_andn, ↓T_orn, ↓T_notn, ↓T_ife, ↓T_nil, ↓O_nil, ↓O_var, ↓O_cint, ↓O_neg, ↓O_bin, ↓O_blt, ↓O_glob, ↓A_nil, ↓A_cons, ↓B_nil, ↓B_cons, ↓C_nil, ↓C_io, ↓C_im, ↓rd_im, ↓rd_fr, ↓rd_bo, ↓fz_im, ↓fz_fr, ↓fz_bo, ↓rds_nil, ↓rds_cons, ↓ret_im, ↓ret_fr, ↓ret_bo, ↓rdC_nil, ↓rdC_im, ↓rdC_fr, ↓rdC_bo, bos_nil, bos_im, bos_fr, bos_bo, nd_nil, nd_one, ↓putB_nil, ↓putB_im, ↓putB_fr, ↓putB_bo, ↓ex_some, ↓ex_int, ↓post_nx, ↓post_rt, tru_bl, tru_int, tru_lst, tru_tup, tru_non, cmp_eq_int, cmp_ne_int, cmp_lt_int, cmp_le_int, cmp_gt_int, cmp_ge_int, cmp_lt_str, finsE, env0, List.getElem?_cons_zero, List.getElem?_cons_succ, List.length_cons, List.length_nil, List.replicate, List.cons_append, List.nil_append, List.append_nil, reduceIte, Bool.not_true, Bool.not_false, Bool.false_eq_true, if_true, if_false, true_and, and_true, ite_true, ite_false, Option.map_some, List.set_cons_zero, List.set_cons_succ, dIsi, ↓E_call' h3, fi__law_room_of]
  refine ⟨w, A, rfl, ok, w10, nA, sA, ?_⟩
  try simp only [↓S_nil, ↓S_cons, ↓S_pass, ↓S_asg, ↓S_asgt, ↓S_par2, ↓S_par3, ↓S_subT, ↓S_expr, ↓S_ret, ↓S_retN, ↓S_ifs, ↓E_var, ↓E_cint, ↓E_cstr, ↓E_cbl, ↓E_cnon, ↓E_glob, ↓E_bin, ↓E_neg, ↓E_cmp, ↓E_chain, ↓E_andn, ↓E_orn, ↓E_notn, ↓E_ife, ↓E_tupn, ↓E_lstn, ↓E_dnew, ↓E_blt, ↓E_meth, ↓E_mut, ↓E_idx, ↓E_slc, ↓E_isi, ↓T_var, ↓T_cint, ↓T_cstr, ↓T_cbl, ↓T_glob, ↓T_bin, ↓T_cmp, ↓T_neg, ↓T_chain, ↓T_call, ↓T_blt, ↓T_meth, ↓T_idx, ↓T_slc, ↓T_isi, ↓T_comp, ↓T_tupn, ↓T_lstn, ↓T_andn, ↓T_orn, ↓T_notn, ↓T_ife, ↓T_nil, ↓O_nil, ↓O_var, ↓O_cint, ↓O_neg, ↓O_bin, ↓O_blt, ↓O_glob, ↓A_nil, ↓A_cons, ↓B_nil, ↓B_cons, ↓C_nil, ↓C_io, ↓C_im, ↓rd_im, ↓rd_fr, ↓rd_bo, ↓fz_im, ↓fz_fr, ↓fz_bo, ↓rds_nil, ↓rds_cons, ↓ret_im, ↓ret_fr, ↓ret_bo, ↓rdC_nil, ↓rdC_im, ↓rdC_fr, ↓rdC_bo, bos_nil, bos_im, bos_fr, bos_bo, nd_nil, nd_one, ↓putB_nil, ↓putB_im, ↓putB_fr, ↓putB_bo, ↓ex_some, ↓ex_int, ↓post_nx, ↓post_rt, tru_bl, tru_int, tru_lst, tru_tup, tru_non, cmp_eq_int, cmp_ne_int, cmp_lt_int, cmp_le_int, cmp_gt_int, cmp_ge_int, cmp_lt_str, finsE, env0, List.getElem?_cons_zero, List.getElem?_cons_succ, List.length_cons, List.length_nil, List.replicate, List.cons_append, List.nil_append, List.append_nil, reduceIte, Bool.not_true, Bool.not_false, Bool.false_eq_true, if_true, if_false, true_and, and_true, ite_true, ite_false, Option.map_some, List.set_cons_zero, List.set_cons_succ, dIsi, ↓E_call' h3, fi__law_room_of, dBin]
  refine ⟨by simp; omega, by simp; omega, w, A ++ B ++ C, by rw [List.map_append, List.map_append], ok, w10, nABC, sABC, ?_⟩
  try simp only [↓S_nil, ↓S_cons, ↓S_pass, ↓S_asg, ↓S_asgt, ↓S_par2, ↓S_par3, ↓S_subT, ↓S_expr, ↓S_ret, ↓S_retN, ↓S_ifs, ↓E_var, ↓E_cint, ↓E_cstr, ↓E_cbl, ↓E_cnon, ↓E_glob, ↓E_bin, ↓E_neg, ↓E_cmp, ↓E_chain, ↓E_andn, ↓E_orn, ↓E_notn, ↓E_ife, ↓E_tupn, ↓E_lstn, ↓E_dnew, ↓E_blt, ↓E_meth, ↓E_mut, ↓E_idx, ↓E_slc, ↓E_isi, ↓T_var, ↓T_cint, ↓T_cstr, ↓T_cbl, ↓T_glob, ↓T_bin, ↓T_cmp, ↓T_neg, ↓T_chain, ↓T_call, ↓T_blt, ↓T_meth, ↓T_idx, ↓T_slc, ↓T_isi, ↓T_comp, ↓T_tupn, ↓T_lstn, ↓T_andn, ↓T_orn, ↓T_notn, ↓T_ife, ↓T_nil, ↓O_nil, ↓O_var, ↓O_cint, ↓O_neg, ↓O_bin, ↓O_blt, ↓O_glob, ↓A_nil, ↓A_cons, ↓B_nil, ↓B_cons, ↓C_nil, ↓C_io, ↓C_im, ↓rd_im, ↓rd_fr, ↓rd_bo, ↓fz_im, ↓fz_fr, ↓fz_bo, ↓rds_nil, ↓rds_cons, ↓ret_im, ↓ret_fr, ↓ret_bo, ↓rdC_nil, ↓rdC_im, ↓rdC_fr, ↓rdC_bo, bos_nil, bos_im, bos_fr, bos_bo, nd_nil, nd_one, ↓putB_nil, ↓putB_im, ↓putB_fr, ↓putB_bo, ↓ex_some, ↓ex_int, ↓post_nx, ↓post_rt, tru_bl, tru_int, tru_lst, tru_tup, tru_non, cmp_eq_int, cmp_ne_int, cmp_lt_int, cmp_le_int, cmp_gt_int, cmp_ge_int, cmp_lt_str, finsE, env0, List.getElem?_cons_zero, List.getElem?_cons_succ, List.length_cons, List.length_nil, List.replicate, List.cons_append, List.nil_append, List.append_nil, reduceIte, Bool.not_true, Bool.not_false, Bool.false_eq_true, if_true, if_false, true_and, and_true, ite_true, ite_false, Option.map_some, List.set_cons_zero, List.set_cons_succ, dIsi, dBin]
  rw [decide_eq_false (by omega)]
  try simp only [↓S_nil, ↓S_cons, ↓S_pass, ↓S_asg, ↓S_asgt, ↓S_par2, ↓S_par3, ↓S_subT, ↓S_expr, ↓S_ret, ↓S_retN, ↓S_ifs, ↓E_var, ↓E_cint, ↓E_cstr, ↓E_cbl, ↓E_cnon, ↓E_glob, ↓E_bin, ↓E_neg, ↓E_cmp, ↓E_chain, ↓E_andn, ↓E_orn, ↓E_notn, ↓E_ife, ↓E_tupn, ↓E_lstn, ↓E_dnew, ↓E_blt, ↓E_meth, ↓E_mut, ↓E_idx, ↓E_slc, ↓E_isi, ↓T_var, ↓T_cint, ↓T_cstr, ↓T_cbl, ↓T_glob, ↓T_bin, ↓T_cmp, ↓T_neg, ↓T_chain, ↓T_call, ↓T_blt, ↓T_meth, ↓T_idx, ↓T_slc, ↓T_isi, ↓T_comp, ↓T_tupn, ↓T_lstn, ↓T_andn, ↓T_orn, ↓T_notn, ↓T_ife, ↓T_nil, ↓O_nil, ↓O_var, ↓O_cint, ↓O_neg, ↓O_bin, ↓O_blt, ↓O_glob, ↓A_nil, ↓A_cons, ↓B_nil, ↓B_cons, ↓C_nil, ↓C_io, ↓C_im, ↓rd_im, ↓rd_fr, ↓rd_bo, ↓fz_im, ↓fz_fr, ↓fz_bo, ↓rds_nil, ↓rds_cons, ↓ret_im, ↓ret_fr, ↓ret_bo, ↓rdC_nil, ↓rdC_im, ↓rdC_fr, ↓rdC_bo, bos_nil, bos_im, bos_fr, bos_bo, nd_nil, nd_one, ↓putB_nil, ↓putB_im, ↓putB_fr, ↓putB_bo, ↓ex_some, ↓ex_int, ↓post_nx, ↓post_rt, tru_bl, tru_int, tru_lst, tru_tup, tru_non, cmp_eq_int, cmp_ne_int, cmp_lt_int, cmp_le_int, cmp_gt_int, cmp_ge_int, cmp_lt_str, finsE, env0, List.getElem?_cons_zero, List.getElem?_cons_succ, List.length_cons, List.length_nil, List.replicate, List.cons_append, List.nil_append, List.append_nil, reduceIte, Bool.not_true, Bool.not_false, Bool.false_eq_true, if_true, if_false, true_and, and_true, ite_true, ite_false, Option.map_some, List.set_cons_zero, List.set_cons_succ, dIsi]
  rw [hnx]
  refine S_seq fun nx hnx => ?_
  try simp only [↓S_nil, ↓S_cons, ↓S_pass, ↓S_asg, ↓S_asgt, ↓S_par2, ↓S_par3, ↓S_subT, ↓S_expr, ↓S_ret, ↓S_retN, ↓S_ifs, ↓E_var, ↓E_cint, ↓E_cstr, ↓E_cbl, ↓E_cnon, ↓E_glob, ↓E_bin, ↓E_neg, ↓E_cmp, ↓E_chain, ↓E_andn, ↓E_orn, ↓E_notn, ↓E_ife, ↓E_tupn, ↓E_lstn, ↓E_dnew, ↓E_blt, ↓E_meth, ↓E_mut, ↓E_idx, ↓E_slc, ↓E_isi, ↓T_var, ↓T_cint, ↓T_cstr, ↓T_cbl, ↓T_glob, ↓T_bin, ↓T_cmp, ↓T_neg, ↓T_chain, ↓T_call, ↓T_blt, ↓T_meth, ↓T_idx, ↓T_slc, ↓T_isi, ↓T_comp, ↓T_tupn, ↓T_lstn, ↓T_andn, ↓T_orn, ↓T_notn, ↓T_ife, ↓T_nil, ↓O_nil, ↓O_var, ↓O_cint, ↓O_neg, ↓O_bin, ↓O_blt, ↓O_glob, ↓A_nil, ↓A_cons, ↓B_nil, ↓B_cons, ↓C_nil, ↓C_io, ↓C_im, ↓rd_im, ↓rd_fr, ↓rd_bo, ↓fz_im, ↓fz_fr, ↓fz_bo, ↓rds_nil, ↓rds_cons, ↓ret_im, ↓ret_fr, ↓ret_bo, ↓rdC_nil, ↓rdC_im, ↓rdC_fr, ↓rdC_bo, bos_nil, bos_im, bos_fr, bos_bo, nd_nil, nd_one, ↓putB_nil, ↓putB_im, ↓putB_fr, ↓putB_bo, ↓ex_some, ↓ex_int, ↓post_nx, ↓post_rt, tru_bl, tru_int, tru_lst, tru_tup, tru_non, cmp_eq_int, cmp_ne_int, cmp_lt_int, cmp_le_int, cmp_gt_int, cmp_ge_int, cmp_lt_str, finsE, env0, List.getElem?_cons_zero, List.getElem?_cons_succ, List.length_cons, List.length_nil, List.replicate, List.cons_append, List.nil_append, List.append_nil, reduceIte, Bool.not_true, Bool.not_false, Bool.false_eq_true, if_true, if_false, true_and, and_true, ite_true, ite_false, Option.map_some, List.set_cons_zero, List.set_cons_succ, dIsi, ↓E_call' h3, fi__law_room_of]
  refine ⟨w, B, rfl, ok, w10, nB, sB, ?_⟩
  try simp only [↓S_nil, ↓S_cons, ↓S_pass, ↓S_asg, ↓S_asgt, ↓S_par2, ↓S_par3, ↓S_subT, ↓S_expr, ↓S_ret, ↓S_retN, ↓S_ifs, ↓E_var, ↓E_cint, ↓E_cstr, ↓E_cbl, ↓E_cnon, ↓E_glob, ↓E_bin, ↓E_neg, ↓E_cmp, ↓E_chain, ↓E_andn, ↓E_orn, ↓E_notn, ↓E_ife, ↓E_tupn, ↓E_lstn, ↓E_dnew, ↓E_blt, ↓E_meth, ↓E_mut, ↓E_idx, ↓E_slc, ↓E_isi, ↓T_var, ↓T_cint, ↓T_cstr, ↓T_cbl, ↓T_glob, ↓T_bin, ↓T_cmp, ↓T_neg, ↓T_chain, ↓T_call, ↓T_blt, ↓T_meth, ↓T_idx, ↓T_slc, ↓T_isi, ↓T_comp, ↓T_tupn, ↓T_lstn, ↓T_andn, ↓T_orn, ↓T_notn, ↓T_ife, ↓T_nil, ↓O_nil, ↓O_var, ↓O_cint, ↓O_neg, ↓O_bin, ↓O_blt, ↓O_glob, ↓A_nil, ↓A_cons, ↓B_nil, ↓B_cons, ↓C_nil, ↓C_io, ↓C_im, ↓rd_im, ↓rd_fr, ↓rd_bo, ↓fz_im, ↓fz_fr, ↓fz_bo, ↓rds_nil, ↓rds_cons, ↓ret_im, ↓ret_fr, ↓ret_bo, ↓rdC_nil, ↓rdC_im, ↓rdC_fr, ↓rdC_bo, bos_nil, bos_im, bos_fr, bos_bo, nd_nil, nd_one, ↓putB_nil, ↓putB_im, ↓putB_fr, ↓putB_bo, ↓ex_some, ↓ex_int, ↓post_nx, ↓post_rt, tru_bl, tru_int, tru_lst, tru_tup, tru_non, cmp_eq_int, cmp_ne_int, cmp_lt_int, cmp_le_int, cmp_gt_int, cmp_ge_int, cmp_lt_str, finsE, env0, List.getElem?_cons_zero, List.getElem?_cons_succ, List.length_cons, List.length_nil, List.replicate, List.cons_append, List.nil_append, List.append_nil, reduceIte, Bool.not_true, Bool.not_false, Bool.false_eq_true, if_true, if_false, true_and, and_true, ite_true, ite_false, Option.map_some, List.set_cons_zero, List.set_cons_succ, dIsi, ↓E_call' h3, fi__law_room_of, dBin]
  refine ⟨w, C, rfl, ok, w10, nC, sC, ?_⟩
  try simp only [↓S_nil, ↓S_cons, ↓S_pass, ↓S_asg, ↓S_asgt, ↓S_par2, ↓S_par3, ↓S_subT, ↓S_expr, ↓S_ret, ↓S_retN, ↓S_ifs, ↓E_var, ↓E_cint, ↓E_cstr, ↓E_cbl, ↓E_cnon, ↓E_glob, ↓E_bin, ↓E_neg, ↓E_cmp, ↓E_chain, ↓E_andn, ↓E_orn, ↓E_notn, ↓E_ife, ↓E_tupn, ↓E_lstn, ↓E_dnew, ↓E_blt, ↓E_meth, ↓E_mut, ↓E_idx, ↓E_slc, ↓E_isi, ↓T_var, ↓T_cint, ↓T_cstr, ↓T_cbl, ↓T_glob, ↓T_bin, ↓T_cmp, ↓T_neg, ↓T_chain, ↓T_call, ↓T_blt, ↓T_meth, ↓T_idx, ↓T_slc, ↓T_isi, ↓T_comp, ↓T_tupn, ↓T_lstn, ↓T_andn, ↓T_orn, ↓T_notn, ↓T_ife, ↓T_nil, ↓O_nil, ↓O_var, ↓O_cint, ↓O_neg, ↓O_bin, ↓O_blt, ↓O_glob, ↓A_nil, ↓A_cons, ↓B_nil, ↓B_cons, ↓C_nil, ↓C_io, ↓C_im, ↓rd_im, ↓rd_fr, ↓rd_bo, ↓fz_im, ↓fz_fr, ↓fz_bo, ↓rds_nil, ↓rds_cons, ↓ret_im, ↓ret_fr, ↓ret_bo, ↓rdC_nil, ↓rdC_im, ↓rdC_fr, ↓rdC_bo, bos_nil, bos_im, bos_fr, bos_bo, nd_nil, nd_one, ↓putB_nil, ↓putB_im, ↓putB_fr, ↓putB_bo, ↓ex_some, ↓ex_int, ↓post_nx, ↓post_rt, tru_bl, tru_int, tru_lst, tru_tup, tru_non, cmp_eq_int, cmp_ne_int, cmp_lt_int, cmp_le_int, cmp_gt_int, cmp_ge_int, cmp_lt_str, finsE, env0, List.getElem?_cons_zero, List.getElem?_cons_succ, List.length_cons, List.length_nil, List.replicate, List.cons_append, List.nil_append, List.append_nil, reduceIte, Bool.not_true, Bool.not_false, Bool.false_eq_true, if_true, if_false, true_and, and_true, ite_true, ite_false, Option.map_some, List.set_cons_zero, List.set_cons_succ, dIsi, dBin]
  rw [decide_eq_false (by omega)]
  try simp only [↓S_nil, ↓S_cons, ↓S_pass, ↓S_asg, ↓S_asgt, ↓S_par2, ↓S_par3, ↓S_subT, ↓S_expr, ↓S_ret, ↓S_retN, ↓S_ifs, ↓E_var, ↓E_cint, ↓E_cstr, ↓E_cbl, ↓E_cnon, ↓E_glob, ↓E_bin, ↓E_neg, ↓E_cmp, ↓E_chain, ↓E_andn, ↓E_orn, ↓E_notn, ↓E_ife, ↓E_tupn, ↓E_lstn, ↓E_dnew, ↓E_blt, ↓E_meth, ↓E_mut, ↓E_idx, ↓E_slc, ↓E_isi, ↓T_var, ↓T_cint, ↓T_cstr, ↓T_cbl, ↓T_glob, ↓T_bin, ↓T_cmp, ↓T_neg, ↓T_chain, ↓T_call, ↓T_blt, ↓T_meth, ↓T_idx, ↓T_slc, ↓T_isi, ↓T_comp, ↓T_tupn, ↓T_lstn, ↓T_andn, ↓T_orn, ↓T_notn, ↓T_ife, ↓T_nil, ↓O_nil, ↓O_var, ↓O_cint, ↓O_neg, ↓O_bin, ↓O_blt, ↓O_glob, ↓A_nil, ↓A_cons, ↓B_nil, ↓B_cons, ↓C_nil, ↓C_io, ↓C_im, ↓rd_im, ↓rd_fr, ↓rd_bo, ↓fz_im, ↓fz_fr, ↓fz_bo, ↓rds_nil, ↓rds_cons, ↓ret_im, ↓ret_fr, ↓ret_bo, ↓rdC_nil, ↓rdC_im, ↓rdC_fr, ↓rdC_bo, bos_nil, bos_im, bos_fr, bos_bo, nd_nil, nd_one, ↓putB_nil, ↓putB_im, ↓putB_fr, ↓putB_bo, ↓ex_some, ↓ex_int, ↓post_nx, ↓post_rt, tru_bl, tru_int, tru_lst, tru_tup, tru_non, cmp_eq_int, cmp_ne_int, cmp_lt_int, cmp_le_int, cmp_gt_int, cmp_ge_int, cmp_lt_str, finsE, env0, List.getElem?_cons_zero, List.getElem?_cons_succ, List.length_cons, List.length_nil, List.replicate, List.cons_append, List.nil_append, List.append_nil, reduceIte, Bool.not_true, Bool.not_false, Bool.false_eq_true, if_true, if_false, true_and, and_true, ite_true, ite_false, Option.map_some, List.set_cons_zero, List.set_cons_succ, dIsi]
  rw [hnx]
  try simp only [↓S_nil, ↓S_cons, ↓S_pass, ↓S_asg, ↓S_asgt, ↓S_par2, ↓S_par3, ↓S_subT, ↓S_expr, ↓S_ret, ↓S_retN, ↓S_ifs, ↓E_var, ↓E_cint, ↓E_cstr, ↓E_cbl, ↓E_cnon, ↓E_glob, ↓E_bin, ↓E_neg, ↓E_cmp, ↓E_chain, ↓E_andn, ↓E_orn, ↓E_notn, ↓E_ife, ↓E_tupn, ↓E_lstn, ↓E_dnew, ↓E_blt, ↓E_meth, ↓E_mut, ↓E_idx, ↓E_slc, ↓E_isi, ↓T_var, ↓T_cint, ↓T_cstr, ↓T_cbl, ↓T_glob, ↓T_bin, ↓T_cmp, ↓T_neg, ↓T_chain, ↓T_call, ↓T_blt, ↓T_meth, ↓T_idx, ↓T_slc, ↓T_isi, ↓T_comp, ↓T_tupn, ↓T_lstn, ↓T_andn, ↓T_orn, ↓T_notn, ↓T_ife, ↓T_nil, ↓O_nil, ↓O_var, ↓O_cint, ↓O_neg, ↓O_bin, ↓O_blt, ↓O_glob, ↓A_nil, ↓A_cons, ↓B_nil, ↓B_cons, ↓C_nil, ↓C_io, ↓C_im, ↓rd_im, ↓rd_fr, ↓rd_bo, ↓fz_im, ↓fz_fr, ↓fz_bo, ↓rds_nil, ↓rds_cons, ↓ret_im, ↓ret_fr, ↓ret_bo, ↓rdC_nil, ↓rdC_im, ↓rdC_fr, ↓rdC_bo, bos_nil, bos_im, bos_fr, bos_bo, nd_nil, nd_one, ↓putB_nil, ↓putB_im, ↓putB_fr, ↓putB_bo, ↓ex_some, ↓ex_int, ↓post_nx, ↓post_rt, tru_bl, tru_int, tru_lst, tru_tup, tru_non, cmp_eq_int, cmp_ne_int, cmp_lt_int, cmp_le_int, cmp_gt_int, cmp_ge_int, cmp_lt_str, finsE, env0, List.getElem?_cons_zero, List.getElem?_cons_succ, List.length_cons, List.length_nil, List.replicate, List.cons_append, List.nil_append, List.append_nil, reduceIte, Bool.not_true, Bool.not_false, Bool.false_eq_true, if_true, if_false, true_and, and_true, ite_true, ite_false, Option.map_some, List.set_cons_zero, List.set_cons_succ, dIsi, ↓E_call' h3, fi__law_room_of, dBin]
  refine ⟨by simp; omega, w, B ++ C, by rw [List.map_append], ok, w10, nBC, sBC, ?_⟩
  try simp only [↓S_nil, ↓S_cons, ↓S_pass, ↓S_asg, ↓S_asgt, ↓S_par2, ↓S_par3, ↓S_subT, ↓S_expr, ↓S_ret, ↓S_retN, ↓S_ifs, ↓E_var, ↓E_cint, ↓E_cstr, ↓E_cbl, ↓E_cnon, ↓E_glob, ↓E_bin, ↓E_neg, ↓E_cmp, ↓E_chain, ↓E_andn, ↓E_orn, ↓E_notn, ↓E_ife, ↓E_tupn, ↓E_lstn, ↓E_dnew, ↓E_blt, ↓E_meth, ↓E_mut, ↓E_idx, ↓E_slc, ↓E_isi, ↓T_var, ↓T_cint, ↓T_cstr, ↓T_cbl, ↓T_glob, ↓T_bin, ↓T_cmp, ↓T_neg, ↓T_chain, ↓T_call, ↓T_blt, ↓T_meth, ↓T_idx, ↓T_slc, ↓T_isi, ↓T_comp, ↓T_tupn, ↓T_lstn, ↓T_andn, ↓T_orn, ↓T_notn, ↓T_ife, ↓T_nil, ↓O_nil, ↓O_var, ↓O_cint, ↓O_neg, ↓O_bin, ↓O_blt, ↓O_glob, ↓A_nil, ↓A_cons, ↓B_nil, ↓B_cons, ↓C_nil, ↓C_io, ↓C_im, ↓rd_im, ↓rd_fr, ↓rd_bo, ↓fz_im, ↓fz_fr, ↓fz_bo, ↓rds_nil, ↓rds_cons, ↓ret_im, ↓ret_fr, ↓ret_bo, ↓rdC_nil, ↓rdC_im, ↓rdC_fr, ↓rdC_bo, bos_nil, bos_im, bos_fr, bos_bo, nd_nil, nd_one, ↓putB_nil, ↓putB_im, ↓putB_fr, ↓putB_bo, ↓ex_some, ↓ex_int, ↓post_nx, ↓post_rt, tru_bl, tru_int, tru_lst, tru_tup, tru_non, cmp_eq_int, cmp_ne_int, cmp_lt_int, cmp_le_int, cmp_gt_int, cmp_ge_int, cmp_lt_str, finsE, env0, List.getElem?_cons_zero, List.getElem?_cons_succ, List.length_cons, List.length_nil, List.replicate, List.cons_append, List.nil_append, List.append_nil, reduceIte, Bool.not_true, Bool.not_false, Bool.false_eq_true, if_true, if_false, true_and, and_true, ite_true, ite_false, Option.map_some, List.set_cons_zero, List.set_cons_succ, dIsi, dBin]
  rw [decide_eq_true c3]
  first | exact q | exact ⟨[], rfl, q⟩
def fi_law : FI := { io := [false], sp := fun ds Q _ => ∃ ns : List Int, ns.length ≤ 63 ∧ ds = [.scr (ns.map .int)] ∧ Q (.im (.bl true)) [] }
theorem k_law (Γ : Ga) (h1 : Γ.fn "_law_cell" = some fi__law_cell) (h2 : Γ.fn "_law_pot" = some fi__law_pot) (h3 : Γ.fn "_law_web" = some fi__law_web) (h4 : Γ.fn "_law_lot" = some fi__law_lot) (h5 : Γ.fn "_law_right" = some fi__law_right) : Keeps Γ 5 sm_law fi_law := by
  rintro ds Q E ⟨ns, hns, rfl, q⟩
  refine ⟨rfl, by decide, ?_⟩
  have sz : 16777216 ≤ sizeLine := by rw [PySem.sizeLine_eq]; omega
  unfold sm_law
  refine S_seq fun nx hnx => ?_
  try simp only [fi_law, ↓S_for, ↓I_rng1, ↓S_nil, ↓S_cons, ↓S_pass, ↓S_asg, ↓S_asgt, ↓S_par2, ↓S_par3, ↓S_subT, ↓S_expr, ↓S_ret, ↓S_retN, ↓S_ifs, ↓E_var, ↓E_cint, ↓E_cstr, ↓E_cbl, ↓E_cnon, ↓E_glob, ↓E_bin, ↓E_neg, ↓E_cmp, ↓E_chain, ↓E_andn, ↓E_orn, ↓E_notn, ↓E_ife, ↓E_tupn, ↓E_lstn, ↓E_dnew, ↓E_blt, ↓E_meth, ↓E_mut, ↓E_idx, ↓E_slc, ↓E_isi, ↓T_var, ↓T_cint, ↓T_cstr, ↓T_cbl, ↓T_glob, ↓T_bin, ↓T_cmp, ↓T_neg, ↓T_chain, ↓T_call, ↓T_blt, ↓T_meth, ↓T_idx, ↓T_slc, ↓T_isi, ↓T_comp, ↓T_tupn, ↓T_lstn, ↓T_andn, ↓T_orn, ↓T_notn, ↓T_ife, ↓T_nil, ↓O_nil, ↓O_var, ↓O_cint, ↓O_neg, ↓O_bin, ↓O_blt, ↓O_glob, ↓A_nil, ↓A_cons, ↓B_nil, ↓B_cons, ↓C_nil, ↓C_io, ↓C_im, ↓rd_im, ↓rd_fr, ↓rd_bo, ↓fz_im, ↓fz_fr, ↓fz_bo, ↓rds_nil, ↓rds_cons, ↓ret_im, ↓ret_fr, ↓ret_bo, ↓rdC_nil, ↓rdC_im, ↓rdC_fr, ↓rdC_bo, bos_nil, bos_im, bos_fr, bos_bo, nd_nil, nd_one, ↓putB_nil, ↓putB_im, ↓putB_fr, ↓putB_bo, ↓ex_some, ↓ex_int, ↓post_nx, ↓post_rt, tru_bl, tru_int, tru_lst, tru_tup, tru_non, cmp_eq_int, cmp_ne_int, cmp_lt_int, cmp_le_int, cmp_gt_int, cmp_ge_int, cmp_lt_str, finsE, env0, List.getElem?_cons_zero, List.getElem?_cons_succ, List.length_cons, List.length_nil, List.replicate, List.cons_append, List.nil_append, List.append_nil, reduceIte, Bool.not_true, Bool.not_false, Bool.false_eq_true, if_true, if_false, true_and, and_true, ite_true, ite_false, Option.map_some, List.set_cons_zero, List.set_cons_succ, dIsi, dBlt, dd_len, dd_min, un, ub, u_len, b_min, dBin, List.length_map]
  generalize hm : (if (6 : Int) < (ns.length : Int) then (6 : Int) else (ns.length : Int)) + 1 = m
  have m0 : 0 ≤ m ∧ m ≤ 7 := by split at hm <;> omega
  refine ⟨⟨by omega, by omega⟩, ?_⟩
  simp only [frzL]
  let S : List D → TG.Env → Prop := fun r e => (∀ d ∈ r, ∃ k : Nat, d = .int k) ∧ ∃ (s1 s2 s3 s4 : Sl), e = [.im (.scr (ns.map .int)), s1, s2, s3, s4] ∧ (∀ d, s1 ≠ .io d) ∧ (∀ d, s1 ≠ .lk d) ∧ (∀ d, s2 ≠ .io d) ∧ (∀ d, s2 ≠ .lk d) ∧ (∀ d, s3 ≠ .io d) ∧ (∀ d, s3 ≠ .lk d) ∧ (∀ d, s4 ≠ .io d) ∧ (∀ d, s4 ≠ .lk d)
  refine forW_state S (fun r e _ i h => nomatch h) (fun d r e nx2 hS hk => ?_) ⟨fun d hd => ?_, .un, .un, .un, .un, rfl, (fun _ h => nomatch h), (fun _ h => nomatch h), (fun _ h => nomatch h), (fun _ h => nomatch h), (fun _ h => nomatch h), (fun _ h => nomatch h), (fun _ h => nomatch h), (fun _ h => nomatch h)⟩ fun e hS => ?_
  · obtain ⟨hr, s1, s2, s3, s4, rfl, i1, i2, i3, i4, i5, i6, i7, i8⟩ := hS
    obtain ⟨k, rfl⟩ := hr d List.mem_cons_self
    have hr := fun d h => hr d (List.mem_cons_of_mem _ h)
    simp only [fturn, bindT]
    rw [st_some (s := s1) rfl i1 i2]
    refine S_seq fun nx3 hnx3 => ?_
    try simp only [↓S_nil, ↓S_cons, ↓S_pass, ↓S_asg, ↓S_asgt, ↓S_par2, ↓S_par3, ↓S_subT, ↓S_expr, ↓S_ret, ↓S_retN, ↓S_ifs, ↓E_var, ↓E_cint, ↓E_cstr, ↓E_cbl, ↓E_cnon, ↓E_glob, ↓E_bin, ↓E_neg, ↓E_cmp, ↓E_chain, ↓E_andn, ↓E_orn, ↓E_notn, ↓E_ife, ↓E_tupn, ↓E_lstn, ↓E_dnew, ↓E_blt, ↓E_meth, ↓E_mut, ↓E_idx, ↓E_slc, ↓E_isi, ↓T_var, ↓T_cint, ↓T_cstr, ↓T_cbl, ↓T_glob, ↓T_bin, ↓T_cmp, ↓T_neg, ↓T_chain, ↓T_call, ↓T_blt, ↓T_meth, ↓T_idx, ↓T_slc, ↓T_isi, ↓T_comp, ↓T_tupn, ↓T_lstn, ↓T_andn, ↓T_orn, ↓T_notn, ↓T_ife, ↓T_nil, ↓O_nil, ↓O_var, ↓O_cint, ↓O_neg, ↓O_bin, ↓O_blt, ↓O_glob, ↓A_nil, ↓A_cons, ↓B_nil, ↓B_cons, ↓C_nil, ↓C_io, ↓C_im, ↓rd_im, ↓rd_fr, ↓rd_bo, ↓fz_im, ↓fz_fr, ↓fz_bo, ↓rds_nil, ↓rds_cons, ↓ret_im, ↓ret_fr, ↓ret_bo, ↓rdC_nil, ↓rdC_im, ↓rdC_fr, ↓rdC_bo, bos_nil, bos_im, bos_fr, bos_bo, nd_nil, nd_one, ↓putB_nil, ↓putB_im, ↓putB_fr, ↓putB_bo, ↓ex_some, ↓ex_int, ↓post_nx, ↓post_rt, tru_bl, tru_int, tru_lst, tru_tup, tru_non, cmp_eq_int, cmp_ne_int, cmp_lt_int, cmp_le_int, cmp_gt_int, cmp_ge_int, cmp_lt_str, finsE, env0, List.getElem?_cons_zero, List.getElem?_cons_succ, List.length_cons, List.length_nil, List.replicate, List.cons_append, List.nil_append, List.append_nil, reduceIte, Bool.not_true, Bool.not_false, Bool.false_eq_true, if_true, if_false, true_and, and_true, ite_true, ite_false, Option.map_some, List.set_cons_zero, List.set_cons_succ, dIsi, ↓E_call' h2, ↓E_call' h1, fi__law_cell, fi__law_pot]
    refine ⟨ns, k, rfl, fun i => ?_⟩
    try simp only [↓S_nil, ↓S_cons, ↓S_pass, ↓S_asg, ↓S_asgt, ↓S_par2, ↓S_par3, ↓S_subT, ↓S_expr, ↓S_ret, ↓S_retN, ↓S_ifs, ↓E_var, ↓E_cint, ↓E_cstr, ↓E_cbl, ↓E_cnon, ↓E_glob, ↓E_bin, ↓E_neg, ↓E_cmp, ↓E_chain, ↓E_andn, ↓E_orn, ↓E_notn, ↓E_ife, ↓E_tupn, ↓E_lstn, ↓E_dnew, ↓E_blt, ↓E_meth, ↓E_mut, ↓E_idx, ↓E_slc, ↓E_isi, ↓T_var, ↓T_cint, ↓T_cstr, ↓T_cbl, ↓T_glob, ↓T_bin, ↓T_cmp, ↓T_neg, ↓T_chain, ↓T_call, ↓T_blt, ↓T_meth, ↓T_idx, ↓T_slc, ↓T_isi, ↓T_comp, ↓T_tupn, ↓T_lstn, ↓T_andn, ↓T_orn, ↓T_notn, ↓T_ife, ↓T_nil, ↓O_nil, ↓O_var, ↓O_cint, ↓O_neg, ↓O_bin, ↓O_blt, ↓O_glob, ↓A_nil, ↓A_cons, ↓B_nil, ↓B_cons, ↓C_nil, ↓C_io, ↓C_im, ↓rd_im, ↓rd_fr, ↓rd_bo, ↓fz_im, ↓fz_fr, ↓fz_bo, ↓rds_nil, ↓rds_cons, ↓ret_im, ↓ret_fr, ↓ret_bo, ↓rdC_nil, ↓rdC_im, ↓rdC_fr, ↓rdC_bo, bos_nil, bos_im, bos_fr, bos_bo, nd_nil, nd_one, ↓putB_nil, ↓putB_im, ↓putB_fr, ↓putB_bo, ↓ex_some, ↓ex_int, ↓post_nx, ↓post_rt, tru_bl, tru_int, tru_lst, tru_tup, tru_non, cmp_eq_int, cmp_ne_int, cmp_lt_int, cmp_le_int, cmp_gt_int, cmp_ge_int, cmp_lt_str, finsE, env0, List.getElem?_cons_zero, List.getElem?_cons_succ, List.length_cons, List.length_nil, List.replicate, List.cons_append, List.nil_append, List.append_nil, reduceIte, Bool.not_true, Bool.not_false, Bool.false_eq_true, if_true, if_false, true_and, and_true, ite_true, ite_false, Option.map_some, List.set_cons_zero, List.set_cons_succ, dIsi, ↓E_call' h2, fi__law_pot]
    refine ⟨i, rfl, fun p q1 pok => ?_⟩
    have st2 : ∀ K : TG.Env → Prop, stS 2 (.fr (potD p q1)) [.im (.scr (ns.map .int)), .im (.int k), s2, s3, s4] K = K [.im (.scr (ns.map .int)), .im (.int k), .ow (potD p q1), s3, s4] := fun K => by
      cases s2 <;> first | rfl | exact absurd rfl (i3 _) | exact absurd rfl (i4 _)
    try simp only [↓S_nil, ↓S_cons, ↓S_pass, ↓S_asg, ↓S_asgt, ↓S_par2, ↓S_par3, ↓S_subT, ↓S_expr, ↓S_ret, ↓S_retN, ↓S_ifs, ↓E_var, ↓E_cint, ↓E_cstr, ↓E_cbl, ↓E_cnon, ↓E_glob, ↓E_bin, ↓E_neg, ↓E_cmp, ↓E_chain, ↓E_andn, ↓E_orn, ↓E_notn, ↓E_ife, ↓E_tupn, ↓E_lstn, ↓E_dnew, ↓E_blt, ↓E_meth, ↓E_mut, ↓E_idx, ↓E_slc, ↓E_isi, ↓T_var, ↓T_cint, ↓T_cstr, ↓T_cbl, ↓T_glob, ↓T_bin, ↓T_cmp, ↓T_neg, ↓T_chain, ↓T_call, ↓T_blt, ↓T_meth, ↓T_idx, ↓T_slc, ↓T_isi, ↓T_comp, ↓T_tupn, ↓T_lstn, ↓T_andn, ↓T_orn, ↓T_notn, ↓T_ife, ↓T_nil, ↓O_nil, ↓O_var, ↓O_cint, ↓O_neg, ↓O_bin, ↓O_blt, ↓O_glob, ↓A_nil, ↓A_cons, ↓B_nil, ↓B_cons, ↓C_nil, ↓C_io, ↓C_im, ↓rd_im, ↓rd_fr, ↓rd_bo, ↓fz_im, ↓fz_fr, ↓fz_bo, ↓rds_nil, ↓rds_cons, ↓ret_im, ↓ret_fr, ↓ret_bo, ↓rdC_nil, ↓rdC_im, ↓rdC_fr, ↓rdC_bo, bos_nil, bos_im, bos_fr, bos_bo, nd_nil, nd_one, ↓putB_nil, ↓putB_im, ↓putB_fr, ↓putB_bo, ↓ex_some, ↓ex_int, ↓post_nx, ↓post_rt, tru_bl, tru_int, tru_lst, tru_tup, tru_non, cmp_eq_int, cmp_ne_int, cmp_lt_int, cmp_le_int, cmp_gt_int, cmp_ge_int, cmp_lt_str, finsE, env0, List.getElem?_cons_zero, List.getElem?_cons_succ, List.length_cons, List.length_nil, List.replicate, List.cons_append, List.nil_append, List.append_nil, reduceIte, Bool.not_true, Bool.not_false, Bool.false_eq_true, if_true, if_false, true_and, and_true, ite_true, ite_false, Option.map_some, List.set_cons_zero, List.set_cons_succ, dIsi, st2]
    rw [hnx3]
    refine S_seq fun nx4 hnx4 => ?_
    try simp only [↓S_nil, ↓S_cons, ↓S_pass, ↓S_asg, ↓S_asgt, ↓S_par2, ↓S_par3, ↓S_subT, ↓S_expr, ↓S_ret, ↓S_retN, ↓S_ifs, ↓E_var, ↓E_cint, ↓E_cstr, ↓E_cbl, ↓E_cnon, ↓E_glob, ↓E_bin, ↓E_neg, ↓E_cmp, ↓E_chain, ↓E_andn, ↓E_orn, ↓E_notn, ↓E_ife, ↓E_tupn, ↓E_lstn, ↓E_dnew, ↓E_blt, ↓E_meth, ↓E_mut, ↓E_idx, ↓E_slc, ↓E_isi, ↓T_var, ↓T_cint, ↓T_cstr, ↓T_cbl, ↓T_glob, ↓T_bin, ↓T_cmp, ↓T_neg, ↓T_chain, ↓T_call, ↓T_blt, ↓T_meth, ↓T_idx, ↓T_slc, ↓T_isi, ↓T_comp, ↓T_tupn, ↓T_lstn, ↓T_andn, ↓T_orn, ↓T_notn, ↓T_ife, ↓T_nil, ↓O_nil, ↓O_var, ↓O_cint, ↓O_neg, ↓O_bin, ↓O_blt, ↓O_glob, ↓A_nil, ↓A_cons, ↓B_nil, ↓B_cons, ↓C_nil, ↓C_io, ↓C_im, ↓rd_im, ↓rd_fr, ↓rd_bo, ↓fz_im, ↓fz_fr, ↓fz_bo, ↓rds_nil, ↓rds_cons, ↓ret_im, ↓ret_fr, ↓ret_bo, ↓rdC_nil, ↓rdC_im, ↓rdC_fr, ↓rdC_bo, bos_nil, bos_im, bos_fr, bos_bo, nd_nil, nd_one, ↓putB_nil, ↓putB_im, ↓putB_fr, ↓putB_bo, ↓ex_some, ↓ex_int, ↓post_nx, ↓post_rt, tru_bl, tru_int, tru_lst, tru_tup, tru_non, cmp_eq_int, cmp_ne_int, cmp_lt_int, cmp_le_int, cmp_gt_int, cmp_ge_int, cmp_lt_str, finsE, env0, List.getElem?_cons_zero, List.getElem?_cons_succ, List.length_cons, List.length_nil, List.replicate, List.cons_append, List.nil_append, List.append_nil, reduceIte, Bool.not_true, Bool.not_false, Bool.false_eq_true, if_true, if_false, true_and, and_true, ite_true, ite_false, Option.map_some, List.set_cons_zero, List.set_cons_succ, dIsi, ↓E_call' h3, fi__law_web, isOwnR, isOwn, potD]
    refine ⟨p, q1, rfl, pok, fun w p2 q2 wok w10 pok2 => ?_⟩
    try simp only [↓S_nil, ↓S_cons, ↓S_pass, ↓S_asg, ↓S_asgt, ↓S_par2, ↓S_par3, ↓S_subT, ↓S_expr, ↓S_ret, ↓S_retN, ↓S_ifs, ↓E_var, ↓E_cint, ↓E_cstr, ↓E_cbl, ↓E_cnon, ↓E_glob, ↓E_bin, ↓E_neg, ↓E_cmp, ↓E_chain, ↓E_andn, ↓E_orn, ↓E_notn, ↓E_ife, ↓E_tupn, ↓E_lstn, ↓E_dnew, ↓E_blt, ↓E_meth, ↓E_mut, ↓E_idx, ↓E_slc, ↓E_isi, ↓T_var, ↓T_cint, ↓T_cstr, ↓T_cbl, ↓T_glob, ↓T_bin, ↓T_cmp, ↓T_neg, ↓T_chain, ↓T_call, ↓T_blt, ↓T_meth, ↓T_idx, ↓T_slc, ↓T_isi, ↓T_comp, ↓T_tupn, ↓T_lstn, ↓T_andn, ↓T_orn, ↓T_notn, ↓T_ife, ↓T_nil, ↓O_nil, ↓O_var, ↓O_cint, ↓O_neg, ↓O_bin, ↓O_blt, ↓O_glob, ↓A_nil, ↓A_cons, ↓B_nil, ↓B_cons, ↓C_nil, ↓C_io, ↓C_im, ↓rd_im, ↓rd_fr, ↓rd_bo, ↓fz_im, ↓fz_fr, ↓fz_bo, ↓rds_nil, ↓rds_cons, ↓ret_im, ↓ret_fr, ↓ret_bo, ↓rdC_nil, ↓rdC_im, ↓rdC_fr, ↓rdC_bo, bos_nil, bos_im, bos_fr, bos_bo, nd_nil, nd_one, ↓putB_nil, ↓putB_im, ↓putB_fr, ↓putB_bo, ↓ex_some, ↓ex_int, ↓post_nx, ↓post_rt, tru_bl, tru_int, tru_lst, tru_tup, tru_non, cmp_eq_int, cmp_ne_int, cmp_lt_int, cmp_le_int, cmp_gt_int, cmp_ge_int, cmp_lt_str, finsE, env0, List.getElem?_cons_zero, List.getElem?_cons_succ, List.length_cons, List.length_nil, List.replicate, List.cons_append, List.nil_append, List.append_nil, reduceIte, Bool.not_true, Bool.not_false, Bool.false_eq_true, if_true, if_false, true_and, and_true, ite_true, ite_false, Option.map_some, List.set_cons_zero, List.set_cons_succ, dIsi, putS, potD]
    rw [st_some (s := s3) rfl i5 i6]
    try simp only [↓S_nil, ↓S_cons, ↓S_pass, ↓S_asg, ↓S_asgt, ↓S_par2, ↓S_par3, ↓S_subT, ↓S_expr, ↓S_ret, ↓S_retN, ↓S_ifs, ↓E_var, ↓E_cint, ↓E_cstr, ↓E_cbl, ↓E_cnon, ↓E_glob, ↓E_bin, ↓E_neg, ↓E_cmp, ↓E_chain, ↓E_andn, ↓E_orn, ↓E_notn, ↓E_ife, ↓E_tupn, ↓E_lstn, ↓E_dnew, ↓E_blt, ↓E_meth, ↓E_mut, ↓E_idx, ↓E_slc, ↓E_isi, ↓T_var, ↓T_cint, ↓T_cstr, ↓T_cbl, ↓T_glob, ↓T_bin, ↓T_cmp, ↓T_neg, ↓T_chain, ↓T_call, ↓T_blt, ↓T_meth, ↓T_idx, ↓T_slc, ↓T_isi, ↓T_comp, ↓T_tupn, ↓T_lstn, ↓T_andn, ↓T_orn, ↓T_notn, ↓T_ife, ↓T_nil, ↓O_nil, ↓O_var, ↓O_cint, ↓O_neg, ↓O_bin, ↓O_blt, ↓O_glob, ↓A_nil, ↓A_cons, ↓B_nil, ↓B_cons, ↓C_nil, ↓C_io, ↓C_im, ↓rd_im, ↓rd_fr, ↓rd_bo, ↓fz_im, ↓fz_fr, ↓fz_bo, ↓rds_nil, ↓rds_cons, ↓ret_im, ↓ret_fr, ↓ret_bo, ↓rdC_nil, ↓rdC_im, ↓rdC_fr, ↓rdC_bo, bos_nil, bos_im, bos_fr, bos_bo, nd_nil, nd_one, ↓putB_nil, ↓putB_im, ↓putB_fr, ↓putB_bo, ↓ex_some, ↓ex_int, ↓post_nx, ↓post_rt, tru_bl, tru_int, tru_lst, tru_tup, tru_non, cmp_eq_int, cmp_ne_int, cmp_lt_int, cmp_le_int, cmp_gt_int, cmp_ge_int, cmp_lt_str, finsE, env0, List.getElem?_cons_zero, List.getElem?_cons_succ, List.length_cons, List.length_nil, List.replicate, List.cons_append, List.nil_append, List.append_nil, reduceIte, Bool.not_true, Bool.not_false, Bool.false_eq_true, if_true, if_false, true_and, and_true, ite_true, ite_false, Option.map_some, List.set_cons_zero, List.set_cons_succ, dIsi]
    rw [hnx4]
    try simp only [webD, ↓S_for, ↓I_rng1, ↓S_nil, ↓S_cons, ↓S_pass, ↓S_asg, ↓S_asgt, ↓S_par2, ↓S_par3, ↓S_subT, ↓S_expr, ↓S_ret, ↓S_retN, ↓S_ifs, ↓E_var, ↓E_cint, ↓E_cstr, ↓E_cbl, ↓E_cnon, ↓E_glob, ↓E_bin, ↓E_neg, ↓E_cmp, ↓E_chain, ↓E_andn, ↓E_orn, ↓E_notn, ↓E_ife, ↓E_tupn, ↓E_lstn, ↓E_dnew, ↓E_blt, ↓E_meth, ↓E_mut, ↓E_idx, ↓E_slc, ↓E_isi, ↓T_var, ↓T_cint, ↓T_cstr, ↓T_cbl, ↓T_glob, ↓T_bin, ↓T_cmp, ↓T_neg, ↓T_chain, ↓T_call, ↓T_blt, ↓T_meth, ↓T_idx, ↓T_slc, ↓T_isi, ↓T_comp, ↓T_tupn, ↓T_lstn, ↓T_andn, ↓T_orn, ↓T_notn, ↓T_ife, ↓T_nil, ↓O_nil, ↓O_var, ↓O_cint, ↓O_neg, ↓O_bin, ↓O_blt, ↓O_glob, ↓A_nil, ↓A_cons, ↓B_nil, ↓B_cons, ↓C_nil, ↓C_io, ↓C_im, ↓rd_im, ↓rd_fr, ↓rd_bo, ↓fz_im, ↓fz_fr, ↓fz_bo, ↓rds_nil, ↓rds_cons, ↓ret_im, ↓ret_fr, ↓ret_bo, ↓rdC_nil, ↓rdC_im, ↓rdC_fr, ↓rdC_bo, bos_nil, bos_im, bos_fr, bos_bo, nd_nil, nd_one, ↓putB_nil, ↓putB_im, ↓putB_fr, ↓putB_bo, ↓ex_some, ↓ex_int, ↓post_nx, ↓post_rt, tru_bl, tru_int, tru_lst, tru_tup, tru_non, cmp_eq_int, cmp_ne_int, cmp_lt_int, cmp_le_int, cmp_gt_int, cmp_ge_int, cmp_lt_str, finsE, env0, List.getElem?_cons_zero, List.getElem?_cons_succ, List.length_cons, List.length_nil, List.replicate, List.cons_append, List.nil_append, List.append_nil, reduceIte, Bool.not_true, Bool.not_false, Bool.false_eq_true, if_true, if_false, true_and, and_true, ite_true, ite_false, Option.map_some, List.set_cons_zero, List.set_cons_succ, dIsi, dBlt, dd_len, dd_int, un, u_len, u_int, dBin, List.length_map, dIdx, at0]
    generalize hg : decide ((1 : Int) < (w.ps.length : Int)) = g
    refine ⟨IntMulOk.of_left (intBits_le_64 (by decide) (by decide)), ⟨by cases g <;> decide, by cases g <;> decide⟩, ?_⟩
    simp only [frzL]
    let S2 : List D → TG.Env → Prop := fun r e => (∀ d ∈ r, 2 ≤ w.ps.length ∧ ∃ k : Nat, d = .int k) ∧ ∃ (p q : Int) (s4 : Sl), PotOk p q ∧ e = [.im (.scr (ns.map .int)), .im (.int k), .ow (potD p q), .im (webD w), s4] ∧ (∀ d, s4 ≠ .io d) ∧ (∀ d, s4 ≠ .lk d)
    refine forW_state S2 (fun r e _ i h => nomatch h) (fun d r2 e nx5 hS2 hk2 => ?_) ⟨fun d hd => ?_, p2, q2, s4, pok2, rfl, i7, i8⟩ fun e hS2 => ?_
    · obtain ⟨hr2, p3, q3, s4, pok3, rfl, j1, j2⟩ := hS2
      obtain ⟨w2, k2, rfl⟩ := hr2 d List.mem_cons_self
      have hr2 := fun d h => hr2 d (List.mem_cons_of_mem _ h)
      simp only [fturn, bindT]
      rw [st_some (s := s4) rfl j1 j2]
      try simp only [↓S_nil, ↓S_cons, ↓S_pass, ↓S_asg, ↓S_asgt, ↓S_par2, ↓S_par3, ↓S_subT, ↓S_expr, ↓S_ret, ↓S_retN, ↓S_ifs, ↓E_var, ↓E_cint, ↓E_cstr, ↓E_cbl, ↓E_cnon, ↓E_glob, ↓E_bin, ↓E_neg, ↓E_cmp, ↓E_chain, ↓E_andn, ↓E_orn, ↓E_notn, ↓E_ife, ↓E_tupn, ↓E_lstn, ↓E_dnew, ↓E_blt, ↓E_meth, ↓E_mut, ↓E_idx, ↓E_slc, ↓E_isi, ↓T_var, ↓T_cint, ↓T_cstr, ↓T_cbl, ↓T_glob, ↓T_bin, ↓T_cmp, ↓T_neg, ↓T_chain, ↓T_call, ↓T_blt, ↓T_meth, ↓T_idx, ↓T_slc, ↓T_isi, ↓T_comp, ↓T_tupn, ↓T_lstn, ↓T_andn, ↓T_orn, ↓T_notn, ↓T_ife, ↓T_nil, ↓O_nil, ↓O_var, ↓O_cint, ↓O_neg, ↓O_bin, ↓O_blt, ↓O_glob, ↓A_nil, ↓A_cons, ↓B_nil, ↓B_cons, ↓C_nil, ↓C_io, ↓C_im, ↓rd_im, ↓rd_fr, ↓rd_bo, ↓fz_im, ↓fz_fr, ↓fz_bo, ↓rds_nil, ↓rds_cons, ↓ret_im, ↓ret_fr, ↓ret_bo, ↓rdC_nil, ↓rdC_im, ↓rdC_fr, ↓rdC_bo, bos_nil, bos_im, bos_fr, bos_bo, nd_nil, nd_one, ↓putB_nil, ↓putB_im, ↓putB_fr, ↓putB_bo, ↓ex_some, ↓ex_int, ↓post_nx, ↓post_rt, tru_bl, tru_int, tru_lst, tru_tup, tru_non, cmp_eq_int, cmp_ne_int, cmp_lt_int, cmp_le_int, cmp_gt_int, cmp_ge_int, cmp_lt_str, finsE, env0, List.getElem?_cons_zero, List.getElem?_cons_succ, List.length_cons, List.length_nil, List.replicate, List.cons_append, List.nil_append, List.append_nil, reduceIte, Bool.not_true, Bool.not_false, Bool.false_eq_true, if_true, if_false, true_and, and_true, ite_true, ite_false, Option.map_some, List.set_cons_zero, List.set_cons_succ, dIsi, ↓E_call' h5, ↓E_call' h4, fi__law_right, fi__law_lot, isOwnR, isOwn, potD]
      refine ⟨p3, q3, w, rfl, pok3, wok, w2, w10, fun l p4 q4 lo pok4 => ?_⟩
      try simp only [↓S_nil, ↓S_cons, ↓S_pass, ↓S_asg, ↓S_asgt, ↓S_par2, ↓S_par3, ↓S_subT, ↓S_expr, ↓S_ret, ↓S_retN, ↓S_ifs, ↓E_var, ↓E_cint, ↓E_cstr, ↓E_cbl, ↓E_cnon, ↓E_glob, ↓E_bin, ↓E_neg, ↓E_cmp, ↓E_chain, ↓E_andn, ↓E_orn, ↓E_notn, ↓E_ife, ↓E_tupn, ↓E_lstn, ↓E_dnew, ↓E_blt, ↓E_meth, ↓E_mut, ↓E_idx, ↓E_slc, ↓E_isi, ↓T_var, ↓T_cint, ↓T_cstr, ↓T_cbl, ↓T_glob, ↓T_bin, ↓T_cmp, ↓T_neg, ↓T_chain, ↓T_call, ↓T_blt, ↓T_meth, ↓T_idx, ↓T_slc, ↓T_isi, ↓T_comp, ↓T_tupn, ↓T_lstn, ↓T_andn, ↓T_orn, ↓T_notn, ↓T_ife, ↓T_nil, ↓O_nil, ↓O_var, ↓O_cint, ↓O_neg, ↓O_bin, ↓O_blt, ↓O_glob, ↓A_nil, ↓A_cons, ↓B_nil, ↓B_cons, ↓C_nil, ↓C_io, ↓C_im, ↓rd_im, ↓rd_fr, ↓rd_bo, ↓fz_im, ↓fz_fr, ↓fz_bo, ↓rds_nil, ↓rds_cons, ↓ret_im, ↓ret_fr, ↓ret_bo, ↓rdC_nil, ↓rdC_im, ↓rdC_fr, ↓rdC_bo, bos_nil, bos_im, bos_fr, bos_bo, nd_nil, nd_one, ↓putB_nil, ↓putB_im, ↓putB_fr, ↓putB_bo, ↓ex_some, ↓ex_int, ↓post_nx, ↓post_rt, tru_bl, tru_int, tru_lst, tru_tup, tru_non, cmp_eq_int, cmp_ne_int, cmp_lt_int, cmp_le_int, cmp_gt_int, cmp_ge_int, cmp_lt_str, finsE, env0, List.getElem?_cons_zero, List.getElem?_cons_succ, List.length_cons, List.length_nil, List.replicate, List.cons_append, List.nil_append, List.append_nil, reduceIte, Bool.not_true, Bool.not_false, Bool.false_eq_true, if_true, if_false, true_and, and_true, ite_true, ite_false, Option.map_some, List.set_cons_zero, List.set_cons_succ, dIsi, putS, potD, ↓E_call' h4, fi__law_lot, isOwnR, isOwn]
      refine ⟨p4, q4, w, rfl, pok4, wok, w2, w10, fun l2 p5 q5 lo2 pok5 => ?_⟩
      try simp only [↓S_nil, ↓S_cons, ↓S_pass, ↓S_asg, ↓S_asgt, ↓S_par2, ↓S_par3, ↓S_subT, ↓S_expr, ↓S_ret, ↓S_retN, ↓S_ifs, ↓E_var, ↓E_cint, ↓E_cstr, ↓E_cbl, ↓E_cnon, ↓E_glob, ↓E_bin, ↓E_neg, ↓E_cmp, ↓E_chain, ↓E_andn, ↓E_orn, ↓E_notn, ↓E_ife, ↓E_tupn, ↓E_lstn, ↓E_dnew, ↓E_blt, ↓E_meth, ↓E_mut, ↓E_idx, ↓E_slc, ↓E_isi, ↓T_var, ↓T_cint, ↓T_cstr, ↓T_cbl, ↓T_glob, ↓T_bin, ↓T_cmp, ↓T_neg, ↓T_chain, ↓T_call, ↓T_blt, ↓T_meth, ↓T_idx, ↓T_slc, ↓T_isi, ↓T_comp, ↓T_tupn, ↓T_lstn, ↓T_andn, ↓T_orn, ↓T_notn, ↓T_ife, ↓T_nil, ↓O_nil, ↓O_var, ↓O_cint, ↓O_neg, ↓O_bin, ↓O_blt, ↓O_glob, ↓A_nil, ↓A_cons, ↓B_nil, ↓B_cons, ↓C_nil, ↓C_io, ↓C_im, ↓rd_im, ↓rd_fr, ↓rd_bo, ↓fz_im, ↓fz_fr, ↓fz_bo, ↓rds_nil, ↓rds_cons, ↓ret_im, ↓ret_fr, ↓ret_bo, ↓rdC_nil, ↓rdC_im, ↓rdC_fr, ↓rdC_bo, bos_nil, bos_im, bos_fr, bos_bo, nd_nil, nd_one, ↓putB_nil, ↓putB_im, ↓putB_fr, ↓putB_bo, ↓ex_some, ↓ex_int, ↓post_nx, ↓post_rt, tru_bl, tru_int, tru_lst, tru_tup, tru_non, cmp_eq_int, cmp_ne_int, cmp_lt_int, cmp_le_int, cmp_gt_int, cmp_ge_int, cmp_lt_str, finsE, env0, List.getElem?_cons_zero, List.getElem?_cons_succ, List.length_cons, List.length_nil, List.replicate, List.cons_append, List.nil_append, List.append_nil, reduceIte, Bool.not_true, Bool.not_false, Bool.false_eq_true, if_true, if_false, true_and, and_true, ite_true, ite_false, Option.map_some, List.set_cons_zero, List.set_cons_succ, dIsi, putS, potD]
      refine ⟨w, l, l2, rfl, wok, w10, lo, lo2, ?_⟩
      try simp only [↓S_nil, ↓S_cons, ↓S_pass, ↓S_asg, ↓S_asgt, ↓S_par2, ↓S_par3, ↓S_subT, ↓S_expr, ↓S_ret, ↓S_retN, ↓S_ifs, ↓E_var, ↓E_cint, ↓E_cstr, ↓E_cbl, ↓E_cnon, ↓E_glob, ↓E_bin, ↓E_neg, ↓E_cmp, ↓E_chain, ↓E_andn, ↓E_orn, ↓E_notn, ↓E_ife, ↓E_tupn, ↓E_lstn, ↓E_dnew, ↓E_blt, ↓E_meth, ↓E_mut, ↓E_idx, ↓E_slc, ↓E_isi, ↓T_var, ↓T_cint, ↓T_cstr, ↓T_cbl, ↓T_glob, ↓T_bin, ↓T_cmp, ↓T_neg, ↓T_chain, ↓T_call, ↓T_blt, ↓T_meth, ↓T_idx, ↓T_slc, ↓T_isi, ↓T_comp, ↓T_tupn, ↓T_lstn, ↓T_andn, ↓T_orn, ↓T_notn, ↓T_ife, ↓T_nil, ↓O_nil, ↓O_var, ↓O_cint, ↓O_neg, ↓O_bin, ↓O_blt, ↓O_glob, ↓A_nil, ↓A_cons, ↓B_nil, ↓B_cons, ↓C_nil, ↓C_io, ↓C_im, ↓rd_im, ↓rd_fr, ↓rd_bo, ↓fz_im, ↓fz_fr, ↓fz_bo, ↓rds_nil, ↓rds_cons, ↓ret_im, ↓ret_fr, ↓ret_bo, ↓rdC_nil, ↓rdC_im, ↓rdC_fr, ↓rdC_bo, bos_nil, bos_im, bos_fr, bos_bo, nd_nil, nd_one, ↓putB_nil, ↓putB_im, ↓putB_fr, ↓putB_bo, ↓ex_some, ↓ex_int, ↓post_nx, ↓post_rt, tru_bl, tru_int, tru_lst, tru_tup, tru_non, cmp_eq_int, cmp_ne_int, cmp_lt_int, cmp_le_int, cmp_gt_int, cmp_ge_int, cmp_lt_str, finsE, env0, List.getElem?_cons_zero, List.getElem?_cons_succ, List.length_cons, List.length_nil, List.replicate, List.cons_append, List.nil_append, List.append_nil, reduceIte, Bool.not_true, Bool.not_false, Bool.false_eq_true, if_true, if_false, true_and, and_true, ite_true, ite_false, Option.map_some, List.set_cons_zero, List.set_cons_succ, dIsi]
      exact hk2 _ ⟨hr2, p5, q5, _, pok5, rfl, (fun _ h => nomatch h), (fun _ h => nomatch h)⟩
    · obtain ⟨k2, hk2, rfl⟩ := List.mem_map.mp hd
      refine ⟨?_, k2, rfl⟩
      have := List.mem_range.mp hk2
      cases g with
      | true =>
        have := of_decide_eq_true hg
        omega
      | false => simp at this
    · obtain ⟨_, p3, q3, s4, pok3, rfl, j1, j2⟩ := hS2
      exact hk _ ⟨hr, _, _, _, _, rfl, (fun _ h => nomatch h), (fun _ h => nomatch h), (fun _ h => nomatch h), (fun _ h => nomatch h), (fun _ h => nomatch h), (fun _ h => nomatch h), j1, j2⟩
  · obtain ⟨k, _, rfl⟩ := List.mem_map.mp hd
    exact ⟨k, rfl⟩
  · obtain ⟨_, s1, s2, s3, s4, rfl, _⟩ := hS
    rw [hnx]
    try simp only [↓S_nil, ↓S_cons, ↓S_pass, ↓S_asg, ↓S_asgt, ↓S_par2, ↓S_par3, ↓S_subT, ↓S_expr, ↓S_ret, ↓S_retN, ↓S_ifs, ↓E_var, ↓E_cint, ↓E_cstr, ↓E_cbl, ↓E_cnon, ↓E_glob, ↓E_bin, ↓E_neg, ↓E_cmp, ↓E_chain, ↓E_andn, ↓E_orn, ↓E_notn, ↓E_ife, ↓E_tupn, ↓E_lstn, ↓E_dnew, ↓E_blt, ↓E_meth, ↓E_mut, ↓E_idx, ↓E_slc, ↓E_isi, ↓T_var, ↓T_cint, ↓T_cstr, ↓T_cbl, ↓T_glob, ↓T_bin, ↓T_cmp, ↓T_neg, ↓T_chain, ↓T_call, ↓T_blt, ↓T_meth, ↓T_idx, ↓T_slc, ↓T_isi, ↓T_comp, ↓T_tupn, ↓T_lstn, ↓T_andn, ↓T_orn, ↓T_notn, ↓T_ife, ↓T_nil, ↓O_nil, ↓O_var, ↓O_cint, ↓O_neg, ↓O_bin, ↓O_blt, ↓O_glob, ↓A_nil, ↓A_cons, ↓B_nil, ↓B_cons, ↓C_nil, ↓C_io, ↓C_im, ↓rd_im, ↓rd_fr, ↓rd_bo, ↓fz_im, ↓fz_fr, ↓fz_bo, ↓rds_nil, ↓rds_cons, ↓ret_im, ↓ret_fr, ↓ret_bo, ↓rdC_nil, ↓rdC_im, ↓rdC_fr, ↓rdC_bo, bos_nil, bos_im, bos_fr, bos_bo, nd_nil, nd_one, ↓putB_nil, ↓putB_im, ↓putB_fr, ↓putB_bo, ↓ex_some, ↓ex_int, ↓post_nx, ↓post_rt, tru_bl, tru_int, tru_lst, tru_tup, tru_non, cmp_eq_int, cmp_ne_int, cmp_lt_int, cmp_le_int, cmp_gt_int, cmp_ge_int, cmp_lt_str, finsE, env0, List.getElem?_cons_zero, List.getElem?_cons_succ, List.length_cons, List.length_nil, List.replicate, List.cons_append, List.nil_append, List.append_nil, reduceIte, Bool.not_true, Bool.not_false, Bool.false_eq_true, if_true, if_false, true_and, and_true, ite_true, ite_false, Option.map_some, List.set_cons_zero, List.set_cons_succ, dIsi]
    first | exact q | exact ⟨[], rfl, q⟩
end LW
end
namespace LW
open PySem TG
def df_is_whole : Df := { x := "is_whole", qual := "is_whole", st := topS 9, N := N_is_whole, ps := ps_is_whole, sm := sm_is_whole, fi := fi_is_whole }
theorem tx_is_whole : DfTxt bl df_is_whole := ⟨⟨rfl, rfl, rfl, by decide +kernel, rfl, by decide +kernel, by decide +kernel⟩, rfl, by decide +kernel⟩
theorem ba_is_whole : BindsA "is_whole" (topS 9) ps_is_whole := fun _ _ _ _ _ _ us hl => match us, hl with | [_], _ => rfl
def df_is_name : Df := { x := "is_name", qual := "is_name", st := topS 10, N := N_is_name, ps := ps_is_name, sm := sm_is_name, fi := fi_is_name }
theorem tx_is_name : DfTxt bl df_is_name := ⟨⟨rfl, rfl, rfl, by decide +kernel, rfl, by decide +kernel, by decide +kernel⟩, rfl, by decide +kernel⟩
theorem ba_is_name : BindsA "is_name" (topS 10) ps_is_name := fun _ _ _ _ _ _ us hl => match us, hl with | [_], _ => rfl
def df_are_rising : Df := { x := "are_rising", qual := "are_rising", st := topS 11, N := N_are_rising, ps := ps_are_rising, sm := sm_are_rising, fi := fi_are_rising }
theorem tx_are_rising : DfTxt bl df_are_rising := ⟨⟨rfl, rfl, rfl, by decide +kernel, rfl, by decide +kernel, by decide +kernel⟩, rfl, by decide +kernel⟩
theorem ba_are_rising : BindsA "are_rising" (topS 11) ps_are_rising := fun _ _ _ _ _ _ us hl => match us, hl with | [_], _ => rfl
def df_is_place_of : Df := { x := "is_place_of", qual := "is_place_of", st := topS 12, N := N_is_place_of, ps := ps_is_place_of, sm := sm_is_place_of, fi := fi_is_place_of }
theorem tx_is_place_of : DfTxt bl df_is_place_of := ⟨⟨rfl, rfl, rfl, by decide +kernel, rfl, by decide +kernel, by decide +kernel⟩, rfl, by decide +kernel⟩
theorem ba_is_place_of : BindsA "is_place_of" (topS 12) ps_is_place_of := fun _ _ _ _ _ _ us hl => match us, hl with | [_, _], _ => rfl
def df_are_places : Df := { x := "are_places", qual := "are_places", st := topS 13, N := N_are_places, ps := ps_are_places, sm := sm_are_places, fi := fi_are_places }
theorem tx_are_places : DfTxt bl df_are_places := ⟨⟨rfl, rfl, rfl, by decide +kernel, rfl, by decide +kernel, by decide +kernel⟩, rfl, by decide +kernel⟩
theorem ba_are_places : BindsA "are_places" (topS 13) ps_are_places := fun _ _ _ _ _ _ us hl => match us, hl with | [_], _ => rfl
def df_is_tie : Df := { x := "is_tie", qual := "is_tie", st := topS 14, N := N_is_tie, ps := ps_is_tie, sm := sm_is_tie, fi := fi_is_tie }
theorem tx_is_tie : DfTxt bl df_is_tie := ⟨⟨rfl, rfl, rfl, by decide +kernel, rfl, by decide +kernel, by decide +kernel⟩, rfl, by decide +kernel⟩
theorem ba_is_tie : BindsA "is_tie" (topS 14) ps_is_tie := fun _ _ _ _ _ _ us hl => match us, hl with | [_, _], _ => rfl
def df_is_web : Df := { x := "is_web", qual := "is_web", st := topS 15, N := N_is_web, ps := ps_is_web, sm := sm_is_web, fi := fi_is_web }
theorem tx_is_web : DfTxt bl df_is_web := ⟨⟨rfl, rfl, rfl, by decide +kernel, rfl, by decide +kernel, by decide +kernel⟩, rfl, by decide +kernel⟩
theorem ba_is_web : BindsA "is_web" (topS 15) ps_is_web := fun _ _ _ _ _ _ us hl => match us, hl with | [_], _ => rfl
def df_want_web : Df := { x := "want_web", qual := "want_web", st := topS 16, N := N_want_web, ps := ps_want_web, sm := sm_want_web, fi := fi_want_web }
theorem tx_want_web : DfTxt bl df_want_web := ⟨⟨rfl, rfl, rfl, by decide +kernel, rfl, by decide +kernel, by decide +kernel⟩, rfl, by decide +kernel⟩
theorem ba_want_web : BindsA "want_web" (topS 16) ps_want_web := fun _ _ _ _ _ _ us hl => match us, hl with | [_], _ => rfl
def df_is_lot_of : Df := { x := "is_lot_of", qual := "is_lot_of", st := topS 18, N := N_is_lot_of, ps := ps_is_lot_of, sm := sm_is_lot_of, fi := fi_is_lot_of }
theorem tx_is_lot_of : DfTxt bl df_is_lot_of := ⟨⟨rfl, rfl, rfl, by decide +kernel, rfl, by decide +kernel, by decide +kernel⟩, rfl, by decide +kernel⟩
theorem ba_is_lot_of : BindsA "is_lot_of" (topS 18) ps_is_lot_of := fun _ _ _ _ _ _ us hl => match us, hl with | [_, _], _ => rfl
def df_want_lot : Df := { x := "want_lot", qual := "want_lot", st := topS 19, N := N_want_lot, ps := ps_want_lot, sm := sm_want_lot, fi := fi_want_lot }
theorem tx_want_lot : DfTxt bl df_want_lot := ⟨⟨rfl, rfl, rfl, by decide +kernel, rfl, by decide +kernel, by decide +kernel⟩, rfl, by decide +kernel⟩
theorem ba_want_lot : BindsA "want_lot" (topS 19) ps_want_lot := fun _ _ _ _ _ _ us hl => match us, hl with | [_, _], _ => rfl
def df_leaves : Df := { x := "leaves", qual := "leaves", st := topS 20, N := N_leaves, ps := ps_leaves, sm := sm_leaves, fi := fi_leaves }
theorem tx_leaves : DfTxt bl df_leaves := ⟨⟨rfl, rfl, rfl, by decide +kernel, rfl, by decide +kernel, by decide +kernel⟩, rfl, by decide +kernel⟩
theorem ba_leaves : BindsA "leaves" (topS 20) ps_leaves := fun _ _ _ _ _ _ us hl => match us, hl with | [_, _], _ => rfl
def df_rows_of : Df := { x := "rows_of", qual := "rows_of", st := topS 21, N := N_rows_of, ps := ps_rows_of, sm := sm_rows_of, fi := fi_rows_of }
theorem tx_rows_of : DfTxt bl df_rows_of := ⟨⟨rfl, rfl, rfl, by decide +kernel, rfl, by decide +kernel, by decide +kernel⟩, rfl, by decide +kernel⟩
theorem ba_rows_of : BindsA "rows_of" (topS 21) ps_rows_of := fun _ _ _ _ _ _ us hl => match us, hl with | [_, _], _ => rfl
def df_room_sum : Df := { x := "room_sum", qual := "room_sum", st := topS 22, N := N_room_sum, ps := ps_room_sum, sm := sm_room_sum, fi := fi_room_sum }
theorem tx_room_sum : DfTxt bl df_room_sum := ⟨⟨rfl, rfl, rfl, by decide +kernel, rfl, by decide +kernel, by decide +kernel⟩, rfl, by decide +kernel⟩
theorem ba_room_sum : BindsA "room_sum" (topS 22) ps_room_sum := fun _ _ _ _ _ _ us hl => match us, hl with | [_, _], _ => rfl
def df_rest_of : Df := { x := "rest_of", qual := "rest_of", st := topS 23, N := N_rest_of, ps := ps_rest_of, sm := sm_rest_of, fi := fi_rest_of }
theorem tx_rest_of : DfTxt bl df_rest_of := ⟨⟨rfl, rfl, rfl, by decide +kernel, rfl, by decide +kernel, by decide +kernel⟩, rfl, by decide +kernel⟩
theorem ba_rest_of : BindsA "rest_of" (topS 23) ps_rest_of := fun _ _ _ _ _ _ us hl => match us, hl with | [_, _], _ => rfl
def df_ties_of : Df := { x := "ties_of", qual := "ties_of", st := topS 24, N := N_ties_of, ps := ps_ties_of, sm := sm_ties_of, fi := fi_ties_of }
theorem tx_ties_of : DfTxt bl df_ties_of := ⟨⟨rfl, rfl, rfl, by decide +kernel, rfl, by decide +kernel, by decide +kernel⟩, rfl, by decide +kernel⟩
theorem ba_ties_of : BindsA "ties_of" (topS 24) ps_ties_of := fun _ _ _ _ _ _ us hl => match us, hl with | [_, _], _ => rfl
def df_lot_room : Df := { x := "lot_room", qual := "lot_room", st := topS 25, N := N_lot_room, ps := ps_lot_room, sm := sm_lot_room, fi := fi_lot_room }
theorem tx_lot_room : DfTxt bl df_lot_room := ⟨⟨rfl, rfl, rfl, by decide +kernel, rfl, by decide +kernel, by decide +kernel⟩, rfl, by decide +kernel⟩
theorem ba_lot_room : BindsA "lot_room" (topS 25) ps_lot_room := fun _ _ _ _ _ _ us hl => match us, hl with | [_, _], _ => rfl
def df_other_side : Df := { x := "other_side", qual := "other_side", st := topS 26, N := N_other_side, ps := ps_other_side, sm := sm_other_side, fi := fi_other_side }
theorem tx_other_side : DfTxt bl df_other_side := ⟨⟨rfl, rfl, rfl, by decide +kernel, rfl, by decide +kernel, by decide +kernel⟩, rfl, by decide +kernel⟩
theorem ba_other_side : BindsA "other_side" (topS 26) ps_other_side := fun _ _ _ _ _ _ us hl => match us, hl with | [_, _], _ => rfl
def df__law_cell : Df := { x := "_law_cell", qual := "_law_cell", st := topS 28, N := N__law_cell, ps := ps__law_cell, sm := sm__law_cell, fi := fi__law_cell }
theorem tx__law_cell : DfTxt bl df__law_cell := ⟨⟨rfl, rfl, rfl, by decide +kernel, rfl, by decide +kernel, by decide +kernel⟩, rfl, by decide +kernel⟩
theorem ba__law_cell : BindsA "_law_cell" (topS 28) ps__law_cell := fun _ _ _ _ _ _ us hl => match us, hl with | [_, _], _ => rfl
def df__law_pot : Df := { x := "_law_pot", qual := "_law_pot", st := topS 29, N := N__law_pot, ps := ps__law_pot, sm := sm__law_pot, fi := fi__law_pot }
theorem tx__law_pot : DfTxt bl df__law_pot := ⟨⟨rfl, rfl, rfl, by decide +kernel, rfl, by decide +kernel, by decide +kernel⟩, rfl, by decide +kernel⟩
theorem ba__law_pot : BindsA "_law_pot" (topS 29) ps__law_pot := fun _ _ _ _ _ _ us hl => match us, hl with | [_], _ => rfl
def df__law_draw : Df := { x := "_law_draw", qual := "_law_draw", st := topS 30, N := N__law_draw, ps := ps__law_draw, sm := sm__law_draw, fi := fi__law_draw }
theorem tx__law_draw : DfTxt bl df__law_draw := ⟨⟨rfl, rfl, rfl, by decide +kernel, rfl, by decide +kernel, by decide +kernel⟩, rfl, by decide +kernel⟩
theorem ba__law_draw : BindsA "_law_draw" (topS 30) ps__law_draw := fun _ _ _ _ _ _ us hl => match us, hl with | [_, _], _ => rfl
def df__law_great : Df := { x := "_law_great", qual := "_law_great", st := topS 31, N := N__law_great, ps := ps__law_great, sm := sm__law_great, fi := fi__law_great }
theorem tx__law_great : DfTxt bl df__law_great := ⟨⟨rfl, rfl, rfl, by decide +kernel, rfl, by decide +kernel, by decide +kernel⟩, rfl, by decide +kernel⟩
theorem ba__law_great : BindsA "_law_great" (topS 31) ps__law_great := fun _ _ _ _ _ _ us hl => match us, hl with | [_, _], _ => rfl
def df__law_names : Df := { x := "_law_names", qual := "_law_names", st := topS 32, N := N__law_names, ps := ps__law_names, sm := sm__law_names, fi := fi__law_names }
theorem tx__law_names : DfTxt bl df__law_names := ⟨⟨rfl, rfl, rfl, by decide +kernel, rfl, by decide +kernel, by decide +kernel⟩, rfl, by decide +kernel⟩
theorem ba__law_names : BindsA "_law_names" (topS 32) ps__law_names := fun _ _ _ _ _ _ us hl => match us, hl with | [_, _], _ => rfl
def df__law_room : Df := { x := "_law_room", qual := "_law_room", st := topS 33, N := N__law_room, ps := ps__law_room, sm := sm__law_room, fi := fi__law_room }
theorem tx__law_room : DfTxt bl df__law_room := ⟨⟨rfl, rfl, rfl, by decide +kernel, rfl, by decide +kernel, by decide +kernel⟩, rfl, by decide +kernel⟩
theorem ba__law_room : BindsA "_law_room" (topS 33) ps__law_room := fun _ _ _ _ _ _ us hl => match us, hl with | [_, _], _ => rfl
def df__law_web : Df := { x := "_law_web", qual := "_law_web", st := topS 34, N := N__law_web, ps := ps__law_web, sm := sm__law_web, fi := fi__law_web }
theorem tx__law_web : DfTxt bl df__law_web := ⟨⟨rfl, rfl, rfl, by decide +kernel, rfl, by decide +kernel, by decide +kernel⟩, rfl, by decide +kernel⟩
theorem ba__law_web : BindsA "_law_web" (topS 34) ps__law_web := fun _ _ _ _ _ _ us hl => match us, hl with | [_], _ => rfl
def df__law_lots : Df := { x := "_law_lots", qual := "_law_lots", st := topS 35, N := N__law_lots, ps := ps__law_lots, sm := sm__law_lots, fi := fi__law_lots }
theorem tx__law_lots : DfTxt bl df__law_lots := ⟨⟨rfl, rfl, rfl, by decide +kernel, rfl, by decide +kernel, by decide +kernel⟩, rfl, by decide +kernel⟩
theorem ba__law_lots : BindsA "_law_lots" (topS 35) ps__law_lots := fun _ _ _ _ _ _ us hl => match us, hl with | [_], _ => rfl
def df__law_lot : Df := { x := "_law_lot", qual := "_law_lot", st := topS 36, N := N__law_lot, ps := ps__law_lot, sm := sm__law_lot, fi := fi__law_lot }
theorem tx__law_lot : DfTxt bl df__law_lot := ⟨⟨rfl, rfl, rfl, by decide +kernel, rfl, by decide +kernel, by decide +kernel⟩, rfl, by decide +kernel⟩
theorem ba__law_lot : BindsA "_law_lot" (topS 36) ps__law_lot := fun _ _ _ _ _ _ us hl => match us, hl with | [_, _], _ => rfl
def df__law_room_of : Df := { x := "_law_room_of", qual := "_law_room_of", st := topS 37, N := N__law_room_of, ps := ps__law_room_of, sm := sm__law_room_of, fi := fi__law_room_of }
theorem tx__law_room_of : DfTxt bl df__law_room_of := ⟨⟨rfl, rfl, rfl, by decide +kernel, rfl, by decide +kernel, by decide +kernel⟩, rfl, by decide +kernel⟩
theorem ba__law_room_of : BindsA "_law_room_of" (topS 37) ps__law_room_of := fun _ _ _ _ _ _ us hl => match us, hl with | [_, _], _ => rfl
def df__law_sides_right : Df := { x := "_law_sides_right", qual := "_law_sides_right", st := topS 38, N := N__law_sides_right, ps := ps__law_sides_right, sm := sm__law_sides_right, fi := fi__law_sides_right }
theorem tx__law_sides_right : DfTxt bl df__law_sides_right := ⟨⟨rfl, rfl, rfl, by decide +kernel, rfl, by decide +kernel, by decide +kernel⟩, rfl, by decide +kernel⟩
theorem ba__law_sides_right : BindsA "_law_sides_right" (topS 38) ps__law_sides_right := fun _ _ _ _ _ _ us hl => match us, hl with | [_, _], _ => rfl
def df__law_right : Df := { x := "_law_right", qual := "_law_right", st := topS 39, N := N__law_right, ps := ps__law_right, sm := sm__law_right, fi := fi__law_right }
theorem tx__law_right : DfTxt bl df__law_right := ⟨⟨rfl, rfl, rfl, by decide +kernel, rfl, by decide +kernel, by decide +kernel⟩, rfl, by decide +kernel⟩
theorem ba__law_right : BindsA "_law_right" (topS 39) ps__law_right := fun _ _ _ _ _ _ us hl => match us, hl with | [_, _, _], _ => rfl
def df_law : Df := { x := "law", qual := "law", st := topS 40, N := N_law, ps := ps_law, sm := sm_law, fi := fi_law }
theorem tx_law : DfTxt bl df_law := ⟨⟨rfl, rfl, rfl, by decide +kernel, rfl, by decide +kernel, by decide +kernel⟩, rfl, by decide +kernel⟩
theorem ba_law : BindsA "law" (topS 40) ps_law := fun _ _ _ _ _ _ us hl => match us, hl with | [_], _ => rfl
def rest : List Df := [df__law_right, df__law_sides_right, df__law_room_of, df__law_lot, df__law_lots, df__law_web, df__law_room, df__law_names, df__law_great, df__law_draw, df__law_pot, df__law_cell, df_other_side, df_lot_room, df_ties_of, df_rest_of, df_room_sum, df_rows_of, df_leaves, df_want_lot, df_is_lot_of, df_want_web, df_is_web, df_is_tie, df_are_places, df_is_place_of, df_are_rising, df_is_name, df_is_whole]
theorem tx_all : AllD (DfTxt bl) (df_law :: rest) := ⟨tx_law, tx__law_right, tx__law_sides_right, tx__law_room_of, tx__law_lot, tx__law_lots, tx__law_web, tx__law_room, tx__law_names, tx__law_great, tx__law_draw, tx__law_pot, tx__law_cell, tx_other_side, tx_lot_room, tx_ties_of, tx_rest_of, tx_room_sum, tx_rows_of, tx_leaves, tx_want_lot, tx_is_lot_of, tx_want_web, tx_is_web, tx_is_tie, tx_are_places, tx_is_place_of, tx_are_rising, tx_is_name, tx_is_whole, trivial⟩
theorem ba_all : AllD (fun e => BindsA e.x e.st e.ps) (df_law :: rest) := ⟨ba_law, ba__law_right, ba__law_sides_right, ba__law_room_of, ba__law_lot, ba__law_lots, ba__law_web, ba__law_room, ba__law_names, ba__law_great, ba__law_draw, ba__law_pot, ba__law_cell, ba_other_side, ba_lot_room, ba_ties_of, ba_rest_of, ba_room_sum, ba_rows_of, ba_leaves, ba_want_lot, ba_is_lot_of, ba_want_web, ba_is_web, ba_is_tie, ba_are_places, ba_is_place_of, ba_are_rising, ba_is_name, ba_is_whole, trivial⟩
theorem qu_all : AllD (fun e => e.qual = e.x) (df_law :: rest) := ⟨rfl, rfl, rfl, rfl, rfl, rfl, rfl, rfl, rfl, rfl, rfl, rfl, rfl, rfl, rfl, rfl, rfl, rfl, rfl, rfl, rfl, rfl, rfl, rfl, rfl, rfl, rfl, rfl, rfl, rfl, trivial⟩
theorem ke_law : Keeps (gam (csOf csL) [df__law_right, df__law_sides_right, df__law_room_of, df__law_lot, df__law_lots, df__law_web, df__law_room, df__law_names, df__law_great, df__law_draw, df__law_pot, df__law_cell, df_other_side, df_lot_room, df_ties_of, df_rest_of, df_room_sum, df_rows_of, df_leaves, df_want_lot, df_is_lot_of, df_want_web, df_is_web, df_is_tie, df_are_places, df_is_place_of, df_are_rising, df_is_name, df_is_whole]) N_law.length sm_law fi_law := k_law _ (gam_fn (d := df__law_cell) 11 (by decide +kernel) rfl) (gam_fn (d := df__law_pot) 10 (by decide +kernel) rfl) (gam_fn (d := df__law_web) 5 (by decide +kernel) rfl) (gam_fn (d := df__law_lot) 3 (by decide +kernel) rfl) (gam_fn (d := df__law_right) 0 (by decide +kernel) rfl)
theorem ke__law_right : Keeps (gam (csOf csL) [df__law_sides_right, df__law_room_of, df__law_lot, df__law_lots, df__law_web, df__law_room, df__law_names, df__law_great, df__law_draw, df__law_pot, df__law_cell, df_other_side, df_lot_room, df_ties_of, df_rest_of, df_room_sum, df_rows_of, df_leaves, df_want_lot, df_is_lot_of, df_want_web, df_is_web, df_is_tie, df_are_places, df_is_place_of, df_are_rising, df_is_name, df_is_whole]) N__law_right.length sm__law_right fi__law_right := k__law_right _ (gam_fn (d := df__law_sides_right) 0 (by decide +kernel) rfl) (gam_fn (d := df_lot_room) 12 (by decide +kernel) rfl) (gam_fn (d := df__law_room_of) 1 (by decide +kernel) rfl)
theorem ke__law_sides_right : Keeps (gam (csOf csL) [df__law_room_of, df__law_lot, df__law_lots, df__law_web, df__law_room, df__law_names, df__law_great, df__law_draw, df__law_pot, df__law_cell, df_other_side, df_lot_room, df_ties_of, df_rest_of, df_room_sum, df_rows_of, df_leaves, df_want_lot, df_is_lot_of, df_want_web, df_is_web, df_is_tie, df_are_places, df_is_place_of, df_are_rising, df_is_name, df_is_whole]) N__law_sides_right.length sm__law_sides_right fi__law_sides_right := k__law_sides_right _ (gam_fn (d := df_other_side) 10 (by decide +kernel) rfl) (gam_fn (d := df_ties_of) 12 (by decide +kernel) rfl) (gam_fn (d := df_lot_room) 11 (by decide +kernel) rfl)
theorem ke__law_room_of : Keeps (gam (csOf csL) [df__law_lot, df__law_lots, df__law_web, df__law_room, df__law_names, df__law_great, df__law_draw, df__law_pot, df__law_cell, df_other_side, df_lot_room, df_ties_of, df_rest_of, df_room_sum, df_rows_of, df_leaves, df_want_lot, df_is_lot_of, df_want_web, df_is_web, df_is_tie, df_are_places, df_is_place_of, df_are_rising, df_is_name, df_is_whole]) N__law_room_of.length sm__law_room_of fi__law_room_of := k__law_room_of _ (gam_fn (d := df_lot_room) 10 (by decide +kernel) rfl)
theorem ke__law_lot : Keeps (gam (csOf csL) [df__law_lots, df__law_web, df__law_room, df__law_names, df__law_great, df__law_draw, df__law_pot, df__law_cell, df_other_side, df_lot_room, df_ties_of, df_rest_of, df_room_sum, df_rows_of, df_leaves, df_want_lot, df_is_lot_of, df_want_web, df_is_web, df_is_tie, df_are_places, df_is_place_of, df_are_rising, df_is_name, df_is_whole]) N__law_lot.length sm__law_lot fi__law_lot := k__law_lot _ (gam_fn (d := df__law_draw) 5 (by decide +kernel) rfl) (gam_fn (d := df__law_lots) 0 (by decide +kernel) rfl)
theorem ke__law_lots : Keeps (gam (csOf csL) [df__law_web, df__law_room, df__law_names, df__law_great, df__law_draw, df__law_pot, df__law_cell, df_other_side, df_lot_room, df_ties_of, df_rest_of, df_room_sum, df_rows_of, df_leaves, df_want_lot, df_is_lot_of, df_want_web, df_is_web, df_is_tie, df_are_places, df_is_place_of, df_are_rising, df_is_name, df_is_whole]) N__law_lots.length sm__law_lots fi__law_lots := k__law_lots _ 
theorem ke__law_web : Keeps (gam (csOf csL) [df__law_room, df__law_names, df__law_great, df__law_draw, df__law_pot, df__law_cell, df_other_side, df_lot_room, df_ties_of, df_rest_of, df_room_sum, df_rows_of, df_leaves, df_want_lot, df_is_lot_of, df_want_web, df_is_web, df_is_tie, df_are_places, df_is_place_of, df_are_rising, df_is_name, df_is_whole]) N__law_web.length sm__law_web fi__law_web := k__law_web _ (gam_fn (d := df__law_draw) 3 (by decide +kernel) rfl) (gam_fn (d := df__law_names) 1 (by decide +kernel) rfl) (gam_fn (d := df__law_room) 0 (by decide +kernel) rfl)
theorem ke__law_room : Keeps (gam (csOf csL) [df__law_names, df__law_great, df__law_draw, df__law_pot, df__law_cell, df_other_side, df_lot_room, df_ties_of, df_rest_of, df_room_sum, df_rows_of, df_leaves, df_want_lot, df_is_lot_of, df_want_web, df_is_web, df_is_tie, df_are_places, df_is_place_of, df_are_rising, df_is_name, df_is_whole]) N__law_room.length sm__law_room fi__law_room := k__law_room _ (gam_fn (d := df__law_draw) 2 (by decide +kernel) rfl) (gam_fn (d := df__law_great) 1 (by decide +kernel) rfl)
theorem ke__law_names : Keeps (gam (csOf csL) [df__law_great, df__law_draw, df__law_pot, df__law_cell, df_other_side, df_lot_room, df_ties_of, df_rest_of, df_room_sum, df_rows_of, df_leaves, df_want_lot, df_is_lot_of, df_want_web, df_is_web, df_is_tie, df_are_places, df_is_place_of, df_are_rising, df_is_name, df_is_whole]) N__law_names.length sm__law_names fi__law_names := k__law_names _ (gam_fn (d := df__law_draw) 1 (by decide +kernel) rfl)
theorem ke__law_great : Keeps (gam (csOf csL) [df__law_draw, df__law_pot, df__law_cell, df_other_side, df_lot_room, df_ties_of, df_rest_of, df_room_sum, df_rows_of, df_leaves, df_want_lot, df_is_lot_of, df_want_web, df_is_web, df_is_tie, df_are_places, df_is_place_of, df_are_rising, df_is_name, df_is_whole]) N__law_great.length sm__law_great fi__law_great := k__law_great _ (gam_fn (d := df__law_draw) 0 (by decide +kernel) rfl)
theorem ke__law_draw : Keeps (gam (csOf csL) [df__law_pot, df__law_cell, df_other_side, df_lot_room, df_ties_of, df_rest_of, df_room_sum, df_rows_of, df_leaves, df_want_lot, df_is_lot_of, df_want_web, df_is_web, df_is_tie, df_are_places, df_is_place_of, df_are_rising, df_is_name, df_is_whole]) N__law_draw.length sm__law_draw fi__law_draw := k__law_draw _ 
theorem ke__law_pot : Keeps (gam (csOf csL) [df__law_cell, df_other_side, df_lot_room, df_ties_of, df_rest_of, df_room_sum, df_rows_of, df_leaves, df_want_lot, df_is_lot_of, df_want_web, df_is_web, df_is_tie, df_are_places, df_is_place_of, df_are_rising, df_is_name, df_is_whole]) N__law_pot.length sm__law_pot fi__law_pot := k__law_pot _ 
theorem ke__law_cell : Keeps (gam (csOf csL) [df_other_side, df_lot_room, df_ties_of, df_rest_of, df_room_sum, df_rows_of, df_leaves, df_want_lot, df_is_lot_of, df_want_web, df_is_web, df_is_tie, df_are_places, df_is_place_of, df_are_rising, df_is_name, df_is_whole]) N__law_cell.length sm__law_cell fi__law_cell := k__law_cell _ 
theorem ke_other_side : Keeps (gam (csOf csL) [df_lot_room, df_ties_of, df_rest_of, df_room_sum, df_rows_of, df_leaves, df_want_lot, df_is_lot_of, df_want_web, df_is_web, df_is_tie, df_are_places, df_is_place_of, df_are_rising, df_is_name, df_is_whole]) N_other_side.length sm_other_side fi_other_side := k_other_side _ (gam_fn (d := df_want_web) 8 (by decide +kernel) rfl) (gam_fn (d := df_want_lot) 6 (by decide +kernel) rfl) (gam_fn (d := df_rest_of) 2 (by decide +kernel) rfl)
theorem ke_lot_room : Keeps (gam (csOf csL) [df_ties_of, df_rest_of, df_room_sum, df_rows_of, df_leaves, df_want_lot, df_is_lot_of, df_want_web, df_is_web, df_is_tie, df_are_places, df_is_place_of, df_are_rising, df_is_name, df_is_whole]) N_lot_room.length sm_lot_room fi_lot_room := k_lot_room _ (gam_fn (d := df_want_web) 7 (by decide +kernel) rfl) (gam_fn (d := df_want_lot) 5 (by decide +kernel) rfl) (gam_fn (d := df_room_sum) 2 (by decide +kernel) rfl)
theorem ke_ties_of : Keeps (gam (csOf csL) [df_rest_of, df_room_sum, df_rows_of, df_leaves, df_want_lot, df_is_lot_of, df_want_web, df_is_web, df_is_tie, df_are_places, df_is_place_of, df_are_rising, df_is_name, df_is_whole]) N_ties_of.length sm_ties_of fi_ties_of := k_ties_of _ (gam_fn (d := df_want_web) 6 (by decide +kernel) rfl) (gam_fn (d := df_want_lot) 4 (by decide +kernel) rfl) (gam_fn (d := df_rows_of) 2 (by decide +kernel) rfl)
theorem ke_rest_of : Keeps (gam (csOf csL) [df_room_sum, df_rows_of, df_leaves, df_want_lot, df_is_lot_of, df_want_web, df_is_web, df_is_tie, df_are_places, df_is_place_of, df_are_rising, df_is_name, df_is_whole]) N_rest_of.length sm_rest_of fi_rest_of := k_rest_of _ 
theorem ke_room_sum : Keeps (gam (csOf csL) [df_rows_of, df_leaves, df_want_lot, df_is_lot_of, df_want_web, df_is_web, df_is_tie, df_are_places, df_is_place_of, df_are_rising, df_is_name, df_is_whole]) N_room_sum.length sm_room_sum fi_room_sum := k_room_sum _ (gam_fn (d := df_rows_of) 0 (by decide +kernel) rfl)
theorem ke_rows_of : Keeps (gam (csOf csL) [df_leaves, df_want_lot, df_is_lot_of, df_want_web, df_is_web, df_is_tie, df_are_places, df_is_place_of, df_are_rising, df_is_name, df_is_whole]) N_rows_of.length sm_rows_of fi_rows_of := k_rows_of _ (gam_fn (d := df_leaves) 0 (by decide +kernel) rfl)
theorem ke_leaves : Keeps (gam (csOf csL) [df_want_lot, df_is_lot_of, df_want_web, df_is_web, df_is_tie, df_are_places, df_is_place_of, df_are_rising, df_is_name, df_is_whole]) N_leaves.length sm_leaves fi_leaves := k_leaves _ 
theorem ke_want_lot : Keeps (gam (csOf csL) [df_is_lot_of, df_want_web, df_is_web, df_is_tie, df_are_places, df_is_place_of, df_are_rising, df_is_name, df_is_whole]) N_want_lot.length sm_want_lot fi_want_lot := k_want_lot _ (gam_fn (d := df_is_lot_of) 0 (by decide +kernel) rfl)
theorem ke_is_lot_of : Keeps (gam (csOf csL) [df_want_web, df_is_web, df_is_tie, df_are_places, df_is_place_of, df_are_rising, df_is_name, df_is_whole]) N_is_lot_of.length sm_is_lot_of fi_is_lot_of := k_is_lot_of _ (gam_fn (d := df_is_place_of) 4 (by decide +kernel) rfl) (gam_fn (d := df_are_rising) 5 (by decide +kernel) rfl)
theorem ke_want_web : Keeps (gam (csOf csL) [df_is_web, df_is_tie, df_are_places, df_is_place_of, df_are_rising, df_is_name, df_is_whole]) N_want_web.length sm_want_web fi_want_web := k_want_web _ (gam_fn (d := df_is_web) 0 (by decide +kernel) rfl)
theorem ke_is_web : Keeps (gam (csOf csL) [df_is_tie, df_are_places, df_is_place_of, df_are_rising, df_is_name, df_is_whole]) N_is_web.length sm_is_web fi_is_web := k_is_web _ (cs_of (d := ("PARTS_OF_WEB", .int 2)) 2 (by decide +kernel) rfl) (gam_fn (d := df_are_places) 1 (by decide +kernel) rfl) (gam_fn (d := df_is_tie) 0 (by decide +kernel) rfl) (gam_fn (d := df_are_rising) 3 (by decide +kernel) rfl)
theorem ke_is_tie : Keeps (gam (csOf csL) [df_are_places, df_is_place_of, df_are_rising, df_is_name, df_is_whole]) N_is_tie.length sm_is_tie fi_is_tie := k_is_tie _ (cs_of (d := ("PARTS_OF_TIE", .int 4)) 3 (by decide +kernel) rfl) (gam_fn (d := df_is_name) 3 (by decide +kernel) rfl) (gam_fn (d := df_is_whole) 4 (by decide +kernel) rfl)
theorem ke_are_places : Keeps (gam (csOf csL) [df_is_place_of, df_are_rising, df_is_name, df_is_whole]) N_are_places.length sm_are_places fi_are_places := k_are_places _ (gam_fn (d := df_is_name) 2 (by decide +kernel) rfl) (gam_fn (d := df_are_rising) 1 (by decide +kernel) rfl)
theorem ke_is_place_of : Keeps (gam (csOf csL) [df_are_rising, df_is_name, df_is_whole]) N_is_place_of.length sm_is_place_of fi_is_place_of := k_is_place_of _ (gam_fn (d := df_is_name) 1 (by decide +kernel) rfl)
theorem ke_are_rising : Keeps (gam (csOf csL) [df_is_name, df_is_whole]) N_are_rising.length sm_are_rising fi_are_rising := k_are_rising _ 
theorem ke_is_name : Keeps (gam (csOf csL) [df_is_whole]) N_is_name.length sm_is_name fi_is_name := k_is_name _ (cs_of (d := ("MOST_LETTERS", .int 8)) 1 (by decide +kernel) rfl) (cs_of (d := ("LETTERS", .str "abcdefghijklmnopqrstuvwxyz")) 0 (by decide +kernel) rfl)
theorem ke_is_whole : Keeps (gam (csOf csL) []) N_is_whole.length sm_is_whole fi_is_whole := k_is_whole _ 
theorem ke_all : KeepsAll (csOf csL) (df_law :: rest) := ⟨ke_law, ke__law_right, ke__law_sides_right, ke__law_room_of, ke__law_lot, ke__law_lots, ke__law_web, ke__law_room, ke__law_names, ke__law_great, ke__law_draw, ke__law_pot, ke__law_cell, ke_other_side, ke_lot_room, ke_ties_of, ke_rest_of, ke_room_sum, ke_rows_of, ke_leaves, ke_want_lot, ke_is_lot_of, ke_want_web, ke_is_web, ke_is_tie, ke_are_places, ke_is_place_of, ke_are_rising, ke_is_name, ke_is_whole, trivial⟩
theorem law_true : ∀ ns : List Int, ns.length ≤ 63 → df_law.fi.sp [.scr (ns.map .int)] (fun r _ => r = .im (.bl true)) (fun _ _ => False) := fun ns h => ⟨ns, h, rfl, rfl⟩
end LW
open PySem PySem.W PyProof.Rows
set_option maxHeartbeats 0 in
theorem PySem.Challenge.cw_twogoods_k14_whole_rooms_of_lots_holds : PySem.Challenge.rw_twogoods_k14_whole_rooms_of_lots.Holds := by
  w_on; o_law; k_head; (case hw => w_witness2)
  k_fill
  refine L2.walk_of (l := PySem.Challenge.rw_twogoods_k14_whole_rooms_of_lots) (n := 63) (k := 30) (x := "_law_script") (CX := fun w => L2.CX (PySem.Challenge.rw_twogoods_k14_whole_rooms_of_lots).prog w) (sp := fun w => TG.spL 63 _) rfl (by decide) rfl ⟨rfl, by decide, by decide⟩ (fun w h Y => PySem.W.kIn_of Y) ?F (fun _ H a ns hl ho hS => ⟨a, ns, rfl, ho, hS, hl, fun _ => rfl⟩) (fun _ _ _ _ _ h => TG.no_exc h)
  case F =>
    intro w mg fa h KX G hmg
    refine' TG.law_F (n := 63) (rest := LW.rest) (d := LW.df_law) KX G hmg "_law_script" rfl rfl LW.qu_all ?hF LW.ba_all LW.tx_all ?hbl ?hcs LW.ke_all LW.law_true
    case hF =>
      refine' ⟨TG.dff_mk (x := "law") (st := LW.topS 40) ?a0 ?l0 ?c0 ?k0, TG.dff_mk (x := "_law_right") (st := LW.topS 39) ?a1 ?l1 ?c1 ?k1, TG.dff_mk (x := "_law_sides_right") (st := LW.topS 38) ?a2 ?l2 ?c2 ?k2, TG.dff_mk (x := "_law_room_of") (st := LW.topS 37) ?a3 ?l3 ?c3 ?k3, TG.dff_mk (x := "_law_lot") (st := LW.topS 36) ?a4 ?l4 ?c4 ?k4, TG.dff_mk (x := "_law_lots") (st := LW.topS 35) ?a5 ?l5 ?c5 ?k5, TG.dff_mk (x := "_law_web") (st := LW.topS 34) ?a6 ?l6 ?c6 ?k6, TG.dff_mk (x := "_law_room") (st := LW.topS 33) ?a7 ?l7 ?c7 ?k7, TG.dff_mk (x := "_law_names") (st := LW.topS 32) ?a8 ?l8 ?c8 ?k8, TG.dff_mk (x := "_law_great") (st := LW.topS 31) ?a9 ?l9 ?c9 ?k9, TG.dff_mk (x := "_law_draw") (st := LW.topS 30) ?a10 ?l10 ?c10 ?k10, TG.dff_mk (x := "_law_pot") (st := LW.topS 29) ?a11 ?l11 ?c11 ?k11, TG.dff_mk (x := "_law_cell") (st := LW.topS 28) ?a12 ?l12 ?c12 ?k12, TG.dff_mk (x := "other_side") (st := LW.topS 26) ?a13 ?l13 ?c13 ?k13, TG.dff_mk (x := "lot_room") (st := LW.topS 25) ?a14 ?l14 ?c14 ?k14, TG.dff_mk (x := "ties_of") (st := LW.topS 24) ?a15 ?l15 ?c15 ?k15, TG.dff_mk (x := "rest_of") (st := LW.topS 23) ?a16 ?l16 ?c16 ?k16, TG.dff_mk (x := "room_sum") (st := LW.topS 22) ?a17 ?l17 ?c17 ?k17, TG.dff_mk (x := "rows_of") (st := LW.topS 21) ?a18 ?l18 ?c18 ?k18, TG.dff_mk (x := "leaves") (st := LW.topS 20) ?a19 ?l19 ?c19 ?k19, TG.dff_mk (x := "want_lot") (st := LW.topS 19) ?a20 ?l20 ?c20 ?k20, TG.dff_mk (x := "is_lot_of") (st := LW.topS 18) ?a21 ?l21 ?c21 ?k21, TG.dff_mk (x := "want_web") (st := LW.topS 16) ?a22 ?l22 ?c22 ?k22, TG.dff_mk (x := "is_web") (st := LW.topS 15) ?a23 ?l23 ?c23 ?k23, TG.dff_mk (x := "is_tie") (st := LW.topS 14) ?a24 ?l24 ?c24 ?k24, TG.dff_mk (x := "are_places") (st := LW.topS 13) ?a25 ?l25 ?c25 ?k25, TG.dff_mk (x := "is_place_of") (st := LW.topS 12) ?a26 ?l26 ?c26 ?k26, TG.dff_mk (x := "are_rising") (st := LW.topS 11) ?a27 ?l27 ?c27 ?k27, TG.dff_mk (x := "is_name") (st := LW.topS 10) ?a28 ?l28 ?c28 ?k28, TG.dff_mk (x := "is_whole") (st := LW.topS 9) ?a29 ?l29 ?c29 ?k29, trivial⟩
      (case a0 => k_is); (case l0 => k_is); (case c0 => k_is); (case k0 => k_is)
      (case a1 => k_is); (case l1 => k_is); (case c1 => k_is); (case k1 => k_is)
      (case a2 => k_is); (case l2 => k_is); (case c2 => k_is); (case k2 => k_is)
      (case a3 => k_is); (case l3 => k_is); (case c3 => k_is); (case k3 => k_is)
      (case a4 => k_is); (case l4 => k_is); (case c4 => k_is); (case k4 => k_is)
      (case a5 => k_is); (case l5 => k_is); (case c5 => k_is); (case k5 => k_is)
      (case a6 => k_is); (case l6 => k_is); (case c6 => k_is); (case k6 => k_is)
      (case a7 => k_is); (case l7 => k_is); (case c7 => k_is); (case k7 => k_is)
      (case a8 => k_is); (case l8 => k_is); (case c8 => k_is); (case k8 => k_is)
      (case a9 => k_is); (case l9 => k_is); (case c9 => k_is); (case k9 => k_is)
      (case a10 => k_is); (case l10 => k_is); (case c10 => k_is); (case k10 => k_is)
      (case a11 => k_is); (case l11 => k_is); (case c11 => k_is); (case k11 => k_is)
      (case a12 => k_is); (case l12 => k_is); (case c12 => k_is); (case k12 => k_is)
      (case a13 => k_is); (case l13 => k_is); (case c13 => k_is); (case k13 => k_is)
      (case a14 => k_is); (case l14 => k_is); (case c14 => k_is); (case k14 => k_is)
      (case a15 => k_is); (case l15 => k_is); (case c15 => k_is); (case k15 => k_is)
      (case a16 => k_is); (case l16 => k_is); (case c16 => k_is); (case k16 => k_is)
      (case a17 => k_is); (case l17 => k_is); (case c17 => k_is); (case k17 => k_is)
      (case a18 => k_is); (case l18 => k_is); (case c18 => k_is); (case k18 => k_is)
      (case a19 => k_is); (case l19 => k_is); (case c19 => k_is); (case k19 => k_is)
      (case a20 => k_is); (case l20 => k_is); (case c20 => k_is); (case k20 => k_is)
      (case a21 => k_is); (case l21 => k_is); (case c21 => k_is); (case k21 => k_is)
      (case a22 => k_is); (case l22 => k_is); (case c22 => k_is); (case k22 => k_is)
      (case a23 => k_is); (case l23 => k_is); (case c23 => k_is); (case k23 => k_is)
      (case a24 => k_is); (case l24 => k_is); (case c24 => k_is); (case k24 => k_is)
      (case a25 => k_is); (case l25 => k_is); (case c25 => k_is); (case k25 => k_is)
      (case a26 => k_is); (case l26 => k_is); (case c26 => k_is); (case k26 => k_is)
      (case a27 => k_is); (case l27 => k_is); (case c27 => k_is); (case k27 => k_is)
      (case a28 => k_is); (case l28 => k_is); (case c28 => k_is); (case k28 => k_is)
      (case a29 => k_is); (case l29 => k_is); (case c29 => k_is); (case k29 => k_is)
    case hbl =>
      refine' ⟨TG.bl_mk (y := "abs") ?b0, TG.bl_mk (y := "all") ?b1, TG.bl_mk (y := "bool") ?b2, TG.bl_mk (y := "dict") ?b3, TG.bl_mk (y := "divmod") ?b4, TG.bl_mk (y := "int") ?b5, TG.bl_mk (y := "isinstance") ?b6, TG.bl_mk (y := "len") ?b7, TG.bl_mk (y := "max") ?b8, TG.bl_mk (y := "min") ?b9, TG.bl_mk (y := "range") ?b10, TG.bl_mk (y := "sorted") ?b11, TG.bl_mk (y := "str") ?b12, TG.bl_mk (y := "sum") ?b13, TG.bl_mk (y := "tuple") ?b14, TG.bl_mk (y := "zip") ?b15, trivial⟩
      (case b0 => k_is)
      (case b1 => k_is)
      (case b2 => k_is)
      (case b3 => k_is)
      (case b4 => k_is)
      (case b5 => k_is)
      (case b6 => k_is)
      (case b7 => k_is)
      (case b8 => k_is)
      (case b9 => k_is)
      (case b10 => k_is)
      (case b11 => k_is)
      (case b12 => k_is)
      (case b13 => k_is)
      (case b14 => k_is)
      (case b15 => k_is)
    case hcs =>
      refine' ⟨TG.cs_str (x := "LETTERS") ?s0, TG.cs_int (x := "MOST_LETTERS") ?s1, TG.cs_int (x := "PARTS_OF_WEB") ?s2, TG.cs_int (x := "PARTS_OF_TIE") ?s3, trivial⟩
      (case s0 => k_is)
      (case s1 => k_is)
      (case s2 => k_is)
      (case s3 => k_is)
