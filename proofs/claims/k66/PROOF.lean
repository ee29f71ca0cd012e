import PyProof.Rows.All
import Wide.All
import OpenK.AllK
import Wide.FinOn
import HandS.ForSpec
import HandS.ForMost
import KE.KDictKeyed
import HandS.Defaults
import HandS.ExcIs
import HandS.TupAny
import HandS.TupMul
import HandS.Style
import HandS.Wide
import HandS.WideBits
import HandS.Deep
import HandS.IsInst
import KE.KTupSum
import KE.KDictWalk
import HandS.Conv
import KE.SortData
import KE.DataCmp
import HandS.TupLe
import HandS.DictComp
import HandS.Iter
import HandS.Zip
import KE.GoesMore
import KE.GoesEnum
import KE.KSortTup
import HandS.Head0
import HandS.Head1
import HandS.Head2
import HandS.HeadEnd
import HandS.HeadHook1
import HandS.HeadHook2
import HandS.Lambda
import PySem.Challenge.RW_pencilrows_k66_whole_layings_counted
set_option Elab.async false
set_option linter.all false
set_option maxRecDepth 100000
set_option maxHeartbeats 0
/-! PL1: plain data, how it lies in the abstract heap, who owns what may still change. -/
namespace PL
open PySem PySem.Spec L2

/-- plain data -/
inductive D where
  | non | bl (b : Bool) | int (i : Int) | str (s : Str)
  | tup (xs : List D) | lst (xs : List D) | dct (kvs : List (D × D)) | fn (f : Nat) | src (is : List Int)
/-- data with how deep it is its holder's own -/
structure Val where
  d : D
  o : Nat := 0
abbrev Env := List (Option Val)
structure Exc where
  c : Nat
  w : Str
inductive Out where
  | ok (v : Val) (g : Env) | exc (x : Exc) (g : Env) | bad
abbrev Ex := Env → Out
inductive SOut where
  | nx (g : Env) | ret (v : Val) (g : Env) | brk (g : Env) | ct (g : Env) | exc (x : Exc) (g : Env) | bad
abbrev Sx := Env → SOut

/-- what a dict's key counts as -/
def keyD : D → Option NestedKey
  | .non => some .none
  | .bl b => some (.num (if b then 1 else 0))
  | .int i => some (.num i)
  | .str x => some (.text x)
  | .tup xs => (go xs).map .tup
  | _ => none
where go : List D → Option (List NestedKey)
  | [] => some []
  | x :: xs => match keyD x, go xs with
    | some k, some ks => some (k :: ks)
    | _, _ => none
def isTup : D → Bool
  | .tup _ => true
  | _ => false
def isMut : D → Bool
  | .lst _ => true
  | .dct _ => true
  | _ => false

/-- a dict's entries, its age -/
abbrev Ent := List DictEntry × Nat
/-- what a tracked thing that may change holds -/
inductive Sh where
  | lst (vs : List V)
  | dct (es : Ent)
def DictAt (a : Addr) (es : Ent) (h : Heap) : Prop := es.1.length ≤ sizeLine ∧ (a == sysModules) = false ∧ h.DictRaw a es.1.toArray es.2
/-- keys carried by value; keys that are tuples -/
def flatK : D → Bool
  | .int _ => true
  | .str _ => true
  | _ => false
def tupK (d : D) : Bool := isTup d && (match keyD d with
  | some k => decide (k.depth ≤ 8)
  | none => false)
/-- a dict's keys are different, and all of one kind -/
def KOk (kvs : List (D × D)) : Prop := (kvs.map fun p => keyD p.1).Nodup ∧ ((∀ p ∈ kvs, flatK p.1 = true) ∨ ∀ p ∈ kvs, tupK p.1 = true)
def shO (a : Addr) : Sh → HO
  | .lst vs => .lst vs
  | .dct es => .ext (DictAt a es)

/-- where the functions stand -/
abbrev Fns := Nat → Option Addr
structure Cn where
  K : PySem.W.Frag
  w : World
  fns : Fns
section
variable (c : Cn) (H : Hp)
mutual
/-- the value v is the data d; lists and dicts of it stand at frozen places -/
inductive Rp (F : Addr → Prop) : V → D → Prop
  | non : Rp F .non .non
  | bl (b : Bool) : Rp F (.bl b) (.bl b)
  | int (i : Int) : Rp F (.int i) (.int i)
  | str (x : Str) : Rp F (.str x) (.str x)
  | tup {a : Addr} {vs : List V} {ds : List D} : SqT c.K H a vs → RpA F vs ds → Rp F (.ref a) (.tup ds)
  | lst {a : Addr} {vs : List V} {ds : List D} : F a → Rd H a (.lst vs) → RpA F vs ds → Rp F (.ref a) (.lst ds)
  | dct {a : Addr} {es : Ent} {kvs : List (D × D)} : F a → H a = some (shO a (.dct es)) → KOk kvs → RpE F es.1 kvs → Rp F (.ref a) (.dct kvs)
  | fn {f : Nat} {a : Addr} : c.fns f = some a → Rp F (.ref a) (.fn f)
  | src {a : Addr} {is : List Int} : (F a ∧ Rd H a (.lst (is.map V.int))) ∨ SqL c.K (fun _ => none) a (is.map V.int) → Rp F (.ref a) (.src is)
inductive RpA (F : Addr → Prop) : List V → List D → Prop
  | nil : RpA F [] []
  | cons {v : V} {vs : List V} {d : D} {ds : List D} : Rp F v d → RpA F vs ds → RpA F (v :: vs) (d :: ds)
inductive RpE (F : Addr → Prop) : List DictEntry → List (D × D) → Prop
  | nil : RpE F [] []
  | cons {e : DictEntry} {es : List DictEntry} {kv vv : V} {k v : D} {nk : NestedKey} {kvs : List (D × D)} : RelV kv e.key → RelV vv e.val → Rp F kv k → Rp F vv v → keyD k = some nk → e.hash = nk.hash c.w → RpE F es kvs → RpE F (e :: es) ((k, v) :: kvs)
end
mutual
/-- the value v is the data d; n levels of lists and dicts down, they stand at the places L, the holder's own -/
inductive Own (F : Addr → Prop) : Nat → V → D → List Addr → Prop
  | frz {n : Nat} {v : V} {d : D} : (n = 0 ∨ isMut d = false) → Rp c H F v d → Own F n v d []
  | lst {n : Nat} {a : Addr} {vs : List V} {ds : List D} {L : List Addr} : H a = some (.lst vs) → OwnA F n vs ds L → Own F (n + 1) (.ref a) (.lst ds) (a :: L)
  | dct {n : Nat} {a : Addr} {es : Ent} {kvs : List (D × D)} {L : List Addr} : H a = some (shO a (.dct es)) → KOk kvs → OwnE F n es.1 kvs L → Own F (n + 1) (.ref a) (.dct kvs) (a :: L)
inductive OwnA (F : Addr → Prop) : Nat → List V → List D → List Addr → Prop
  | nil {n : Nat} : OwnA F n [] [] []
  | cons {n : Nat} {v : V} {vs : List V} {d : D} {ds : List D} {L M : List Addr} : Own F n v d L → OwnA F n vs ds M → OwnA F n (v :: vs) (d :: ds) (L ++ M)
inductive OwnE (F : Addr → Prop) : Nat → List DictEntry → List (D × D) → List Addr → Prop
  | nil {n : Nat} : OwnE F n [] [] []
  | cons {n : Nat} {e : DictEntry} {es : List DictEntry} {kv vv : V} {k v : D} {nk : NestedKey} {kvs : List (D × D)} {L M : List Addr} : RelV kv e.key → RelV vv e.val → Rp c H F kv k → Own F n vv v L → keyD k = some nk → e.hash = nk.hash c.w → OwnE F n es kvs M → OwnE F n (e :: es) ((k, v) :: kvs) (L ++ M)
end
end

section
variable {c : Cn} {H H' : Hp} {F F' : Addr → Prop}
/-- what is not the own of anybody stands: tuples and frozen things -/
structure Keep (F F' : Addr → Prop) (H H' : Hp) : Prop where
  fr : ∀ a, F a → F' a
  tup : ∀ a vs, SqT c.K H a vs → SqT c.K H' a vs
  frz : ∀ a o, F a → H a = some o → H' a = some o
theorem rd_keep (k : Keep (c := c) F F' H H') {a : Addr} {u : HO} (f : F a) (r : Rd H a u) : Rd H' a u := by
  rcases r with r | ⟨o, r⟩
  · exact .inl (k.frz a _ f r)
  · exact .inr ⟨o, k.frz a _ f r⟩
mutual
theorem Rp.keep (k : Keep (c := c) F F' H H') : ∀ {v : V} {d : D}, Rp c H F v d → Rp c H' F' v d
  | _, _, .non => .non
  | _, _, .bl b => .bl b
  | _, _, .int i => .int i
  | _, _, .str x => .str x
  | _, _, .tup h r => .tup (k.tup _ _ h) (RpA.keep k r)
  | _, _, .lst f h r => .lst (k.fr _ f) (rd_keep k f h) (RpA.keep k r)
  | _, _, .dct f h o r => .dct (k.fr _ f) (k.frz _ _ f h) o (RpE.keep k r)
  | _, _, .fn h => .fn h
  | _, _, .src h => .src (h.imp (fun ⟨f, r⟩ => ⟨k.fr _ f, rd_keep k f r⟩) id)
theorem RpA.keep (k : Keep (c := c) F F' H H') : ∀ {vs : List V} {ds : List D}, RpA c H F vs ds → RpA c H' F' vs ds
  | _, _, .nil => .nil
  | _, _, .cons h r => .cons (Rp.keep k h) (RpA.keep k r)
theorem RpE.keep (k : Keep (c := c) F F' H H') : ∀ {es : List DictEntry} {kvs : List (D × D)}, RpE c H F es kvs → RpE c H' F' es kvs
  | _, _, .nil => .nil
  | _, _, .cons a b h1 h2 e1 e2 r => .cons a b (Rp.keep k h1) (Rp.keep k h2) e1 e2 (RpE.keep k r)
end
mutual
theorem Own.keep (k : Keep (c := c) F F' H H') : ∀ {n : Nat} {v : V} {d : D} {L : List Addr}, (∀ a ∈ L, ∀ o, H a = some o → H' a = some o) → Own c H F n v d L → Own c H' F' n v d L
  | _, _, _, _, _, .frz z r => .frz z (r.keep k)
  | _, _, _, _, l, .lst h r => .lst (l _ List.mem_cons_self _ h) (OwnA.keep k (fun a ha => l a (List.mem_cons_of_mem _ ha)) r)
  | _, _, _, _, l, .dct h o r => .dct (l _ List.mem_cons_self _ h) o (OwnE.keep k (fun a ha => l a (List.mem_cons_of_mem _ ha)) r)
theorem OwnA.keep (k : Keep (c := c) F F' H H') : ∀ {n : Nat} {vs : List V} {ds : List D} {L : List Addr}, (∀ a ∈ L, ∀ o, H a = some o → H' a = some o) → OwnA c H F n vs ds L → OwnA c H' F' n vs ds L
  | _, _, _, _, _, .nil => .nil
  | _, _, _, _, l, .cons h r => .cons (Own.keep k (fun a ha => l a (List.mem_append_left _ ha)) h) (OwnA.keep k (fun a ha => l a (List.mem_append_right _ ha)) r)
theorem OwnE.keep (k : Keep (c := c) F F' H H') : ∀ {n : Nat} {es : List DictEntry} {kvs : List (D × D)} {L : List Addr}, (∀ a ∈ L, ∀ o, H a = some o → H' a = some o) → OwnE c H F n es kvs L → OwnE c H' F' n es kvs L
  | _, _, _, _, _, .nil => .nil
  | _, _, _, _, l, .cons a b h1 h2 e1 e2 r => .cons a b (h1.keep k) (Own.keep k (fun a ha => l a (List.mem_append_left _ ha)) h2) e1 e2 (OwnE.keep k (fun a ha => l a (List.mem_append_right _ ha)) r)
end
/-- more may be frozen -/
theorem Keep.more (h : ∀ a, F a → F' a) : Keep (c := c) F F' H H := ⟨h, fun _ _ x => x, fun _ _ _ x => x⟩
theorem src_sq {a : Addr} {xs : List V} (h : (F a ∧ Rd H a (.lst xs)) ∨ SqL c.K (fun _ => none) a xs) : SqL c.K H a xs := by
  rcases h with ⟨_, h⟩ | h | h
  · exact .inl h
  · rcases h with h | ⟨_, h⟩ <;> cases h
  · exact .inr h
theorem Rp.more (h : ∀ a, F a → F' a) {v : V} {d : D} (r : Rp c H F v d) : Rp c H F' v d := r.keep (.more h)
theorem RpA.more (h : ∀ a, F a → F' a) {v : List V} {d : List D} (r : RpA c H F v d) : RpA c H F' v d := r.keep (.more h)
theorem RpE.more (h : ∀ a, F a → F' a) {v : List DictEntry} {d : List (D × D)} (r : RpE c H F v d) : RpE c H F' v d := r.keep (.more h)
mutual
/-- the own is frozen -/
theorem Own.freeze (h : ∀ a, F a → F' a) : ∀ {n : Nat} {v : V} {d : D} {L : List Addr}, (∀ a ∈ L, F' a) → Own c H F n v d L → Rp c H F' v d
  | _, _, _, _, _, .frz _ r => r.more h
  | _, _, _, _, l, .lst e r => .lst (l _ List.mem_cons_self) (.of e) (OwnA.freeze h (fun a ha => l a (List.mem_cons_of_mem _ ha)) r)
  | _, _, _, _, l, .dct e o r => .dct (l _ List.mem_cons_self) e o (OwnE.freeze h (fun a ha => l a (List.mem_cons_of_mem _ ha)) r)
theorem OwnA.freeze (h : ∀ a, F a → F' a) : ∀ {n : Nat} {vs : List V} {ds : List D} {L : List Addr}, (∀ a ∈ L, F' a) → OwnA c H F n vs ds L → RpA c H F' vs ds
  | _, _, _, _, _, .nil => .nil
  | _, _, _, _, l, .cons r1 r => .cons (Own.freeze h (fun a ha => l a (List.mem_append_left _ ha)) r1) (OwnA.freeze h (fun a ha => l a (List.mem_append_right _ ha)) r)
theorem OwnE.freeze (h : ∀ a, F a → F' a) : ∀ {n : Nat} {es : List DictEntry} {kvs : List (D × D)} {L : List Addr}, (∀ a ∈ L, F' a) → OwnE c H F n es kvs L → RpE c H F' es kvs
  | _, _, _, _, _, .nil => .nil
  | _, _, _, _, l, .cons a b r0 r1 e1 e2 r => .cons a b (r0.more h) (Own.freeze h (fun a ha => l a (List.mem_append_left _ ha)) r1) e1 e2 (OwnE.freeze h (fun a ha => l a (List.mem_append_right _ ha)) r)
end
theorem Own.zero {v : V} {d : D} {L : List Addr} (h : Own c H F 0 v d L) : Rp c H F v d ∧ L = [] := by
  cases h with
  | frz _ r => exact ⟨r, rfl⟩
theorem Own.of {v : V} {d : D} (r : Rp c H F v d) : Own c H F 0 v d [] := .frz (.inl rfl) r
theorem OwnA.of {vs : List V} {ds : List D} : RpA c H F vs ds → OwnA c H F 0 vs ds []
  | .nil => .nil
  | .cons r rs => by
    have := OwnA.cons (Own.of r) (OwnA.of rs)
    exact this
theorem OwnA.zero : ∀ {vs : List V} {ds : List D} {L : List Addr}, OwnA c H F 0 vs ds L → RpA c H F vs ds ∧ L = []
  | _, _, _, .nil => ⟨.nil, rfl⟩
  | _, _, _, .cons h r => by
    obtain ⟨h1, h2⟩ := h.zero
    obtain ⟨r1, r2⟩ := OwnA.zero r
    exact ⟨.cons h1 r1, by rw [h2, r2]; rfl⟩
theorem OwnE.zero : ∀ {es : List DictEntry} {kvs : List (D × D)} {L : List Addr}, OwnE c H F 0 es kvs L → RpE c H F es kvs ∧ L = []
  | _, _, _, .nil => ⟨.nil, rfl⟩
  | _, _, _, .cons a b h0 h e1 e2 r => by
    obtain ⟨h1, h2⟩ := h.zero
    obtain ⟨r1, r2⟩ := OwnE.zero r
    exact ⟨.cons a b h0 h1 e1 e2 r1, by rw [h2, r2]; rfl⟩
theorem RpA.length : ∀ {vs : List V} {ds : List D}, RpA c H F vs ds → vs.length = ds.length
  | _, _, .nil => rfl
  | _, _, .cons _ r => by simp [r.length]
theorem RpA.get : ∀ {vs : List V} {ds : List D} {i : Nat} {v : V}, RpA c H F vs ds → vs[i]? = some v → ∃ d, ds[i]? = some d ∧ Rp c H F v d
  | _, _, _, _, .nil, e => by simp at e
  | _, _, 0, _, .cons h _, e => by simp at e; subst e; exact ⟨_, rfl, h⟩
  | _, _, i + 1, _, .cons _ r, e => by
    obtain ⟨d, h1, h2⟩ := RpA.get (i := i) r (by simpa using e)
    exact ⟨d, by simpa using h1, h2⟩
theorem RpA.get' : ∀ {vs : List V} {ds : List D} {i : Nat} {d : D}, RpA c H F vs ds → ds[i]? = some d → ∃ v, vs[i]? = some v ∧ Rp c H F v d
  | _, _, _, _, .nil, e => by simp at e
  | _, _, 0, _, .cons h _, e => by simp at e; subst e; exact ⟨_, rfl, h⟩
  | _, _, i + 1, _, .cons _ r, e => by
    obtain ⟨d, h1, h2⟩ := RpA.get' (i := i) r (by simpa using e)
    exact ⟨d, by simpa using h1, h2⟩
theorem RpA.append : ∀ {vs ws : List V} {ds es : List D}, RpA c H F vs ds → RpA c H F ws es → RpA c H F (vs ++ ws) (ds ++ es)
  | _, _, _, _, .nil, s => s
  | _, _, _, _, .cons h r, s => .cons h (RpA.append r s)
end
end PL

/-! PL2: states, steps, the judgement of an expression. -/
namespace PL
open PySem PySem.Spec L2

abbrev Fz := Addr → Prop
abbrev Ow := Nat → List Addr

structure G (c : Cn) (n : Nat) (pz : List (Nat × V)) (F : Fz) (H : Hp) (σ : St) (g : Env) (own : Ow) : Prop where
  len : g.length = n
  slen : σ.length = n
  slot : ∀ i v, g[i]? = some (some v) → ∃ x, σ[i]? = some (some x) ∧ Own c H F v.o x v.d (own i)
  emp : ∀ i, (∀ v, g[i]? ≠ some (some v)) → own i = []
  nodup : ∀ i, (own i).Nodup
  disj : ∀ i j a, i ≠ j → a ∈ own i → a ∈ own j → False
  sep : ∀ i a, a ∈ own i → ¬ F a ∧ ∃ sh, H a = some (shO a sh)
  frz : ∀ a, F a → ∃ o, H a = some o
  pin : ∀ p ∈ pz, σ[p.1]? = some (some p.2)

structure Step (F : Fz) (H : Hp) (own : Ow) (F' : Fz) (H' : Hp) (own' : Ow) : Prop where
  fr : ∀ a, F a → F' a
  keep : ∀ a o, H a = some o → (∀ i, a ∉ own i) → H' a = some o
  new : ∀ a, F' a → F a ∨ (∃ i, a ∈ own i) ∨ H a = none
  own : ∀ i a, a ∈ own' i → (∃ j, a ∈ own j) ∨ H a = none
  tr : ∀ a o, H a = some o → ∃ o', H' a = some o'

theorem Step.refl {F : Fz} {H : Hp} {own : Ow} : Step F H own F H own := ⟨fun _ h => h, fun _ _ h _ => h, fun _ h => .inl h, fun i _ h => .inl ⟨i, h⟩, fun _ o h => ⟨o, h⟩⟩
theorem Step.trans {F : Fz} {H : Hp} {own : Ow} {F1 : Fz} {H1 : Hp} {own1 : Ow} {F2 : Fz} {H2 : Hp} {own2 : Ow} (a : Step F H own F1 H1 own1) (b : Step F1 H1 own1 F2 H2 own2) : Step F H own F2 H2 own2 where
  fr := fun x h => b.fr x (a.fr x h)
  keep := fun x o h n => b.keep x o (a.keep x o h n) fun i hi => by
    rcases a.own i x hi with ⟨j, hj⟩ | z
    · exact n j hj
    · rw [h] at z; cases z
  new := fun x h => by
    have back : H1 x = none → H x = none := fun z => by
      cases q : H x with
      | none => rfl
      | some o => obtain ⟨o', e⟩ := a.tr x o q; rw [z] at e; cases e
    rcases b.new x h with h | ⟨i, h⟩ | h
    · exact a.new x h
    · rcases a.own i x h with h | h
      · exact .inr (.inl h)
      · exact .inr (.inr h)
    · exact .inr (.inr (back h))
  own := fun i x h => by
    rcases b.own i x h with ⟨j, h⟩ | h
    · exact a.own j x h
    · right
      cases q : H x with
      | none => rfl
      | some o => obtain ⟨o', e⟩ := a.tr x o q; rw [h] at e; cases e
  tr := fun x o h => let ⟨_, e⟩ := a.tr x o h; b.tr x _ e

theorem sh_tup {a : Addr} {sh : Sh} {xs : List V} (h : shO a sh = .tup xs) : False := by cases sh <;> cases h
theorem sh_frz {a : Addr} {sh : Sh} {o : Obj} {u : HO} (h : shO a sh = .frz o u) : False := by cases sh <;> cases h

section
variable {c : Cn} {n : Nat} {pz : List (Nat × V)} {F F' : Fz} {H H' : Hp} {σ : St} {g : Env} {own own' : Ow}
theorem G.noTup (I : G c n pz F H σ g own) {a : Addr} {o : HO} (h : H a = some o) (ht : ∀ sh, shO a sh ≠ o) : ∀ i, a ∉ own i := fun i hi => by
  obtain ⟨_, sh, e⟩ := I.sep i a hi
  rw [h] at e; cases e
  exact ht sh rfl
theorem Step.keeps (I : G c n pz F H σ g own) (s : Step F H own F' H' own') : Keep (c := c) F F' H H' where
  fr := s.fr
  tup := fun a vs h => by
    rcases h with (h | ⟨o, h⟩) | h
    · exact .inl (.inl (s.keep a _ h (I.noTup h fun sh e => sh_tup e)))
    · exact .inl (.inr ⟨o, s.keep a _ h (I.noTup h fun sh e => sh_frz e)⟩)
    · exact .inr h
  frz := fun a o f h => s.keep a o h fun i hi => (I.sep i a hi).1 f
end

/-- how an exception lies -/
structure ExK where
  cls : Nat → Option Addr
def ExR (k : Nat → Option Addr) (e : Exc) (cls : Value) (d : Option Addr) (H : Hp) : Prop :=
  ∃ C, k e.c = some C ∧ cls = .ref C ∧ ((e.c < 2 ∧ d = none) ∨ (2 ≤ e.c ∧ ∃ dd, d = some dd ∧ H dd = some (.xd [(("word" : Str), .str e.w)])))

structure Par where
  fns : Fns
  cls : Nat → Option Addr
  pz : List (Nat × V)
  W : WX
abbrev cn (X : Cx) (P : Par) : Cn := ⟨X.K, X.w, P.fns⟩
abbrev GX (X : Cx) (P : Par) (F : Fz) (H : Hp) (σ : St) (g : Env) (own : Ow) : Prop := G (cn X P) X.N.length P.pz F H σ g own

/-- the new owner's places -/
structure Frsh (F0 : Fz) (H0 : Hp) (own0 : Ow) (F : Fz) (H : Hp) (own : Ow) (L : List Addr) : Prop where
  nd : L.Nodup
  sep : ∀ a ∈ L, ¬ F a ∧ (∀ i, a ∉ own i) ∧ (∃ sh, H a = some (shO a sh)) ∧ ((∃ i, a ∈ own0 i) ∨ H0 a = none)

def PostX (X : Cx) (P : Par) (F0 : Fz) (H0 : Hp) (own0 : Ow) (σ : St) (e : Exc) (g : Env) : Prop :=
  ∀ F' H' own' cls d, Step F0 H0 own0 F' H' own' → GX X P F' H' σ g own' → ExR P.cls e cls d H' → P.W cls d σ H'
def PostK (X : Cx) (P : Par) (F0 : Fz) (H0 : Hp) (own0 : Ow) (σ : St) (k : Val → Env → Prop) : Out → Prop
  | .ok v g => k v g
  | .exc e g => PostX X P F0 H0 own0 σ e g
  | .bad => False
def End (X : Cx) (P : Par) (F0 : Fz) (H0 : Hp) (own0 : Ow) (σ : St) (Q : VK) (v : Val) (g : Env) : Prop :=
  ∀ F' H' own' x L, Step F0 H0 own0 F' H' own' → GX X P F' H' σ g own' → Own (cn X P) H' F' v.o x v.d L → Frsh F0 H0 own0 F' H' own' L → Q x H'
def tE (X : Cx) (P : Par) (f : Ex) : TE := fun σ H Q => ∃ F g own, GX X P F H σ g own ∧ PostK X P F H own σ (End X P F H own σ Q) (f g)

structure SE (X : Cx) (P : Par) (e : Expr) (f : Ex) : Prop where
  pe : PE X e (tE X P f)
theorem pe_imp {X : Cx} {e : Expr} {t t' : TE} (h : PE X e t) (i : ∀ σ H Q, t' σ H Q → t σ H Q) : PE X e t' := ⟨fun pins s σ H Q I q => h.run pins s σ H Q I (i σ H Q q)⟩

structure Tmp where
  x : V
  v : Val
  L : List Addr
structure MidAt (X : Cx) (P : Par) (σ : St) (ts : List Tmp) (H1 : Hp) (F0 : Fz) (H0 : Hp) (own0 : Ow) (F1 : Fz) (g1 : Env) (own1 : Ow) : Prop where
  g : GX X P F1 H1 σ g1 own1
  st : Step F0 H0 own0 F1 H1 own1
  own : ∀ t ∈ ts, Own (cn X P) H1 F1 t.v.o t.x t.v.d t.L
  nd : (ts.flatMap (·.L)).Nodup
  sep : ∀ t ∈ ts, ∀ a ∈ t.L, ¬ F1 a ∧ (∀ i, a ∉ own1 i) ∧ (∃ sh, H1 a = some (shO a sh)) ∧ ((∃ i, a ∈ own0 i) ∨ H0 a = none)
abbrev Bk := Fz → Hp → Ow → Env → Prop
def Mid (X : Cx) (P : Par) (σ : St) (ts : List Tmp) (B : Bk) (H1 : Hp) : Prop := ∃ F0 H0 own0 F1 g1 own1, MidAt X P σ ts H1 F0 H0 own0 F1 g1 own1 ∧ B F0 H0 own0 g1

section
variable {X : Cx} {P : Par} {σ : St} {H : Hp} {Q : VK} {ts : List Tmp} {f : Ex}
theorem mid_start {F : Fz} {g : Env} {own : Ow} {B : Bk} (I : GX X P F H σ g own) (h : B F H own g) : Mid X P σ [] B H :=
  ⟨F, H, own, F, g, own, ⟨I, .refl, (fun t ht => nomatch ht), List.nodup_nil, (fun t ht => nomatch ht)⟩, h⟩
theorem mid_of (h : tE X P f σ H Q) : Mid X P σ [] (fun F0 H0 own0 g => PostK X P F0 H0 own0 σ (End X P F0 H0 own0 σ Q) (f g)) H :=
  let ⟨_, _, _, I, q⟩ := h
  mid_start I q
/-- an expression is come to -/
theorem mid_eval {k : Fz → Hp → Ow → Val → Env → Prop} (h : Mid X P σ ts (fun F0 H0 own0 g => PostK X P F0 H0 own0 σ (k F0 H0 own0) (f g)) H) :
    tE X P f σ H fun x H1 => ∃ v L, Mid X P σ (⟨x, v, L⟩ :: ts) (fun F0 H0 own0 g => k F0 H0 own0 v g) H1 := by
  obtain ⟨F0, H0, own0, F1, g1, own1, m, q⟩ := h
  refine ⟨F1, g1, own1, m.g, ?_⟩
  cases e : f g1 with
  | bad => rw [e] at q; exact q
  | exc x g =>
    rw [e] at q
    exact fun F' H' own' cls d s => q F' H' own' cls d (m.st.trans s)
  | ok v g =>
    rw [e] at q
    intro F' H' own' x L s I o fr
    have kp := s.keeps m.g
    have kL : ∀ t ∈ ts, ∀ a ∈ t.L, ∀ ob, H a = some ob → H' a = some ob := fun t ht a ha ob e => s.keep a ob e (m.sep t ht a ha).2.1
    have ap : ∀ t ∈ ts, ∀ a ∈ t.L, a ∉ L := fun t ht a ha hl => by
      obtain ⟨_, h2, ⟨sh, h3⟩, _⟩ := m.sep t ht a ha
      rcases (fr.sep a hl).2.2.2 with ⟨i, z⟩ | z
      · exact h2 i z
      · rw [h3] at z; cases z
    refine ⟨v, L, F0, H0, own0, F', g, own', ⟨I, m.st.trans s, fun t ht => ?_, ?_, fun t ht a ha => ?_⟩, q⟩
    · rcases List.mem_cons.mp ht with rfl | ht
      · exact o
      · exact (m.own t ht).keep kp (kL t ht)
    · rw [List.flatMap_cons, List.nodup_append]
      refine ⟨fr.nd, m.nd, fun a ha b hb e => ?_⟩
      obtain ⟨t, ht, hb⟩ := List.mem_flatMap.mp hb
      subst e
      exact ap t ht _ hb ha
    · rcases List.mem_cons.mp ht with rfl | ht
      · obtain ⟨h1, h2, h3, h4⟩ := fr.sep a ha
        refine ⟨h1, h2, h3, ?_⟩
        rcases h4 with ⟨i, z⟩ | z
        · exact m.st.own i a z
        · right
          cases q : H0 a with
          | none => rfl
          | some ob => obtain ⟨o', e'⟩ := m.st.tr a ob q; rw [z] at e'; cases e'
      · obtain ⟨h1, h2, ⟨sh, h3⟩, h4⟩ := m.sep t ht a ha
        refine ⟨fun z => ?_, fun i z => ?_, ⟨sh, kL t ht a ha _ h3⟩, h4⟩
        · rcases s.new a z with z | ⟨i, z⟩ | z
          · exact h1 z
          · exact h2 i z
          · rw [h3] at z; cases z
        · rcases s.own i a z with ⟨j, z⟩ | z
          · exact h2 j z
          · rw [h3] at z; cases z
/-- the end -/
theorem mid_done {t : Tmp} (h : Mid X P σ [t] (fun F0 H0 own0 g => PostK X P F0 H0 own0 σ (End X P F0 H0 own0 σ Q) (.ok t.v g)) H) : Q t.x H := by
  obtain ⟨F0, H0, own0, F1, g1, own1, m, q⟩ := h
  have hm : t ∈ [t] := List.mem_singleton.mpr rfl
  refine q F1 H own1 t.x t.L m.st m.g (m.own t hm) ⟨?_, m.sep t hm⟩
  have := m.nd
  simpa using this
/-- a temporary is frozen -/
theorem mid_freeze {t : Tmp} {B : Bk} (h : Mid X P σ (t :: ts) B H) : Mid X P σ (⟨t.x, ⟨t.v.d, 0⟩, []⟩ :: ts) B H := by
  obtain ⟨F0, H0, own0, F1, g1, own1, m, q⟩ := h
  have h0 : t ∈ t :: ts := List.mem_cons_self
  have up : ∀ a, F1 a → (F1 a ∨ a ∈ t.L) := fun a h => .inl h
  have nd := m.nd
  rw [List.flatMap_cons, List.nodup_append] at nd
  have ap : ∀ u ∈ ts, ∀ a ∈ u.L, a ∉ t.L := fun u hu a ha z => nd.2.2 a z a (List.mem_flatMap.mpr ⟨u, hu, ha⟩) rfl
  refine ⟨F0, H0, own0, fun a => F1 a ∨ a ∈ t.L, g1, own1, ⟨?_, ?_, fun u hu => ?_, by simpa using nd.2.1, fun u hu a ha => ?_⟩, q⟩
  · refine ⟨m.g.len, m.g.slen, fun i v e => ?_, m.g.emp, m.g.nodup, m.g.disj, fun i a ha => ⟨fun z => ?_, (m.g.sep i a ha).2⟩, fun a z => ?_, m.g.pin⟩
    · obtain ⟨x, e1, o⟩ := m.g.slot i v e
      exact ⟨x, e1, o.keep (.more up) fun _ _ _ z => z⟩
    · rcases z with z | z
      · exact (m.g.sep i a ha).1 z
      · exact (m.sep t h0 a z).2.1 i ha
    · rcases z with z | z
      · exact m.g.frz a z
      · obtain ⟨sh, e⟩ := (m.sep t h0 a z).2.2.1
        exact ⟨_, e⟩
  · refine ⟨fun a z => .inl (m.st.fr a z), m.st.keep, fun a z => ?_, m.st.own, m.st.tr⟩
    rcases z with z | z
    · exact m.st.new a z
    · exact .inr (m.sep t h0 a z).2.2.2
  · rcases List.mem_cons.mp hu with rfl | hu
    · exact .of ((m.own t h0).freeze up fun a ha => .inr ha)
    · exact (m.own u (List.mem_cons_of_mem _ hu)).keep (.more up) fun _ _ _ z => z
  · rcases List.mem_cons.mp hu with rfl | hu
    · cases ha
    · obtain ⟨h1, h2⟩ := m.sep u (List.mem_cons_of_mem _ hu) a ha
      refine ⟨fun z => ?_, h2⟩
      rcases z with z | z
      · exact h1 z
      · exact ap u hu a ha z
end
end PL

/-! PL3: operands, operations by data, names, constants, and | or | not | if. -/
namespace PL
open PySem PySem.Spec L2

/-- nothing that stands changes -/
abbrev Grow (H H' : Hp) : Prop := ∀ a o, H a = some o → H' a = some o
theorem Grow.refl {H : Hp} : Grow H H := fun _ _ h => h
theorem Grow.upd {H : Hp} {a : Addr} {o : HO} (h : H a = none) : Grow H (L2.upd H a o) := fun b u e => by
  rw [upd_ne (ne_of_none e h)]; exact e
section
variable {c : Cn} {n : Nat} {pz : List (Nat × V)} {F : Fz} {H H' H'' : Hp} {σ : St} {g : Env} {own : Ow}
theorem Grow.trans (a : Grow H H') (b : Grow H' H'') : Grow H H'' := fun x o h => b x o (a x o h)
theorem Grow.sqT (k : Grow H H') {K : PySem.W.Frag} {a : Addr} {vs : List V} (h : SqT K H a vs) : SqT K H' a vs := by
  rcases h with (h | ⟨o, h⟩) | h
  · exact .inl (.inl (k _ _ h))
  · exact .inl (.inr ⟨o, k _ _ h⟩)
  · exact .inr h
theorem Grow.keep (k : Grow H H') : Keep (c := c) F F H H' := ⟨fun _ h => h, fun _ _ h => k.sqT h, fun a o _ h => k a o h⟩
theorem Grow.step (k : Grow H H') : Step F H own F H' own := ⟨fun _ h => h, fun a o h _ => k a o h, fun _ h => .inl h, fun i _ h => .inl ⟨i, h⟩, fun a o h => ⟨o, k a o h⟩⟩
theorem G.grow (I : G c n pz F H σ g own) (k : Grow H H') : G c n pz F H' σ g own where
  len := I.len
  slen := I.slen
  slot := fun i v e => let ⟨x, h, o⟩ := I.slot i v e; ⟨x, h, o.keep k.keep fun a _ ob e => k a ob e⟩
  emp := I.emp
  nodup := I.nodup
  disj := I.disj
  sep := fun i a h => let ⟨h1, sh, h2⟩ := I.sep i a h; ⟨h1, sh, k _ _ h2⟩
  frz := fun a h => let ⟨o, e⟩ := I.frz a h; ⟨o, k a o e⟩
  pin := I.pin
end

/-- a value's top may be somebody's own; what is in it is frozen -/
inductive Rt (c : Cn) (H : Hp) (F : Fz) : V → D → Prop
  | of {v : V} {d : D} : Rp c H F v d → Rt c H F v d
  | lst {a : Addr} {vs : List V} {ds : List D} : H a = some (.lst vs) → RpA c H F vs ds → Rt c H F (.ref a) (.lst ds)
  | dct {a : Addr} {es : Ent} {kvs : List (D × D)} : H a = some (shO a (.dct es)) → KOk kvs → RpE c H F es.1 kvs → Rt c H F (.ref a) (.dct kvs)
inductive RtA (c : Cn) (H : Hp) (F : Fz) : List V → List D → Prop
  | nil : RtA c H F [] []
  | cons {v : V} {vs : List V} {d : D} {ds : List D} : Rt c H F v d → RtA c H F vs ds → RtA c H F (v :: vs) (d :: ds)

/-- what an operation by data may end in -/
def Ends2 (c : Cn) (F : Fz) (H : Hp) (v : Val) (Q : VK) : Prop :=
  ∀ H' z L, Grow H H' → Own c H' F v.o z v.d L → L.Nodup → (∀ a ∈ L, H a = none ∧ ∃ sh, H' a = some (shO a sh)) → Q z H'
abbrev Trk (F : Fz) (H : Hp) : Prop := ∀ a, F a → ∃ o, H a = some o
theorem Own.rt {c : Cn} {H : Hp} {F : Fz} {n : Nat} {x : V} {d : D} {L : List Addr} (o : Own c H F n x d L) (h : n ≤ 1) : Rt c H F x d := by
  cases o with
  | frz _ r => exact .of r
  | @lst m a vs ds L e r =>
    have z : m = 0 := by omega
    subst z
    exact .lst e r.zero.1
  | @dct m a es kvs L e ko r =>
    have z : m = 0 := by omega
    subst z
    exact .dct e ko r.zero.1
/-- an operation o on data, as a rule by values -/
def rD2 (c : Cn) (o : D → D → Option Val) : R2 := fun x y H Q => ∃ F d e v, Trk F H ∧ Rt c H F x d ∧ Rt c H F y e ∧ o d e = some v ∧ Ends2 c F H v Q
def rD1 (c : Cn) (o : D → Option Val) : V → Hp → VK → Prop := fun x H Q => ∃ F d v, Trk F H ∧ Rt c H F x d ∧ o d = some v ∧ Ends2 c F H v Q
def rDn (c : Cn) (o : List D → Option Val) : List V → Hp → VK → Prop := fun xs H Q => ∃ F ds v, Trk F H ∧ RtA c H F xs ds ∧ o ds = some v ∧ Ends2 c F H v Q
/-- ends without a new thing -/
theorem Ends2.val {c : Cn} {F : Fz} {H : Hp} {d : D} {Q : VK} {z : V} {n : Nat} (h : Ends2 c F H ⟨d, n⟩ Q) (hm : n = 0 ∨ isMut d = false) (r : Rp c H F z d) : Q z H :=
  h H z [] .refl (.frz hm r) List.nodup_nil (fun _ ha => nomatch ha)
/-- a new tuple -/
theorem Ends2.tup {c : Cn} {F : Fz} {H : Hp} {ds : List D} {vs : List V} {Q : VK} {p : Addr} {n : Nat} (h : Ends2 c F H ⟨.tup ds, n⟩ Q) (hp : H p = none) (r : RpA c H F vs ds) : Q (.ref p) (upd H p (.tup vs)) :=
  h _ _ [] (.upd hp) (.frz (.inr rfl) (.tup (.of upd_same) (r.keep (Grow.upd hp).keep))) List.nodup_nil (fun _ ha => nomatch ha)
/-- a new list -/
theorem Ends2.lst {c : Cn} {F : Fz} {H : Hp} {ds : List D} {vs : List V} {Q : VK} {p : Addr} (h : Ends2 c F H ⟨.lst ds, 1⟩ Q) (hp : H p = none) (r : RpA c H F vs ds) : Q (.ref p) (upd H p (.lst vs)) :=
  h _ _ [p] (.upd hp) (.lst upd_same (.of (r.keep (Grow.upd hp).keep))) (by simp) fun a ha => by
    have e : a = p := by simpa using ha
    subst e
    exact ⟨hp, .lst vs, upd_same⟩

/-! ### operands -/
inductive Opd where
  | ex (f : Ex)
  | pk (i : Nat)
def slot1 (i : Nat) (g : Env) : Option D := match g[i]? with
  | some (some v) => if v.o ≤ 1 then some v.d else none
  | _ => none
def bindO (o : Out) (k : Val → Env → Out) : Out := match o with
  | .ok v g => k v g
  | .exc e g => .exc e g
  | .bad => .bad
abbrev Rs := Env → Option D
def Opd.go (a : Opd) (k : Rs → Env → Out) (g : Env) : Out := match a with
  | .ex f => bindO (f g) fun v g1 => k (fun _ => some v.d) g1
  | .pk i => match g[i]? with
    | some (some _) => k (slot1 i) g
    | _ => .bad
def tO (X : Cx) (P : Par) : Opd → TE
  | .ex f => tE X P f
  | .pk i => tVar i
structure SO (X : Cx) (P : Par) (e : Expr) (a : Opd) : Prop where
  pe : PE X e (tO X P a)
theorem so_ex {X : Cx} {P : Par} {e : Expr} {f : Ex} (h : SE X P e f) : SO X P e (.ex f) := ⟨h.pe⟩
theorem so_pk {X : Cx} {P : Par} {i : Nat} {x : Str} {pos : Pos} (hN : X.N[i]? = some x) (hv : Vis X.env.scope x) (hd : (x == ("__debug__" : Str)) = false := by decide) (hcd : (x == ("__classdict__" : Str)) = false := by decide) : SO X P (.Name x pos) (.pk i) := ⟨pe_var hN hv hd hcd⟩

section
variable {X : Cx} {P : Par} {σ : St} {H : Hp} {Q : VK} {ts : List Tmp} {f : Ex}
theorem tE_mono {Q' : VK} (h : tE X P f σ H Q) (i : ∀ x H, Q x H → Q' x H) : tE X P f σ H Q' := by
  obtain ⟨F, g, own, I, q⟩ := h
  refine ⟨F, g, own, I, ?_⟩
  cases e : f g with
  | bad => rw [e] at q; exact q
  | exc x g => rw [e] at q; exact q
  | ok v g => rw [e] at q; exact fun F' H' own' x L a b c d => i _ _ (q F' H' own' x L a b c d)
theorem tO_mono {a : Opd} {Q' : VK} (h : tO X P a σ H Q) (i : ∀ x H, Q x H → Q' x H) : tO X P a σ H Q' := by
  cases a with
  | ex f => exact tE_mono h i
  | pk j => obtain ⟨v, e, q⟩ := h; exact ⟨v, e, i _ _ q⟩
theorem postK_bind {F0 : Fz} {H0 : Hp} {own0 : Ow} {k : Val → Env → Prop} {o : Out} {r : Val → Env → Out} : PostK X P F0 H0 own0 σ k (bindO o r) = PostK X P F0 H0 own0 σ (fun v g => PostK X P F0 H0 own0 σ k (r v g)) o := by
  cases o <;> rfl
/-- the value x is read off by r -/
def RO (σ : St) (ts : List Tmp) (x : V) (r : Rs) : Prop := (∃ d, (⟨x, ⟨d, 0⟩, []⟩ : Tmp) ∈ ts ∧ r = fun _ => some d) ∨ ∃ i, σ[i]? = some (some x) ∧ r = slot1 i
theorem RO.more {t : Tmp} {x : V} {r : Rs} (h : RO σ ts x r) : RO σ (t :: ts) x r := by
  rcases h with ⟨d, h, e⟩ | h
  · exact .inl ⟨d, List.mem_cons_of_mem _ h, e⟩
  · exact .inr h
theorem RO.rt {x : V} {r : Rs} {d : D} {F0 : Fz} {H0 : Hp} {own0 : Ow} {F1 : Fz} {g1 : Env} {own1 : Ow} (h : RO σ ts x r) (m : MidAt X P σ ts H F0 H0 own0 F1 g1 own1) (e : r g1 = some d) : Rt (cn X P) H F1 x d := by
  rcases h with ⟨d', h, rfl⟩ | ⟨i, h, rfl⟩
  · cases e
    exact .of (m.own _ h).zero.1
  · unfold slot1 at e
    split at e
    · rename_i v hv
      split at e
      · rename_i hle
        cases e
        obtain ⟨x', e1, o⟩ := m.g.slot i v hv
        rw [h] at e1; cases e1
        exact o.rt hle
      · cases e
    · cases e
theorem mid_imp {B B' : Bk} (h : Mid X P σ ts B H) (i : ∀ F0 H0 own0 g, B F0 H0 own0 g → B' F0 H0 own0 g) : Mid X P σ ts B' H :=
  let ⟨F0, H0, own0, F1, g1, own1, m, q⟩ := h
  ⟨F0, H0, own0, F1, g1, own1, m, i _ _ _ _ q⟩
/-- an operand is come to -/
theorem mid_opd {a : Opd} {k : Fz → Hp → Ow → Val → Env → Prop} {r : Rs → Env → Out} (h : Mid X P σ ts (fun F0 H0 own0 g => PostK X P F0 H0 own0 σ (k F0 H0 own0) (a.go r g)) H) :
    tO X P a σ H fun x H1 => ∃ ts' r', RO σ ts' x r' ∧ (∀ y s, RO σ ts y s → RO σ ts' y s) ∧ Mid X P σ ts' (fun F0 H0 own0 g => PostK X P F0 H0 own0 σ (k F0 H0 own0) (r r' g)) H1 := by
  cases a with
  | pk i =>
    obtain ⟨F0, H0, own0, F1, g1, own1, m, q⟩ := h
    have q' : PostK X P F0 H0 own0 σ (k F0 H0 own0) (match g1[i]? with
      | some (some _) => r (slot1 i) g1
      | _ => .bad) := q
    split at q'
    · rename_i v hv
      obtain ⟨x, hx, _⟩ := m.g.slot i v hv
      exact ⟨x, hx, ts, slot1 i, .inr ⟨i, hx, rfl⟩, fun _ _ z => z, F0, H0, own0, F1, g1, own1, m, q'⟩
    · exact False.elim q'
  | ex f =>
    have h' := mid_imp (B' := fun F0 H0 own0 g => PostK X P F0 H0 own0 σ (fun v g1 => PostK X P F0 H0 own0 σ (k F0 H0 own0) (r (fun _ => some v.d) g1)) (f g)) h fun F0 H0 own0 g q => by
      have q' : PostK X P F0 H0 own0 σ (k F0 H0 own0) (bindO (f g) fun v g1 => r (fun _ => some v.d) g1) := q
      rw [postK_bind] at q'
      exact q'
    refine tE_mono (mid_eval h') fun x H1 ⟨v, L, mm⟩ => ?_
    exact ⟨_, _, .inl ⟨v.d, List.mem_cons_self, rfl⟩, fun y s z => z.more, mid_freeze mm⟩
end
end PL

/-! PL4: the combinators of expressions. -/
namespace PL
open PySem PySem.Spec L2

section
variable {X : Cx} {P : Par} {σ : St} {H : Hp} {Q : VK} {ts : List Tmp}
/-- the end of an operation by data -/
theorem mid_end2 {v : Val} {F0 : Fz} {H0 : Hp} {own0 : Ow} {F1 : Fz} {g1 : Env} {own1 : Ow} (m : MidAt X P σ ts H F0 H0 own0 F1 g1 own1) (q : End X P F0 H0 own0 σ Q v g1) : Ends2 (cn X P) F1 H v Q := by
  intro H' z L k o nd sep
  refine q F1 H' own1 z L (m.st.trans k.step) (m.g.grow k) o ⟨nd, fun a ha => ?_⟩
  obtain ⟨h1, h2⟩ := sep a ha
  refine ⟨fun f => ?_, fun i hi => ?_, h2, .inr ?_⟩
  · obtain ⟨u, e⟩ := m.g.frz a f
    rw [h1] at e; cases e
  · obtain ⟨_, sh, e⟩ := m.g.sep i a hi
    rw [h1] at e; cases e
  · cases e : H0 a with
    | none => rfl
    | some u => obtain ⟨u', e'⟩ := m.st.tr a u e; rw [h1] at e'; cases e'

/-! ### two operands -/
def fin2 (o : D → D → Option Val) (a b : Option D) (g : Env) : Out := match a, b with
  | some d, some e => match o d e with
    | some v => .ok v g
    | none => .bad
  | _, _ => .bad
def e2 (o : D → D → Option Val) (a b : Opd) : Ex := fun g => a.go (fun ra g1 => b.go (fun rb g2 => fin2 o (ra g2) (rb g2) g2) g1) g
theorem fin2_end {o : D → D → Option Val} {x y : V} {ra rb : Rs} {k : Fz → Hp → Ow → Val → Env → Prop} (hx : RO σ ts x ra) (hy : RO σ ts y rb)
    (h : Mid X P σ ts (fun F0 H0 own0 g => PostK X P F0 H0 own0 σ (k F0 H0 own0) (fin2 o (ra g) (rb g) g)) H) :
    ∃ d e v F0 H0 own0 F1 g1 own1, MidAt X P σ ts H F0 H0 own0 F1 g1 own1 ∧ Rt (cn X P) H F1 x d ∧ Rt (cn X P) H F1 y e ∧ o d e = some v ∧ k F0 H0 own0 v g1 := by
  obtain ⟨F0, H0, own0, F1, g1, own1, m, q⟩ := h
  cases e1 : ra g1 with
  | none => rw [e1] at q; exact False.elim q
  | some d =>
    cases e2 : rb g1 with
    | none => rw [e1, e2] at q; exact False.elim q
    | some e =>
      rw [e1, e2] at q
      simp only [fin2] at q
      cases e3 : o d e with
      | none => rw [e3] at q; exact False.elim q
      | some v => rw [e3] at q; exact ⟨d, e, v, F0, H0, own0, F1, g1, own1, m, hx.rt m e1, hy.rt m e2, e3, q⟩
theorem core2 {o : D → D → Option Val} {a b : Opd} (h : tE X P (e2 o a b) σ H Q) : tOp (rD2 (cn X P) o) (tO X P a) (tO X P b) σ H Q := by
  refine tO_mono (mid_opd (mid_of h)) fun x H1 ⟨ts1, ra, hx, _, m1⟩ => ?_
  refine tO_mono (mid_opd m1) fun y H2 ⟨ts2, rb, hy, up, m2⟩ => ?_
  obtain ⟨d, e, v, F0, H0, own0, F1, g1, own1, m, r1, r2, e3, q⟩ := fin2_end (up _ _ hx) hy m2
  exact ⟨F1, d, e, v, m.g.frz, r1, r2, e3, mid_end2 m q⟩
variable {ea eb ec : Expr} {a b : Opd} {pos : Pos} {o o' : D → D → Option Val}
theorem s_bin {op : Operator} (ho : OpR X (binaryOp op) (rD2 (cn X P) o)) (ha : SO X P ea a) (hb : SO X P eb b) : SE X P (.BinOp ea op eb pos) (e2 o a b) := ⟨pe_imp (pe_op ho ha.pe hb.pe) fun _ _ _ h => core2 h⟩
theorem s_cmp {op : CmpOp} (ho : OpR X (compareOp op) (rD2 (cn X P) o)) (ha : SO X P ea a) (hb : SO X P eb b) (hm : behindInMarks op eb = false) : SE X P (.Compare ea [op] [eb] pos) (e2 o a b) :=
  ⟨pe_imp (pe_cmpR ho ha.pe hb.pe hm) fun _ _ _ h => core2 h⟩
theorem s_ix (ho : IxR X (rD2 (cn X P) o)) (ha : SO X P ea a) (hb : SO X P eb b) (hs : PlainIx eb) : SE X P (.Subscript ea eb pos) (e2 o a b) := ⟨pe_imp (pe_ix ho ha.pe hb.pe hs) fun _ _ _ h => core2 h⟩

/-! ### tests -/
structure ST (X : Cx) (P : Par) (e : Expr) (f : Ex) : Prop where
  pt : PT X e (tB (tE X P f))
theorem pt_imp {e : Expr} {t t' : TT} (h : PT X e t) (i : ∀ σ H Q, t' σ H Q → t σ H Q) : PT X e t' := ⟨fun pins s σ H Q I q => h.run pins s σ H Q I (i σ H Q q)⟩
theorem st_val {e : Expr} {f : Ex} (h : SE X P e f) (he : ∀ whole, isTrue e X.env whole = (do let v ← whole; standAt e.pos; holding [v] (truthy v)) := by intro _; rfl) : ST X P e f := ⟨pt_val h.pe he⟩
theorem st_cmp {op : CmpOp} (ho : OpR X (compareOp op) (rD2 (cn X P) o)) (ha : SO X P ea a) (hb : SO X P eb b) (hm : behindInMarks op eb = false) : ST X P (.Compare ea [op] [eb] pos) (e2 o a b) :=
  ⟨pt_imp (pt_cmpR ho ha.pe hb.pe hm) fun _ _ _ h => core2 h⟩

/-! ### a chain of two comparisons -/
def asB (d : D) : Option Bool := match d with
  | .bl b => some b
  | _ => none
def e3 (o o' : D → D → Option Val) (a b c : Opd) : Ex := fun g => a.go (fun ra g1 => b.go (fun rb g2 =>
  bindO (fin2 o (ra g2) (rb g2) g2) fun v g3 => match v.d with
    | .bl true => c.go (fun rc g4 => fin2 o' (rb g4) (rc g4) g4) g3
    | .bl false => .ok ⟨.bl false, 0⟩ g3
    | _ => .bad) g1) g
theorem core3 {a b c : Opd} (h : tE X P (e3 o o' a b c) σ H Q) : tChain (rD2 (cn X P) o) (rD2 (cn X P) o') (tO X P a) (tO X P b) (tO X P c) σ H Q := by
  refine tO_mono (mid_opd (mid_of h)) fun x H1 ⟨ts1, ra, hx, _, m1⟩ => ?_
  refine tO_mono (mid_opd m1) fun y H2 ⟨ts2, rb, hy, up, m2⟩ => ?_
  have m2' := mid_imp m2 (B' := fun F0 H0 own0 g => PostK X P F0 H0 own0 σ (fun v g3 => PostK X P F0 H0 own0 σ (End X P F0 H0 own0 σ Q) (match v.d with
    | .bl true => c.go (fun rc g4 => fin2 o' (rb g4) (rc g4) g4) g3
    | .bl false => .ok ⟨.bl false, 0⟩ g3
    | _ => .bad)) (fin2 o (ra g) (rb g) g)) fun F0 H0 own0 g q => by rw [postK_bind] at q; exact q
  obtain ⟨d, e, v, F0, H0, own0, F1, g1, own1, m, r1, r2, e3, q⟩ := fin2_end (up _ _ hx) hy m2'
  refine ⟨F1, d, e, v, m.g.frz, r1, r2, e3, fun H3 z L k ow nd sep => ?_⟩
  obtain ⟨vd, vn⟩ := v
  have isb : ∀ k, vd = .bl k → z = .bl k := fun k e => by
    subst e
    cases ow with
    | frz _ r => cases r; rfl
  have hm : MidAt X P σ ts2 H3 F0 H0 own0 F1 g1 own1 := ⟨m.g.grow k, m.st.trans k.step, fun t ht => (m.own t ht).keep k.keep fun a _ ob e => k a ob e, m.nd, fun t ht a ha => by
    obtain ⟨h1, h2, ⟨sh, h3⟩, h4⟩ := m.sep t ht a ha
    exact ⟨h1, h2, ⟨sh, k _ _ h3⟩, h4⟩⟩
  simp only at q
  split at q
  · refine ⟨true, isb _ rfl, ?_⟩
    rw [if_pos rfl]
    have mm : Mid X P σ ts2 (fun F0 H0 own0 g => PostK X P F0 H0 own0 σ (End X P F0 H0 own0 σ Q) (c.go (fun rc g4 => fin2 o' (rb g4) (rc g4) g4) g)) H3 := ⟨F0, H0, own0, F1, g1, own1, hm, q⟩
    refine tO_mono (mid_opd mm) fun w' H4 ⟨ts4, rc, hw, up4, m4⟩ => ?_
    obtain ⟨d, e, v, F0, H0, own0, F1, g1, own1, m, r1, r2, e3, q⟩ := fin2_end (up4 _ _ hy) hw m4
    exact ⟨F1, d, e, v, m.g.frz, r1, r2, e3, mid_end2 m q⟩
  · refine ⟨false, isb _ rfl, ?_⟩
    rw [if_neg Bool.false_ne_true]
    exact (mid_end2 hm q).val (.inl rfl) (.bl false)
  · exact False.elim q
theorem s_chain {op op' : CmpOp} {c : Opd} (ho : OpR X (compareOp op) (rD2 (cn X P) o)) (ho' : OpR X (compareOp op') (rD2 (cn X P) o')) (ha : SO X P ea a) (hb : SO X P eb b) (hc : SO X P ec c)
    (hm : lastMarks [op, op'] [eb, ec] = false := by with_unfolding_all rfl) : SE X P (.Compare ea [op, op'] [eb, ec] pos) (e3 o o' a b c) := ⟨pe_imp (pe_chain ho ho' ha.pe hb.pe hc.pe hm) fun _ _ _ h => core3 h⟩
theorem st_chain {op op' : CmpOp} {c : Opd} (ho : OpR X (compareOp op) (rD2 (cn X P) o)) (ho' : OpR X (compareOp op') (rD2 (cn X P) o')) (ha : SO X P ea a) (hb : SO X P eb b) (hc : SO X P ec c)
    (hm : lastMarks [op, op'] [eb, ec] = false := by with_unfolding_all rfl) : ST X P (.Compare ea [op, op'] [eb, ec] pos) (e3 o o' a b c) := ⟨pt_imp (pt_chain ho ho' ha.pe hb.pe hc.pe hm) fun _ _ _ h => core3 h⟩

/-! ### one operand -/
def fin1 (o : D → Option Val) (a : Option D) (g : Env) : Out := match a with
  | some d => match o d with
    | some v => .ok v g
    | none => .bad
  | none => .bad
def e1 (o : D → Option Val) (a : Opd) : Ex := fun g => a.go (fun ra g1 => fin1 o (ra g1) g1) g
theorem fin1_end {o : D → Option Val} {x : V} {ra : Rs} {k : Fz → Hp → Ow → Val → Env → Prop} (hx : RO σ ts x ra)
    (h : Mid X P σ ts (fun F0 H0 own0 g => PostK X P F0 H0 own0 σ (k F0 H0 own0) (fin1 o (ra g) g)) H) :
    ∃ d v F0 H0 own0 F1 g1 own1, MidAt X P σ ts H F0 H0 own0 F1 g1 own1 ∧ Rt (cn X P) H F1 x d ∧ o d = some v ∧ k F0 H0 own0 v g1 := by
  obtain ⟨F0, H0, own0, F1, g1, own1, m, q⟩ := h
  cases e1 : ra g1 with
  | none => rw [e1] at q; exact False.elim q
  | some d =>
    rw [e1] at q
    simp only [fin1] at q
    cases e3 : o d with
    | none => rw [e3] at q; exact False.elim q
    | some v => rw [e3] at q; exact ⟨d, v, F0, H0, own0, F1, g1, own1, m, hx.rt m e1, e3, q⟩
theorem core1 {o : D → Option Val} {a : Opd} (h : tE X P (e1 o a) σ H Q) : tUn (rD1 (cn X P) o) (tO X P a) σ H Q := by
  refine tO_mono (mid_opd (mid_of h)) fun x H1 ⟨ts1, ra, hx, _, m1⟩ => ?_
  obtain ⟨d, v, F0, H0, own0, F1, g1, own1, m, r1, e3, q⟩ := fin1_end hx m1
  exact ⟨F1, d, v, m.g.frz, r1, e3, mid_end2 m q⟩
theorem s_un {op : UnaryOp} {o : D → Option Val} (ho : UnR X (unaryOp op) (rD1 (cn X P) o)) (ha : SO X P ea a) : SE X P (.UnaryOp op ea pos) (e1 o a) := ⟨pe_imp (pe_un ho ha.pe) fun _ _ _ h => core1 h⟩

/-! ### n operands -/
def allS : List Rs → Env → Option (List D)
  | [], _ => some []
  | r :: rs, g => match r g, allS rs g with
    | some d, some ds => some (d :: ds)
    | _, _ => none
def finN (o : List D → Option Val) (a : Option (List D)) (g : Env) : Out := match a with
  | some ds => match o ds with
    | some v => .ok v g
    | none => .bad
  | none => .bad
def goN : List Opd → (List Rs → Env → Out) → Env → Out
  | [], k, g => k [] g
  | a :: as, k, g => a.go (fun r g1 => goN as (fun rs g2 => k (r :: rs) g2) g1) g
def tOs (X : Cx) (P : Par) : List Opd → TA
  | [] => tNil
  | a :: as => tCons (tO X P a) (tOs X P as)
structure SA (X : Cx) (P : Par) (es : List Expr) (as : List Opd) : Prop where
  pa : PA X es (tOs X P as)
theorem sa_nil : SA X P [] [] := ⟨pa_nil⟩
theorem sa_cons {e : Expr} {es : List Expr} {a : Opd} {as : List Opd} (h : SO X P e a) (hs : SA X P es as) (hst : starEach (e :: es) X.env = (false, eval e X.env) :: starEach es X.env := by rfl) : SA X P (e :: es) (a :: as) := ⟨pa_cons h.pe hs.pa hst⟩
inductive ROs (σ : St) (ts : List Tmp) : List V → List Rs → Prop
  | nil : ROs σ ts [] []
  | cons {x : V} {xs : List V} {r : Rs} {rs : List Rs} : RO σ ts x r → ROs σ ts xs rs → ROs σ ts (x :: xs) (r :: rs)
theorem ROs.up {ts' : List Tmp} (u : ∀ y s, RO σ ts y s → RO σ ts' y s) : ∀ {xs : List V} {rs : List Rs}, ROs σ ts xs rs → ROs σ ts' xs rs
  | _, _, .nil => .nil
  | _, _, .cons h t => .cons (u _ _ h) (ROs.up u t)
theorem ROs.rt {F0 : Fz} {H0 : Hp} {own0 : Ow} {F1 : Fz} {g1 : Env} {own1 : Ow} (m : MidAt X P σ ts H F0 H0 own0 F1 g1 own1) : ∀ {xs : List V} {rs : List Rs} {ds : List D}, ROs σ ts xs rs → allS rs g1 = some ds → RtA (cn X P) H F1 xs ds
  | _, _, _, .nil, e => by cases e; exact .nil
  | _, _, _, .cons (r := r) (rs := rs) h t, e => by
    unfold allS at e
    cases e1 : r g1 with
    | none => rw [e1] at e; cases e
    | some d =>
      cases e2 : allS rs g1 with
      | none => rw [e1, e2] at e; cases e
      | some ds' =>
        rw [e1, e2] at e
        cases e
        exact .cons (h.rt m e1) (ROs.rt m t e2)
theorem tOs_mono : ∀ {as : List Opd} {H : Hp} {Q Q' : List V → Hp → Prop}, tOs X P as σ H Q → (∀ x H, Q x H → Q' x H) → tOs X P as σ H Q'
  | [], _, _, _, h, i => i _ _ h
  | _ :: _, _, _, _, h, i => tO_mono h fun x H1 h1 => tOs_mono h1 fun xs H2 h2 => i _ _ h2
theorem mid_opds {k : Fz → Hp → Ow → Val → Env → Prop} : ∀ {as : List Opd} {ts : List Tmp} {H : Hp} {r : List Rs → Env → Out}, Mid X P σ ts (fun F0 H0 own0 g => PostK X P F0 H0 own0 σ (k F0 H0 own0) (goN as r g)) H →
    tOs X P as σ H fun xs H1 => ∃ ts' rs, ROs σ ts' xs rs ∧ (∀ y s, RO σ ts y s → RO σ ts' y s) ∧ Mid X P σ ts' (fun F0 H0 own0 g => PostK X P F0 H0 own0 σ (k F0 H0 own0) (r rs g)) H1
  | [], ts, H, r, h => ⟨ts, [], .nil, fun _ _ z => z, h⟩
  | a :: as, ts, H, r, h => by
    refine tO_mono (mid_opd h) fun x H1 ⟨ts1, ra, hx, u1, m1⟩ => ?_
    refine tOs_mono (mid_opds m1) fun xs H2 ⟨ts2, rs, hs, u2, m2⟩ => ?_
    exact ⟨ts2, ra :: rs, .cons (u2 _ _ hx) hs, fun y s z => u2 _ _ (u1 _ _ z), m2⟩
def en (o : List D → Option Val) (as : List Opd) : Ex := fun g => goN as (fun rs g1 => finN o (allS rs g1) g1) g
theorem finN_end {o : List D → Option Val} {xs : List V} {rs : List Rs} {k : Fz → Hp → Ow → Val → Env → Prop} (hx : ROs σ ts xs rs)
    (h : Mid X P σ ts (fun F0 H0 own0 g => PostK X P F0 H0 own0 σ (k F0 H0 own0) (finN o (allS rs g) g)) H) :
    ∃ ds v F0 H0 own0 F1 g1 own1, MidAt X P σ ts H F0 H0 own0 F1 g1 own1 ∧ RtA (cn X P) H F1 xs ds ∧ o ds = some v ∧ k F0 H0 own0 v g1 := by
  obtain ⟨F0, H0, own0, F1, g1, own1, m, q⟩ := h
  cases e1 : allS rs g1 with
  | none => rw [e1] at q; exact False.elim q
  | some ds =>
    rw [e1] at q
    simp only [finN] at q
    cases e3 : o ds with
    | none => rw [e3] at q; exact False.elim q
    | some v => rw [e3] at q; exact ⟨ds, v, F0, H0, own0, F1, g1, own1, m, hx.rt m e1, e3, q⟩
theorem coreN {o : List D → Option Val} {as : List Opd} (h : tE X P (en o as) σ H Q) : tOs X P as σ H fun xs H1 => rDn (cn X P) o xs H1 Q := by
  refine tOs_mono (mid_opds (mid_of h)) fun xs H1 ⟨ts1, rs, hx, _, m1⟩ => ?_
  obtain ⟨ds, v, F0, H0, own0, F1, g1, own1, m, r1, e3, q⟩ := finN_end hx m1
  exact ⟨F1, ds, v, m.g.frz, r1, e3, mid_end2 m q⟩
theorem s_callB {x : Str} {p : Pos} {id : String} {e : Expr} {es : List Expr} {as : List Opd} {o : List D → Option Val} (hc : CallR X (.builtin id) (rDn (cn X P) o)) (hg : Gl X x) (hm : X.mg x = none) (hv : bootBuiltins x = some (.builtin id)) (ha : SA X P (e :: es) as)
    (hn : x ≠ "__name__" := by decide) (hdb : (x == ("__debug__" : Str)) = false := by decide)
    (he : starEach (e :: es) X.env = (false, eval e X.env) :: starEach es X.env := by rfl) (hpl : (backTo pos (starEach es X.env)).any (·.1) = false := by rfl) : SE X P (.Call (.Name x p) (e :: es) [] pos) (en o as) :=
  ⟨pe_imp (pe_callB hc hg hm hv ha.pa hn hdb he hpl) fun _ _ _ h => coreN h⟩
theorem s_callT {x : Str} {p : Pos} {T : String} {e : Expr} {es : List Expr} {as : List Opd} {o : List D → Option Val} (hc : CallR X (.type T) (rDn (cn X P) o)) (hg : Gl X x) (hm : X.mg x = none) (hv : bootBuiltins x = some (.type T)) (ha : SA X P (e :: es) as)
    (hn : x ≠ "__name__" := by decide) (hdb : (x == ("__debug__" : Str)) = false := by decide)
    (he : starEach (e :: es) X.env = (false, eval e X.env) :: starEach es X.env := by rfl) (hpl : (backTo pos (starEach es X.env)).any (·.1) = false := by rfl) : SE X P (.Call (.Name x p) (e :: es) [] pos) (en o as) :=
  ⟨pe_imp (pe_callTy hc hg hm hv ha.pa hn hdb he hpl) fun _ _ _ h => coreN h⟩
/-- (a, b, ..) -/
def oTup (ds : List D) : Option Val := if ds.length ≤ 16777216 then some ⟨.tup ds, 0⟩ else none
theorem RtA.length : ∀ {c : Cn} {F : Fz} {vs : List V} {ds : List D}, RtA c H F vs ds → vs.length = ds.length
  | _, _, _, _, .nil => rfl
  | _, _, _, _, .cons _ r => by simp [RtA.length r]

/-! ### names, constants -/
def eVar (i : Nat) : Ex := fun g => match g[i]? with
  | some (some v) => .ok ⟨v.d, 0⟩ (if v.o = 0 then g else g.set i (some ⟨v.d, 0⟩))
  | _ => .bad
def eC (d : D) : Ex := fun g => .ok ⟨d, 0⟩ g
theorem s_var {i : Nat} {x : Str} (hN : X.N[i]? = some x) (hv : Vis X.env.scope x) (hd : (x == ("__debug__" : Str)) = false := by decide) (hcd : (x == ("__classdict__" : Str)) = false := by decide) : SE X P (.Name x pos) (eVar i) := by
  refine ⟨pe_imp (pe_var hN hv hd hcd) fun σ H Q h => ?_⟩
  obtain ⟨F, g, own, I, q⟩ := h
  unfold eVar at q
  split at q
  · rename_i v hv
    obtain ⟨x, hx, o⟩ := I.slot i v hv
    refine ⟨x, hx, ?_⟩
    by_cases hz : v.o = 0
    · rw [if_pos hz] at q
      rw [hz] at o
      exact q F H own x [] .refl I (.of o.zero.1) ⟨List.nodup_nil, fun _ h => nomatch h⟩
    · rw [if_neg hz] at q
      -- the slot is frozen
      have hi : i < g.length := by
        have := (List.getElem?_eq_some_iff.mp hv).1
        exact this
      have up : ∀ a, F a → (F a ∨ a ∈ own i) := fun _ h => .inl h
      refine q (fun a => F a ∨ a ∈ own i) H (fun j => if j = i then [] else own j) x [] ?_ ?_ (.of (o.freeze up fun a ha => .inr ha)) ⟨List.nodup_nil, fun _ h => nomatch h⟩
      · refine ⟨up, fun a o e _ => e, fun a z => ?_, fun j a ha => ?_, fun a o e => ⟨o, e⟩⟩
        · rcases z with z | z
          · exact .inl z
          · exact .inr (.inl ⟨i, z⟩)
        · split at ha
          · cases ha
          · exact .inl ⟨j, ha⟩
      · refine ⟨by rw [List.length_set]; exact I.len, I.slen, fun j u e => ?_, fun j z => ?_, fun j => ?_, fun j k a hjk h1 h2 => ?_, fun j a ha => ?_, fun a z => ?_, I.pin⟩
        · by_cases hj : j = i
          · subst hj
            rw [List.getElem?_set_self hi] at e
            cases e
            rw [if_pos rfl]
            exact ⟨x, hx, .of (o.freeze up fun a ha => .inr ha)⟩
          · rw [List.getElem?_set_ne (Ne.symm hj)] at e
            rw [if_neg hj]
            obtain ⟨y, hy, o'⟩ := I.slot j u e
            exact ⟨y, hy, o'.keep (.more up) fun _ _ _ h => h⟩
        · by_cases hj : j = i
          · rw [if_pos hj]
          · rw [if_neg hj]
            exact I.emp j fun v e => z v (by rw [List.getElem?_set_ne (Ne.symm hj)]; exact e)
        · show (if j = i then [] else own j).Nodup
          split
          · exact List.nodup_nil
          · exact I.nodup j
        · have h1 : a ∈ (if j = i then [] else own j) := h1
          have h2 : a ∈ (if k = i then [] else own k) := h2
          split at h1
          · cases h1
          · split at h2
            · cases h2
            · exact I.disj j k a hjk h1 h2
        · have ha : a ∈ (if j = i then [] else own j) := ha
          split at ha
          · cases ha
          · rename_i hj
            obtain ⟨h1, h2⟩ := I.sep j a ha
            refine ⟨fun z => ?_, h2⟩
            rcases z with z | z
            · exact h1 z
            · exact I.disj j i a hj ha z
        · rcases z with z | z
          · exact I.frz a z
          · obtain ⟨_, sh, e⟩ := I.sep i a z
            exact ⟨_, e⟩
  · exact False.elim q
theorem s_const {e : Expr} {v : V} {d : D} (h : PE X e (tC v)) (r : ∀ H F, Rp (cn X P) H F v d) : SE X P e (eC d) := by
  refine ⟨pe_imp h fun σ H Q h => ?_⟩
  obtain ⟨F, g, own, I, q⟩ := h
  exact q F H own v [] .refl I (.of (r H F)) ⟨List.nodup_nil, fun _ h => nomatch h⟩
theorem s_int {i : Int} {j : Nat} : SE X P (.Constant (.int i) j pos) (eC (.int i)) := s_const pe_int fun _ _ => .int i
theorem s_bl {b : Bool} {j : Nat} : SE X P (.Constant (.bool b) j pos) (eC (.bl b)) := s_const pe_bl fun _ _ => .bl b
theorem s_non {j : Nat} : SE X P (.Constant .none j pos) (eC .non) := s_const pe_non fun _ _ => .non
theorem s_str {x : Str} {j : Nat} : SE X P (.Constant (.str x) j pos) (eC (.str x)) := s_const pe_str fun _ _ => .str x
theorem s_gint {x : Str} {i : Int} {t : Tok} (hg : Gl X x) (hm : X.mg x = some (.int i t)) (hd : (x == ("__debug__" : Str)) = false := by decide) : SE X P (.Name x pos) (eC (.int i)) := s_const (pe_glob (v := .int i) hg hm ⟨t, rfl⟩ hd) fun _ _ => .int i
theorem s_gfn {x : Str} {f : Nat} {a : Addr} (hg : Gl X x) (hm : X.mg x = some (.ref a)) (hf : P.fns f = some a) (hd : (x == ("__debug__" : Str)) = false := by decide) : SE X P (.Name x pos) (eC (.fn f)) := s_const (pe_glob (v := .ref a) hg hm rfl hd) fun _ _ => .fn hf

/-! ### and, or, not, if -/
def eAnd (fa fb : Ex) : Ex := fun g => bindO (fa g) fun v g1 => match v.d with
  | .bl true => fb g1
  | .bl false => .ok ⟨.bl false, 0⟩ g1
  | _ => .bad
def eOr (fa fb : Ex) : Ex := fun g => bindO (fa g) fun v g1 => match v.d with
  | .bl true => .ok ⟨.bl true, 0⟩ g1
  | .bl false => fb g1
  | _ => .bad
def eNot (fa : Ex) : Ex := fun g => bindO (fa g) fun v g1 => match v.d with
  | .bl b => .ok ⟨.bl (!b), 0⟩ g1
  | _ => .bad
def eIf (c fa fb : Ex) : Ex := fun g => bindO (c g) fun v g1 => match v.d with
  | .bl true => fa g1
  | .bl false => fb g1
  | _ => .bad
/-- a part whose value is a bool, then the rest -/
theorem mid_bool {f : Ex} {r : Bool → Env → Out} {k : Fz → Hp → Ow → Val → Env → Prop}
    (h : Mid X P σ ts (fun F0 H0 own0 g => PostK X P F0 H0 own0 σ (k F0 H0 own0) (bindO (f g) fun v g1 => match v.d with
      | .bl b => r b g1
      | _ => .bad)) H) :
    tE X P f σ H fun x H1 => ∃ b ts', x = .bl b ∧ Mid X P σ ts' (fun F0 H0 own0 g => PostK X P F0 H0 own0 σ (k F0 H0 own0) (r b g)) H1 := by
  have h' := mid_imp h (B' := fun F0 H0 own0 g => PostK X P F0 H0 own0 σ (fun v g1 => PostK X P F0 H0 own0 σ (k F0 H0 own0) (match v.d with
      | .bl b => r b g1
      | _ => .bad)) (f g)) fun F0 H0 own0 g q => by rw [postK_bind] at q; exact q
  refine tE_mono (mid_eval h') fun x H1 ⟨v, L, F0, H0, own0, F1, g1, own1, m, q⟩ => ?_
  have o := m.own _ List.mem_cons_self
  obtain ⟨vd, vn⟩ := v
  simp only at q o
  split at q
  · rename_i b
    refine ⟨b, _, ?_, F0, H0, own0, F1, g1, own1, m, q⟩
    cases o with
    | frz _ r => cases r; rfl
  · exact False.elim q
/-- going on from where one stands -/
theorem mid_go {f : Ex} {k : VK} (h : Mid X P σ ts (fun F0 H0 own0 g => PostK X P F0 H0 own0 σ (End X P F0 H0 own0 σ k) (f g)) H) : tE X P f σ H k := by
  obtain ⟨F0, H0, own0, F1, g1, own1, m, q⟩ := h
  refine ⟨F1, g1, own1, m.g, ?_⟩
  cases e : f g1 with
  | bad => rw [e] at q; exact q
  | exc x g => rw [e] at q; exact fun F' H' own' cls d s => q F' H' own' cls d (m.st.trans s)
  | ok v g =>
    rw [e] at q
    intro F' H' own' x L s I o fr
    refine q F' H' own' x L (m.st.trans s) I o ⟨fr.nd, fun a ha => ?_⟩
    obtain ⟨h1, h2, h3, h4⟩ := fr.sep a ha
    refine ⟨h1, h2, h3, ?_⟩
    rcases h4 with ⟨i, z⟩ | z
    · exact m.st.own i a z
    · right
      cases q : H0 a with
      | none => rfl
      | some ob => obtain ⟨o', e'⟩ := m.st.tr a ob q; rw [z] at e'; cases e'
/-- an end that is a bool -/
theorem mid_bl {b : Bool} (h : Mid X P σ ts (fun F0 H0 own0 g => PostK X P F0 H0 own0 σ (End X P F0 H0 own0 σ Q) (.ok ⟨.bl b, 0⟩ g)) H) : Q (.bl b) H :=
  let ⟨_, _, _, _, _, _, m, q⟩ := h
  (mid_end2 m q).val (.inl rfl) (.bl b)
variable {fa fb fc : Ex}
theorem eAnd_b {g : Env} : eAnd fa fb g = bindO (fa g) fun v g1 => match v.d with
    | .bl b => (if b then fb g1 else .ok ⟨.bl false, 0⟩ g1)
    | _ => .bad := by
  unfold eAnd
  cases fa g with
  | ok v g1 =>
    obtain ⟨vd, vn⟩ := v
    cases vd with
    | bl b => cases b <;> rfl
    | _ => rfl
  | _ => rfl
theorem eOr_b {g : Env} : eOr fa fb g = bindO (fa g) fun v g1 => match v.d with
    | .bl b => (if b then .ok ⟨.bl true, 0⟩ g1 else fb g1)
    | _ => .bad := by
  unfold eOr
  cases fa g with
  | ok v g1 =>
    obtain ⟨vd, vn⟩ := v
    cases vd with
    | bl b => cases b <;> rfl
    | _ => rfl
  | _ => rfl
theorem eIf_b {g : Env} : eIf fc fa fb g = bindO (fc g) fun v g1 => match v.d with
    | .bl b => (if b then fa g1 else fb g1)
    | _ => .bad := by
  unfold eIf
  cases fc g with
  | ok v g1 =>
    obtain ⟨vd, vn⟩ := v
    cases vd with
    | bl b => cases b <;> rfl
    | _ => rfl
  | _ => rfl
theorem core_and (h : tE X P (eAnd fa fb) σ H Q) : tE X P fa σ H fun x H1 => ∃ c, x = .bl c ∧ if c = true then tE X P fb σ H1 Q else Q (.bl false) H1 := by
  have m := mid_of h
  simp only [eAnd_b] at m
  refine tE_mono (mid_bool m) fun x H1 ⟨b, ts', e, m1⟩ => ⟨b, e, ?_⟩
  cases b with
  | true => rw [if_pos rfl]; exact mid_go (by simpa using m1)
  | false => rw [if_neg Bool.false_ne_true]; exact mid_bl (by simpa using m1)
theorem core_or (h : tE X P (eOr fa fb) σ H Q) : tE X P fa σ H fun x H1 => ∃ c, x = .bl c ∧ if c = true then Q (.bl true) H1 else tE X P fb σ H1 Q := by
  have m := mid_of h
  simp only [eOr_b] at m
  refine tE_mono (mid_bool m) fun x H1 ⟨b, ts', e, m1⟩ => ⟨b, e, ?_⟩
  cases b with
  | true => rw [if_pos rfl]; exact mid_bl (by simpa using m1)
  | false => rw [if_neg Bool.false_ne_true]; exact mid_go (by simpa using m1)
theorem core_not (h : tE X P (eNot fa) σ H Q) : tE X P fa σ H fun x H1 => ∃ c, x = .bl c ∧ Q (.bl (!c)) H1 := by
  have m := mid_of h
  unfold eNot at m
  exact tE_mono (mid_bool (r := fun b g1 => .ok ⟨.bl (!b), 0⟩ g1) m) fun x H1 ⟨b, ts', e, m1⟩ => ⟨b, e, mid_bl m1⟩
theorem core_if (h : tE X P (eIf fc fa fb) σ H Q) : tE X P fc σ H fun x H1 => ∃ c, x = .bl c ∧ if c = true then tE X P fa σ H1 Q else tE X P fb σ H1 Q := by
  have m := mid_of h
  simp only [eIf_b] at m
  refine tE_mono (mid_bool m) fun x H1 ⟨b, ts', e, m1⟩ => ⟨b, e, ?_⟩
  cases b with
  | true => rw [if_pos rfl]; exact mid_go (by simpa using m1)
  | false => rw [if_neg Bool.false_ne_true]; exact mid_go (by simpa using m1)
variable {rest : List Expr}
theorem s_one {op : BoolOp} (h : SE X P ea fa) : SE X P (.BoolOp op [ea] pos) fa := ⟨pe_one h.pe⟩
theorem s_and (ha : SE X P ea fa) (hb : SE X P (.BoolOp .And (eb :: rest) pos) fb) : SE X P (.BoolOp .And (ea :: eb :: rest) pos) (eAnd fa fb) := ⟨pe_imp (pe_and ha.pe hb.pe) fun _ _ _ h => core_and h⟩
theorem s_or (ha : SE X P ea fa) (hb : SE X P (.BoolOp .Or (eb :: rest) pos) fb) : SE X P (.BoolOp .Or (ea :: eb :: rest) pos) (eOr fa fb) := ⟨pe_imp (pe_or ha.pe hb.pe) fun _ _ _ h => core_or h⟩
theorem s_not (ha : SE X P ea fa) : SE X P (.UnaryOp .Not ea pos) (eNot fa) := ⟨pe_imp (pe_not ha.pe) fun _ _ _ h => core_not h⟩
theorem s_if (hc : ST X P ec fc) (ha : SE X P ea fa) (hb : SE X P eb fb) : SE X P (.IfExp ec ea eb pos) (eIf fc fa fb) := ⟨pe_imp (pe_ifExp hc.pt ha.pe hb.pe) fun _ _ _ h => core_if h⟩
/-- .. as tests -/
structure SW (X : Cx) (P : Par) (e : Expr) (f : Ex) : Prop where
  pw : PW X e (tB (tE X P f))
theorem pw_imp {e : Expr} {t t' : TT} (h : PW X e t) (i : ∀ σ H Q, t' σ H Q → t σ H Q) : PW X e t' := ⟨fun wh pins s σ H Q I q => h.run wh pins s σ H Q I (i σ H Q q)⟩
theorem SW.st {e : Expr} {f : Ex} (h : SW X P e f) : ST X P e f := ⟨h.pw.pt⟩
theorem sw_and1 (h : ST X P ea fa) : SW X P (.BoolOp .And [ea] pos) fa := ⟨pw_and1 h.pt⟩
theorem sw_or1 (h : ST X P ea fa) : SW X P (.BoolOp .Or [ea] pos) fa := ⟨pw_or1 h.pt⟩
theorem sw_and (ha : ST X P ea fa) (hb : SW X P (.BoolOp .And (eb :: rest) pos) fb) : SW X P (.BoolOp .And (ea :: eb :: rest) pos) (eAnd fa fb) :=
  ⟨pw_imp (pw_and ha.pt hb.pw) fun σ H Q h => tE_mono (core_and h) fun x H1 ⟨c, e, q⟩ => ⟨c, e, by
    cases c with
    | true => rw [if_pos rfl] at q ⊢; exact q
    | false => obtain ⟨c', e', q'⟩ : ∃ c', V.bl false = .bl c' ∧ Q c' H1 := by simpa using q
               cases e'; simpa using q'⟩⟩
theorem sw_or (ha : ST X P ea fa) (hb : SW X P (.BoolOp .Or (eb :: rest) pos) fb) : SW X P (.BoolOp .Or (ea :: eb :: rest) pos) (eOr fa fb) :=
  ⟨pw_imp (pw_or ha.pt hb.pw) fun σ H Q h => tE_mono (core_or h) fun x H1 ⟨c, e, q⟩ => ⟨c, e, by
    cases c with
    | false => rw [if_neg Bool.false_ne_true] at q ⊢; exact q
    | true => obtain ⟨c', e', q'⟩ : ∃ c', V.bl true = .bl c' ∧ Q c' H1 := by simpa using q
              cases e'; simpa using q'⟩⟩
theorem st_not (ha : ST X P ea fa) : ST X P (.UnaryOp .Not ea pos) (eNot fa) :=
  ⟨pt_imp (pt_not ha.pt) fun σ H Q h => tE_mono (core_not h) fun x H1 ⟨c, e, c', e', q⟩ => ⟨c, e, by cases e'; exact q⟩⟩
end
end PL

/-! PL5: statements, targets, what a loop walks, for, while. -/
namespace PL
open PySem PySem.Spec L2

def PostS (X : Cx) (P : Par) (F0 : Fz) (H0 : Hp) (own0 : Ow) (D : Ends) : SOut → Prop
  | .nx g => ∀ F' H' own' σ', Step F0 H0 own0 F' H' own' → GX X P F' H' σ' g own' → D.nx σ' H'
  | .brk g => ∀ F' H' own' σ', Step F0 H0 own0 F' H' own' → GX X P F' H' σ' g own' → D.bk σ' H'
  | .ct g => ∀ F' H' own' σ', Step F0 H0 own0 F' H' own' → GX X P F' H' σ' g own' → D.ct σ' H'
  | .ret v g => ∀ F' H' own' σ' x L, Step F0 H0 own0 F' H' own' → GX X P F' H' σ' g own' → Own (cn X P) H' F' v.o x v.d L → Frsh F0 H0 own0 F' H' own' L → D.rt x H'
  | .exc e g => ∀ F' H' own' σ' cls d, Step F0 H0 own0 F' H' own' → GX X P F' H' σ' g own' → ExR P.cls e cls d H' → P.W cls d σ' H'
  | .bad => False
def tS (X : Cx) (P : Par) (f : Sx) : TS := fun D σ H => ∃ F g own, GX X P F H σ g own ∧ PostS X P F H own D (f g)
structure SS (X : Cx) (P : Par) (st : Stmt) (f : Sx) : Prop where
  ps : PS X st (tS X P f)
structure SB (X : Cx) (P : Par) (sts : List Stmt) (f : Sx) : Prop where
  ps : PSs X sts (tS X P f)
theorem ps_imp {X : Cx} {st : Stmt} {t t' : TS} (h : PS X st t) (i : ∀ D σ H, t' D σ H → t D σ H) : PS X st t' := ⟨fun pins s σ H D I q => h.run pins s σ H D I (i D σ H q)⟩
theorem pss_imp {X : Cx} {st : List Stmt} {t t' : TS} (h : PSs X st t) (i : ∀ D σ H, t' D σ H → t D σ H) : PSs X st t' := ⟨fun pins s σ H D I q => h.run pins s σ H D I (i D σ H q)⟩

/-- younger places are young for the elder, too -/
theorem young {F0 : Fz} {H0 : Hp} {own0 : Ow} {F1 : Fz} {H1 : Hp} {own1 : Ow} (s : Step F0 H0 own0 F1 H1 own1) {a : Addr} (h : (∃ i, a ∈ own1 i) ∨ H1 a = none) : (∃ i, a ∈ own0 i) ∨ H0 a = none := by
  rcases h with ⟨i, z⟩ | z
  · exact s.own i a z
  · right
    cases q : H0 a with
    | none => rfl
    | some ob => obtain ⟨o', e'⟩ := s.tr a ob q; rw [z] at e'; cases e'
theorem Frsh.elder {F0 : Fz} {H0 : Hp} {own0 : Ow} {F1 : Fz} {H1 : Hp} {own1 : Ow} {F2 : Fz} {H2 : Hp} {own2 : Ow} {L : List Addr} (s : Step F0 H0 own0 F1 H1 own1) (f : Frsh F1 H1 own1 F2 H2 own2 L) : Frsh F0 H0 own0 F2 H2 own2 L :=
  ⟨f.nd, fun a ha => let ⟨h1, h2, h3, h4⟩ := f.sep a ha; ⟨h1, h2, h3, young s h4⟩⟩
section
variable {X : Cx} {P : Par} {σ : St} {H : Hp} {D D' : Ends} {ts : List Tmp}
theorem postS_step {F0 : Fz} {H0 : Hp} {own0 : Ow} {F1 : Fz} {H1 : Hp} {own1 : Ow} (s : Step F0 H0 own0 F1 H1 own1) {r : SOut} (h : PostS X P F0 H0 own0 D r) : PostS X P F1 H1 own1 D r := by
  cases r with
  | nx g => exact fun F' H' own' σ' t => h F' H' own' σ' (s.trans t)
  | brk g => exact fun F' H' own' σ' t => h F' H' own' σ' (s.trans t)
  | ct g => exact fun F' H' own' σ' t => h F' H' own' σ' (s.trans t)
  | ret v g => exact fun F' H' own' σ' x L t I o f => h F' H' own' σ' x L (s.trans t) I o (f.elder s)
  | exc e g => exact fun F' H' own' σ' cls d t => h F' H' own' σ' cls d (s.trans t)
  | bad => exact h
/-- other ends -/
structure EndsLe (D D' : Ends) : Prop where
  nx : ∀ σ H, D.nx σ H → D'.nx σ H
  rt : ∀ v H, D.rt v H → D'.rt v H
  bk : ∀ σ H, D.bk σ H → D'.bk σ H
  ct : ∀ σ H, D.ct σ H → D'.ct σ H
theorem postS_le {F0 : Fz} {H0 : Hp} {own0 : Ow} (l : EndsLe D D') {r : SOut} (h : PostS X P F0 H0 own0 D r) : PostS X P F0 H0 own0 D' r := by
  cases r with
  | nx g => exact fun F' H' own' σ' s I => l.nx _ _ (h F' H' own' σ' s I)
  | brk g => exact fun F' H' own' σ' s I => l.bk _ _ (h F' H' own' σ' s I)
  | ct g => exact fun F' H' own' σ' s I => l.ct _ _ (h F' H' own' σ' s I)
  | ret v g => exact fun F' H' own' σ' x L s I o f => l.rt _ _ (h F' H' own' σ' x L s I o f)
  | exc e g => exact h
  | bad => exact h
theorem ittt {p q : Prop} (h : p) : if true = true then p else q := h
theorem itff {p q : Prop} (h : q) : if false = true then p else q := h
def bindS (r : SOut) (k : Env → SOut) : SOut := match r with
  | .nx g => k g
  | r => r
def seq (f h : Sx) : Sx := fun g => bindS (f g) h
def skip : Sx := fun g => .nx g
theorem core_seq {f h : Sx} (q : tS X P (seq f h) D σ H) : tS X P f { D with nx := tS X P h D } σ H := by
  obtain ⟨F, g, own, I, q⟩ := q
  refine ⟨F, g, own, I, ?_⟩
  unfold seq at q
  cases e : f g with
  | nx g' => rw [e] at q; exact fun F' H' own' σ' s I' => ⟨F', g', own', I', postS_step s q⟩
  | brk g' => rw [e] at q; exact q
  | ct g' => rw [e] at q; exact q
  | ret v g' => rw [e] at q; exact q
  | exc x g' => rw [e] at q; exact q
  | bad => rw [e] at q; exact q
variable {st : Stmt} {sts : List Stmt} {f h : Sx} {pos : Pos}
theorem sb_nil : SB X P [] skip := ⟨pss_imp pss_nil fun D σ H ⟨F, g, own, I, q⟩ => q F H own σ .refl I⟩
theorem sb_cons (h1 : SS X P st f) (h2 : SB X P sts h) : SB X P (st :: sts) (seq f h) := ⟨pss_imp (pss_cons h1.ps h2.ps) fun _ _ _ q => core_seq q⟩
theorem sb_one (h1 : SS X P st f) : SB X P [st] f := ⟨pss_one h1.ps⟩
def sBrk : Sx := fun g => .brk g
def sCt : Sx := fun g => .ct g
theorem s_pass : SS X P (.Pass pos) skip := ⟨ps_imp ps_pass fun D σ H ⟨F, g, own, I, q⟩ => q F H own σ .refl I⟩
theorem s_break : SS X P (.Break pos) sBrk := ⟨ps_imp ps_break fun D σ H ⟨F, g, own, I, q⟩ => q F H own σ .refl I⟩
theorem s_continue : SS X P (.Continue pos) sCt := ⟨ps_imp ps_continue fun D σ H ⟨F, g, own, I, q⟩ => q F H own σ .refl I⟩

/-- from an expression to a statement -/
def bindE (o : Out) (k : Val → Env → SOut) : SOut := match o with
  | .ok v g => k v g
  | .exc e g => .exc e g
  | .bad => .bad
theorem mid_ofS {fe : Ex} {k : Val → Env → SOut} (q : tS X P (fun g => bindE (fe g) k) D σ H) :
    tE X P fe σ H fun x H1 => ∃ v L, Mid X P σ [⟨x, v, L⟩] (fun F0 H0 own0 g => PostS X P F0 H0 own0 D (k v g)) H1 := by
  obtain ⟨F, g, own, I, q⟩ := q
  refine mid_eval (k := fun F0 H0 own0 v g => PostS X P F0 H0 own0 D (k v g)) (mid_start I ?_)
  have q : PostS X P F H own D (bindE (fe g) k) := q
  cases e : fe g with
  | ok v g1 => rw [e] at q; exact q
  | exc x g1 => rw [e] at q; exact fun F' H' own' cls d s I' r => q F' H' own' σ cls d s I' r
  | bad => rw [e] at q; exact q
def sEx (fe : Ex) : Sx := fun g => bindE (fe g) fun _ g1 => .nx g1
def sRet (fe : Ex) : Sx := fun g => bindE (fe g) .ret
def sRetN : Sx := fun g => .ret ⟨.non, 0⟩ g
def sIf (c : Ex) (t e : Sx) : Sx := fun g => bindE (c g) fun v g1 => match v.d with
  | .bl true => t g1
  | .bl false => e g1
  | _ => .bad
variable {e ec : Expr} {fe fc : Ex}
theorem s_expr (he : SE X P e fe) (hs : swapsWith e none pos.line X.env = pure false := by rfl) : SS X P (.Expr e pos) (sEx fe) :=
  ⟨ps_imp (ps_expr he.pe hs) fun D σ H q => tE_mono (mid_ofS q) fun x H1 ⟨v, L, F0, H0, own0, F1, g1, own1, m, q⟩ => q F1 H1 own1 σ m.st m.g⟩
theorem s_ret (he : SE X P e fe) : SS X P (.Return (some e) pos) (sRet fe) :=
  ⟨ps_imp (ps_ret he.pe) fun D σ H q => tE_mono (mid_ofS q) fun x H1 ⟨v, L, F0, H0, own0, F1, g1, own1, m, q⟩ =>
    q F1 H1 own1 σ x L m.st m.g (m.own _ (List.mem_singleton.mpr rfl)) ⟨by have := m.nd; simpa using this, m.sep _ (List.mem_singleton.mpr rfl)⟩⟩
theorem s_retN : SS X P (.Return none pos) sRetN :=
  ⟨ps_imp ps_retN fun D σ H ⟨F, g, own, I, q⟩ => q F H own σ .non [] .refl I (.of .non) ⟨List.nodup_nil, fun _ h => nomatch h⟩⟩
theorem s_ifS {a b : List Stmt} (hc : ST X P ec fc) (ha : SB X P a f) (hb : SB X P b h) : SS X P (.If ec a b pos) (sIf fc f h) := by
  refine ⟨ps_imp (ps_if hc.pt ha.ps hb.ps) fun D σ H q => tE_mono (mid_ofS q) fun x H1 ⟨v, L, F0, H0, own0, F1, g1, own1, m, q⟩ => ?_⟩
  have o := m.own _ List.mem_cons_self
  obtain ⟨vd, vn⟩ := v
  simp only at q o
  split at q
  · refine ⟨true, by (cases o with | frz _ r => cases r; rfl), ?_⟩
    exact ittt ⟨F1, g1, own1, m.g, postS_step m.st q⟩
  · refine ⟨false, by (cases o with | frz _ r => cases r; rfl), ?_⟩
    exact itff ⟨F1, g1, own1, m.g, postS_step m.st q⟩
  · exact False.elim q

/-! ### stores -/
/-- a name's slot takes a value -/
theorem G.set {c : Cn} {n : Nat} {pz : List (Nat × V)} {F : Fz} {g : Env} {own : Ow} (I : G c n pz F H σ g own) {i : Nat} {x : V} {v : Val} {L : List Addr} (hi : i < n) (hp : i ∉ pz.map (·.1)) (o : Own c H F v.o x v.d L) (nd : L.Nodup)
    (sep : ∀ a ∈ L, ¬ F a ∧ (∀ j, a ∉ own j) ∧ ∃ sh, H a = some (shO a sh)) : G c n pz F H (σ.set i (some x)) (g.set i (some v)) (fun j => if j = i then L else own j) := by
  have hg : i < g.length := by rw [I.len]; exact hi
  have hs : i < σ.length := by rw [I.slen]; exact hi
  refine ⟨by rw [List.length_set]; exact I.len, by rw [List.length_set]; exact I.slen, fun j u e => ?_, fun j z => ?_, fun j => ?_, fun j k a hjk h1 h2 => ?_, fun j a ha => ?_, I.frz, fun p hpz => ?_⟩
  · by_cases hj : j = i
    · subst hj
      rw [List.getElem?_set_self hg] at e
      cases e
      rw [if_pos rfl]
      exact ⟨x, List.getElem?_set_self hs, o⟩
    · rw [List.getElem?_set_ne (Ne.symm hj)] at e
      rw [if_neg hj, List.getElem?_set_ne (Ne.symm hj)]
      exact I.slot j u e
  · by_cases hj : j = i
    · subst hj
      exact absurd (List.getElem?_set_self hg) (z v)
    · rw [if_neg hj]
      exact I.emp j fun w e => z w (by rw [List.getElem?_set_ne (Ne.symm hj)]; exact e)
  · show (if j = i then L else own j).Nodup
    split
    · exact nd
    · exact I.nodup j
  · have h1 : a ∈ (if j = i then L else own j) := h1
    have h2 : a ∈ (if k = i then L else own k) := h2
    split at h1
    · split at h2
      · rename_i e1 e2; exact hjk (e1.trans e2.symm)
      · exact (sep a h1).2.1 k h2
    · split at h2
      · exact (sep a h2).2.1 j h1
      · exact I.disj j k a hjk h1 h2
  · have ha : a ∈ (if j = i then L else own j) := ha
    split at ha
    · exact ⟨(sep a ha).1, (sep a ha).2.2⟩
    · exact I.sep j a ha
  · have hne : p.1 ≠ i := fun e => hp (e ▸ List.mem_map_of_mem hpz)
    rw [List.getElem?_set_ne (Ne.symm hne)]
    exact I.pin p hpz
/-- slots are forgotten -/
theorem G.wipe {c : Cn} {n : Nat} {pz : List (Nat × V)} {F : Fz} {g : Env} {own : Ow} (I : G c n pz F H σ g own) (i : Nat) : G c n pz F H σ (g.set i none) (fun j => if j = i then [] else own j) := by
  refine ⟨by rw [List.length_set]; exact I.len, I.slen, fun j u e => ?_, fun j z => ?_, fun j => ?_, fun j k a hjk h1 h2 => ?_, fun j a ha => ?_, I.frz, I.pin⟩
  · by_cases hj : j = i
    · subst hj
      by_cases hl : j < g.length
      · rw [List.getElem?_set_self hl] at e; cases e
      · rw [List.getElem?_eq_none (by simpa using hl)] at e; cases e
    · rw [List.getElem?_set_ne (Ne.symm hj)] at e
      rw [if_neg hj]
      exact I.slot j u e
  · by_cases hj : j = i
    · rw [if_pos hj]
    · rw [if_neg hj]
      exact I.emp j fun w e => z w (by rw [List.getElem?_set_ne (Ne.symm hj)]; exact e)
  · show (if j = i then [] else own j).Nodup
    split
    · exact List.nodup_nil
    · exact I.nodup j
  · have h1 : a ∈ (if j = i then [] else own j) := h1
    have h2 : a ∈ (if k = i then [] else own k) := h2
    split at h1
    · cases h1
    · split at h2
      · cases h2
      · exact I.disj j k a hjk h1 h2
  · have ha : a ∈ (if j = i then [] else own j) := ha
    split at ha
    · cases ha
    · exact I.sep j a ha
def killG (ks : List Nat) (g : Env) : Env := ks.foldl (fun g i => g.set i none) g
theorem G.kill {c : Cn} {n : Nat} {pz : List (Nat × V)} {F : Fz} : ∀ {ks : List Nat} {g : Env} {own : Ow}, G c n pz F H σ g own → ∃ own', G c n pz F H σ (killG ks g) own' ∧ ∀ i a, a ∈ own' i → a ∈ own i
  | [], g, own, I => ⟨own, I, fun _ _ h => h⟩
  | k :: ks, g, own, I => by
    obtain ⟨own', I', h⟩ := G.kill (ks := ks) (I.wipe k)
    refine ⟨own', I', fun i a ha => ?_⟩
    have := h i a ha
    have : a ∈ (if i = k then [] else own i) := this
    split at this
    · cases this
    · exact this
theorem Step.less {F : Fz} {own own' : Ow} (h : ∀ i a, a ∈ own' i → a ∈ own i) : Step F H own F H own' := ⟨fun _ h => h, fun _ _ h _ => h, fun _ h => .inl h, fun i a ha => .inl ⟨i, h i a ha⟩, fun _ o h => ⟨o, h⟩⟩
/-- forget slots -/
def sKill (ks : List Nat) (f : Sx) : Sx := fun g => match f g with
  | .nx g' => .nx (killG ks g')
  | r => r
theorem s_kill {ks : List Nat} (h : SS X P st f) : SS X P st (sKill ks f) := by
  refine ⟨ps_imp h.ps fun D σ H ⟨F, g, own, I, q⟩ => ⟨F, g, own, I, ?_⟩⟩
  unfold sKill at q
  cases e : f g with
  | nx g' =>
    rw [e] at q
    intro F' H' own' σ' s I'
    obtain ⟨own2, I2, hl⟩ := I'.kill (ks := ks)
    exact q F' H' own2 σ' (s.trans (.less hl)) I2
  | brk g' => rw [e] at q; exact q
  | ct g' => rw [e] at q; exact q
  | ret v g' => rw [e] at q; exact q
  | exc x g' => rw [e] at q; exact q
  | bad => rw [e] at q; exact q
/-- a temporary goes into a slot -/
theorem mid_store {t : Tmp} {i : Nat} {F0 : Fz} {H0 : Hp} {own0 : Ow} {F1 : Fz} {g1 : Env} {own1 : Ow} (m : MidAt X P σ (t :: ts) H F0 H0 own0 F1 g1 own1) (hi : i < X.N.length) (hp : i ∉ P.pz.map (·.1)) :
    ∃ own2, MidAt X P (σ.set i (some t.x)) ts H F0 H0 own0 F1 (g1.set i (some t.v)) own2 := by
  have h0 : t ∈ t :: ts := List.mem_cons_self
  have nd := m.nd
  rw [List.flatMap_cons, List.nodup_append] at nd
  refine ⟨_, m.g.set hi hp (m.own t h0) nd.1 fun a ha => let ⟨h1, h2, h3, _⟩ := m.sep t h0 a ha; ⟨h1, h2, h3⟩, ⟨m.st.fr, m.st.keep, m.st.new, fun j a ha => ?_, m.st.tr⟩, fun u hu => m.own u (List.mem_cons_of_mem _ hu), nd.2.1, fun u hu a ha => ?_⟩
  · have ha : a ∈ (if j = i then t.L else own1 j) := ha
    split at ha
    · exact (m.sep t h0 a ha).2.2.2
    · exact m.st.own j a ha
  · obtain ⟨h1, h2, h3, h4⟩ := m.sep u (List.mem_cons_of_mem _ hu) a ha
    refine ⟨h1, fun j hj => ?_, h3, h4⟩
    have hj : a ∈ (if j = i then t.L else own1 j) := hj
    split at hj
    · exact nd.2.2 a hj a (List.mem_flatMap.mpr ⟨u, hu, ha⟩) rfl
    · exact h2 j hj
def keepV (k : Bool) (v : Val) : Val := if k then v else ⟨v.d, 0⟩
def sSet (i : Nat) (k : Bool) (fe : Ex) : Sx := fun g => bindE (fe g) fun v g1 => .nx (g1.set i (some (keepV k v)))
theorem mid_keep {t : Tmp} {B : Bk} {k : Bool} (h : Mid X P σ (t :: ts) B H) : ∃ L, Mid X P σ (⟨t.x, keepV k t.v, L⟩ :: ts) B H := by
  cases k with
  | true => exact ⟨t.L, h⟩
  | false => exact ⟨[], mid_freeze h⟩
theorem core_set {i : Nat} {k : Bool} (hi : i < X.N.length) (hp : i ∉ P.pz.map (·.1)) (q : tS X P (sSet i k fe) D σ H) : tE X P fe σ H fun x H1 => D.nx (σ.set i (some x)) H1 :=
  tE_mono (mid_ofS q) fun x H1 ⟨v, L, m⟩ => by
    obtain ⟨L', F0, H0, own0, F1, g1, own1, m, q⟩ := mid_keep (k := k) m
    obtain ⟨own2, m2⟩ := mid_store m hi hp
    exact q F1 H1 own2 _ m2.st m2.g
theorem s_set {i : Nat} {k : Bool} {x : Str} {pos' : Pos} (hN : X.N.Nodup) (hi : X.N[i]? = some x) (hx : Loc X.env.scope x) (he : SE X P e fe) (hp : i ∉ P.pz.map (·.1)) (hs : swapsWith e (some (.Name x pos')) pos.line X.env = pure false := by rfl)
    (hf : X.fn x = true ∨ X.env.scope.names.lookup x = some .local := by first | exact .inl rfl | exact .inr rfl | assumption) : SS X P (.Assign [.Name x pos'] e pos) (sSet i k fe) :=
  ⟨ps_imp (ps_set hN hi hx he.pe hs hf) fun D σ H q => core_set (List.getElem?_eq_some_iff.mp hi).1 hp q⟩

/-! ### targets -/
inductive Tg where
  | n (i : Nat) | t (ts : List Tg)
mutual
def Tg.asg : Tg → PL.D → Env → Option Env
  | .n i, d, g => some (g.set i (some ⟨d, 0⟩))
  | .t ts, .tup ds, g => Tg.asgs ts ds g
  | .t _, _, _ => none
def Tg.asgs : List Tg → List PL.D → Env → Option Env
  | [], [], g => some g
  | a :: as, d :: ds, g => match a.asg d g with
    | some g' => Tg.asgs as ds g'
    | none => none
  | _, _, _ => none
end
mutual
/-- the slots that a target stores -/
def Tg.sl : Tg → List Nat
  | .n i => [i]
  | .t ts => Tg.sls ts
def Tg.sls : List Tg → List Nat
  | [] => []
  | a :: as => a.sl ++ Tg.sls as
end
mutual
def Tg.ok (n : Nat) (pz : List (Nat × V)) : Tg → Prop
  | .n i => i < n ∧ i ∉ pz.map (·.1)
  | .t ts => Tg.oks n pz ts
def Tg.oks (n : Nat) (pz : List (Nat × V)) : List Tg → Prop
  | [] => True
  | a :: as => a.ok n pz ∧ Tg.oks n pz as
end
/-- a target's reading: of a value that is frozen data -/
def tG (X : Cx) (P : Par) (t : Tg) : TG := fun v σ H Q => ∃ F g own d g', GX X P F H σ g own ∧ Rp (cn X P) H F v d ∧ t.asg d g = some g' ∧ ∀ σ' own', (∀ j, j ∉ t.sl → σ'[j]? = σ[j]?) → Step F H own F H own' → GX X P F H σ' g' own' → Q σ' H
def tGs (X : Cx) (P : Par) (t : List Tg) : TGs := fun vs σ H Q => ∃ F g own ds g', GX X P F H σ g own ∧ RpA (cn X P) H F vs ds ∧ Tg.asgs t ds g = some g' ∧ ∀ σ' own', (∀ j, j ∉ Tg.sls t → σ'[j]? = σ[j]?) → Step F H own F H own' → GX X P F H σ' g' own' → Q σ' H
structure SG (X : Cx) (P : Par) (e : Expr) (t : Tg) : Prop where
  pg : PG X e (tG X P t)
structure SGs (X : Cx) (P : Par) (es : List Expr) (t : List Tg) : Prop where
  pg : PGs X es (tGs X P t)
theorem pg_imp {e : Expr} {t t' : TG} (h : PG X e t) (i : ∀ v σ H Q, t' v σ H Q → t v σ H Q) : PG X e t' := ⟨fun pins s σ H v u Q I r q => h.run pins s σ H v u Q I r (i v σ H Q q)⟩
theorem pgs_imp {e : List Expr} {t t' : TGs} (h : PGs X e t) (i : ∀ v σ H Q, t' v σ H Q → t v σ H Q) : PGs X e t' := ⟨fun pins s σ H v u Q I r q => h.run pins s σ H v u Q I r (i v σ H Q q)⟩
theorem sg_name {i : Nat} {x : Str} (hN : X.N.Nodup) (hi : X.N[i]? = some x) (hx : Loc X.env.scope x) (hp : i ∉ P.pz.map (·.1)) (hf : X.fn x = true ∨ X.env.scope.names.lookup x = some .local := by first | exact .inl rfl | exact .inr rfl | assumption) : SG X P (.Name x pos) (.n i) := by
  refine ⟨pg_imp (pg_name hN hi hx hf) fun v σ H Q ⟨F, g, own, d, g', I, r, e, q⟩ => ?_⟩
  cases e
  refine q _ _ (fun j hj => List.getElem?_set_ne fun e => hj (by rw [e]; exact List.mem_singleton.mpr rfl)) ?_ (I.set (v := ⟨d, 0⟩) (L := []) (List.getElem?_eq_some_iff.mp hi).1 hp (.of r) List.nodup_nil fun _ h => nomatch h)
  refine .less fun j a ha => ?_
  have ha : a ∈ (if j = i then [] else own j) := ha
  split at ha
  · cases ha
  · exact ha
theorem sgs_nil : SGs X P [] [] := by
  refine ⟨pgs_imp pgs_nil fun vs σ H Q ⟨F, g, own, ds, g', I, r, e, q⟩ => ?_⟩
  cases ds with
  | nil =>
    cases e
    cases r
    exact ⟨rfl, q σ own (fun _ _ => rfl) .refl I⟩
  | cons _ _ => cases e
theorem sgs_cons {es : List Expr} {t : Tg} {ts : List Tg} (h1 : SG X P e t) (h2 : SGs X P es ts) (hs : (assignEach (e :: es) X.env).map (·.2) = assign e X.env :: (assignEach es X.env).map (·.2) := by rfl) : SGs X P (e :: es) (t :: ts) := by
  refine ⟨pgs_imp (pgs_cons h1.pg h2.pg hs) fun vs σ H Q ⟨F, g, own, ds, g', I, r, e, q⟩ => ?_⟩
  cases r with
  | nil => cases e
  | @cons v vs d ds r rs =>
    unfold Tg.asgs at e
    cases e1 : t.asg d g with
    | none => rw [e1] at e; cases e
    | some g1 =>
      rw [e1] at e
      refine ⟨v, vs, rfl, F, g, own, d, g1, I, r, e1, fun σ' own' z s I' => ?_⟩
      exact ⟨F, g1, own', ds, g', I', rs, e, fun σ2 own2 z2 s2 I2 => q σ2 own2 (fun j hj => by
        have hj : j ∉ t.sl ++ Tg.sls ts := hj
        rw [z2 j fun h => hj (List.mem_append_right _ h), z j fun h => hj (List.mem_append_left _ h)]) (s.trans s2) I2⟩
theorem sg_tup {es : List Expr} {k : Nat} {ts : List Tg} (hc : X.calm = true) (h : SGs X P es ts) (hl : (assignEach es X.env).length = ts.length := by rfl) (hst : (assignEach es X.env).findIdx? (·.1) = none := by rfl) : SG X P (.Tuple es k pos) (.t ts) := by
  refine ⟨pg_imp (pg_tup hc h.pg hl hst) fun v σ H Q ⟨F, g, own, d, g', I, r, e, q⟩ => ?_⟩
  cases d with
  | tup ds =>
    cases r with
    | @tup a vs _ hq rs =>
      have e : Tg.asgs ts ds g = some g' := e
      have hlen : ∀ (ts : List Tg) (ds : List PL.D) (g g' : Env), Tg.asgs ts ds g = some g' → ds.length = ts.length := by
        intro ts
        induction ts with
        | nil =>
          intro ds g g' e
          cases ds with
          | nil => rfl
          | cons _ _ => cases e
        | cons t ts ih =>
          intro ds g g' e
          cases ds with
          | nil => cases e
          | cons d ds =>
            unfold Tg.asgs at e
            cases e1 : t.asg d g with
            | none => rw [e1] at e; cases e
            | some g1 => rw [e1] at e; simp [ih ds g1 g' e]
      exact ⟨a, vs, rfl, hq, by rw [rs.length, hlen _ _ _ _ e], F, g, own, ds, g', I, rs, e, q⟩
  | _ => cases e
def sAsg (t : Tg) (fe : Ex) : Sx := fun g => bindE (fe g) fun v g1 => match t.asg v.d g1 with
  | some g2 => .nx g2
  | none => .bad
theorem s_asg {tg : Expr} {t : Tg} (he : SE X P e fe) (hg : SG X P tg t) (hs : swapsWithSole [tg] e pos.line X.env = pure false := by rfl) (hw : swappedStores [tg] e X.env = pure none := by rfl)
    (h1 : (assignEach [tg] X.env).map (·.2) = [assign tg X.env] := by rfl) : SS X P (.Assign [tg] e pos) (sAsg t fe) := by
  refine ⟨ps_imp (ps_asg he.pe hg.pg hs hw h1) fun D σ H q => tE_mono (mid_ofS q) fun x H1 ⟨v, L, m⟩ => ?_⟩
  obtain ⟨F0, H0, own0, F1, g1, own1, m, q⟩ := mid_freeze m
  have r := (m.own _ List.mem_cons_self).zero.1
  cases e : t.asg v.d g1 with
  | none => rw [e] at q; exact False.elim q
  | some g2 =>
    rw [e] at q
    exact ⟨F1, g1, own1, v.d, g2, m.g, r, e, fun σ' own' _ s I' => q F1 H1 own' σ' (m.st.trans s) I'⟩
end
end PL

/-! PL6: what a loop walks, for, while, comprehensions. -/
namespace PL
open PySem PySem.Spec L2

def ItOk (c : Cn) (J : It) (F1 : Fz) (H1 : Hp) (ds : List PL.D) : Prop := ∀ F H, Keep (c := c) F1 F H1 H → Trk F H → ∀ i, (i < ds.length → J.go i H) ∧ (i = ds.length → J.stop i H) ∧ ∀ x H', i < ds.length → J.yld i H x H' → ∃ d, ds[i]? = some d ∧ Grow H H' ∧ Rp c H' F x d
inductive IOut where
  | ok (ds : List PL.D) (g : Env) | exc (x : Exc) (g : Env) | bad
abbrev Src := Env → IOut
def PostI (X : Cx) (P : Par) (F0 : Fz) (H0 : Hp) (own0 : Ow) (σ : St) (R : It → Hp → Prop) : IOut → Prop
  | .ok ds g => ∀ F' H' own' J, Step F0 H0 own0 F' H' own' → GX X P F' H' σ g own' → ItOk (cn X P) J F' H' ds → ds.length ≤ sizeLine → R J H'
  | .exc e g => PostX X P F0 H0 own0 σ e g
  | .bad => False
def tI (X : Cx) (P : Par) (f : Src) : TI := fun σ H R => ∃ F g own, GX X P F H σ g own ∧ PostI X P F H own σ R (f g)
structure SI (X : Cx) (P : Par) (tg iter : Expr) (f : Src) : Prop where
  pi : PI X tg iter (tI X P f)
theorem pi_imp {X : Cx} {tg iter : Expr} {t t' : TI} (h : PI X tg iter t) (i : ∀ σ H R, t' σ H R → t σ H R) : PI X tg iter t' := ⟨fun pins s σ H R I q => h.run pins s σ H R I (i σ H R q)⟩
section
variable {c : Cn} {F F' F'' : Fz} {H H' H'' : Hp}
theorem Keep.trans (a : Keep (c := c) F F' H H') (b : Keep (c := c) F' F'' H' H'') : Keep (c := c) F F'' H H'' := ⟨fun x h => b.fr x (a.fr x h), fun x vs h => b.tup x vs (a.tup x vs h), fun x o f h => b.frz x o (a.fr x f) (a.frz x o f h)⟩
theorem Keep.refl : Keep (c := c) F F H H := .more fun _ h => h
end
/-- the items of a thing that is walked -/
def itemsD : PL.D → Option (List PL.D)
  | .lst ds => some ds
  | .tup ds => some ds
  | _ => none
def iOf (o : Out) (k : Val → Env → IOut) : IOut := match o with
  | .ok v g => k v g
  | .exc e g => .exc e g
  | .bad => .bad
def iV (fe : Ex) : Src := fun g => iOf (fe g) fun v g1 => match itemsD v.d with
  | some ds => .ok ds g1
  | none => .bad
section
variable {X : Cx} {P : Par} {σ : St} {H : Hp} {ts : List Tmp} {tg e : Expr} {fe fa fb : Ex}
theorem mid_ofI {k : Val → Env → IOut} {R : It → Hp → Prop} (q : tI X P (fun g => iOf (fe g) k) σ H R) :
    tE X P fe σ H fun x H1 => ∃ v L, Mid X P σ [⟨x, v, L⟩] (fun F0 H0 own0 g => PostI X P F0 H0 own0 σ R (k v g)) H1 := by
  obtain ⟨F, g, own, I, q⟩ := q
  refine mid_eval (k := fun F0 H0 own0 v g => PostI X P F0 H0 own0 σ R (k v g)) (mid_start I ?_)
  have q : PostI X P F H own σ R (iOf (fe g) k) := q
  cases e : fe g with
  | ok v g1 => rw [e] at q; exact q
  | exc x g1 => rw [e] at q; exact q
  | bad => rw [e] at q; exact q
/-- a list or a tuple: what stands there is walked -/
theorem pi_seq {tl : TE} (hl : PE X e tl) : PI X tg e (fun σ H R => tl σ H fun x H1 => ∃ a, x = .ref a ∧ ((∃ xs, SqL X.K H1 a xs ∧ (xs.length ≤ sizeLine → R (Itl X.K a) H1)) ∨ ∃ xs, SqT X.K H1 a xs ∧ (xs.length ≤ sizeLine → R (Itt X.K a) H1))) := by
  refine ⟨fun pins s σ H R I h => ?_⟩
  refine thn (hl.run pins s σ H _ I h) fun v s1 ⟨x, H1, I1, r1, q1⟩ => ?_
  obtain ⟨a, e, q1⟩ := q1
  subst e
  cases r1
  rcases q1 with ⟨xs, hq, q⟩ | ⟨xs, hq, q⟩
  · obtain ⟨its, rv, p, hz⟩ := I1.list hq
    refine wpAny_pyIter_list p.isList ?_
    refine ⟨s1.heap.objs.size, [s1.heap.objs.size], _, _, H1, rfl, I1.kept (t' := s1.toks) fun b o e => Heap.get?_push_of_some _ e, turn_list a _, ⟨_, Heap.get?_push_size _ rfl, rfl, rfl⟩, fun b hb => ?_, q hz⟩
    have e : b = s1.heap.objs.size := by simpa using hb
    subst e
    exact I1.fpOk (Nat.le_refl _) (I1.hok.fresh (Nat.le_refl _))
  · obtain ⟨its, rv, p, hz⟩ := I1.tuple hq
    refine wpAny_pyIter_tuple (show s1.heap.IsTuple a its.toArray from p) ?_
    refine ⟨s1.heap.objs.size, [s1.heap.objs.size], _, _, H1, rfl, I1.kept (t' := s1.toks) fun b o e => Heap.get?_push_of_some _ e, turn_tuple a _, ⟨_, Heap.get?_push_size _ rfl, rfl, rfl⟩, fun b hb => ?_, q hz⟩
    have e : b = s1.heap.objs.size := by simpa using hb
    subst e
    exact I1.fpOk (Nat.le_refl _) (I1.hok.fresh (Nat.le_refl _))
theorem it_list {c : Cn} {F : Fz} {a : Addr} {vs : List V} {ds : List PL.D} (f : F a) (h : Rd H a (.lst vs)) (r : RpA c H F vs ds) : ItOk c (Itl c.K a) F H ds := by
  intro F' H' k _ i
  have h' : SqL c.K H' a vs := .inl (rd_keep k f h)
  have r' := r.keep k
  have l := r'.length
  refine ⟨fun hi => ?_, fun hi => ⟨vs, h', by omega⟩, fun x H2 hi y => ?_⟩
  · obtain ⟨v, e, _⟩ := r'.get' (List.getElem?_eq_getElem hi)
    exact ⟨vs, v, h', e⟩
  · obtain ⟨e, y⟩ := y
    subst e
    obtain ⟨d, e, q⟩ := r'.get (y vs h')
    exact ⟨d, e, .refl, q⟩
theorem it_tup {c : Cn} {F : Fz} {a : Addr} {vs : List V} {ds : List PL.D} (h : SqT c.K H a vs) (r : RpA c H F vs ds) : ItOk c (Itt c.K a) F H ds := by
  intro F' H' k _ i
  have h' : SqT c.K H' a vs := k.tup _ _ h
  have r' := r.keep k
  have l := r'.length
  refine ⟨fun hi => ?_, fun hi => ⟨vs, h', by omega⟩, fun x H2 hi y => ?_⟩
  · obtain ⟨v, e, _⟩ := r'.get' (List.getElem?_eq_getElem hi)
    exact ⟨vs, v, h', e⟩
  · obtain ⟨e, y⟩ := y
    subst e
    obtain ⟨d, e, q⟩ := r'.get (y vs h')
    exact ⟨d, e, .refl, q⟩
theorem si_v (he : SE X P e fe) : SI X P tg e (iV fe) := by
  refine ⟨pi_imp (pi_seq he.pe) fun σ H R q => tE_mono (mid_ofI q) fun x H1 ⟨v, L, m⟩ => ?_⟩
  obtain ⟨F0, H0, own0, F1, g1, own1, m, q⟩ := mid_freeze m
  have r := (m.own _ List.mem_cons_self).zero.1
  obtain ⟨vd, vn⟩ := v
  cases r with
  | @lst a vs ds f h r =>
    refine ⟨a, rfl, .inl ⟨vs, .inl h, fun hz => ?_⟩⟩
    exact q F1 H1 own1 _ m.st m.g (it_list f h r) (by rw [← r.length]; exact hz)
  | @tup a vs ds h r =>
    refine ⟨a, rfl, .inr ⟨vs, h, fun hz => ?_⟩⟩
    exact q F1 H1 own1 _ m.st m.g (it_tup h r) (by rw [← r.length]; exact hz)
  | _ => exact False.elim q
/-! ### ranges -/
def rngD (lo : Int) (n : Nat) : List PL.D := (List.range n).map fun (i : Nat) => PL.D.int (lo + (i : Int))
theorem it_rng {c : Cn} {F : Fz} {lo : Int} {n : Nat} : ItOk c (Itr lo n) F H (rngD lo n) := by
  intro F' H' k _ i
  have l : (rngD lo n).length = n := by unfold rngD; simp
  rw [l]
  refine ⟨fun h => h, fun h => Nat.le_of_eq h.symm, fun x H2 hi ⟨e, y⟩ => ?_⟩
  subst e y
  exact ⟨_, by unfold rngD; simp [hi], .refl, .int _⟩
def big : Nat := 16777216
def iR1 (fe : Ex) : Src := fun g => iOf (fe g) fun v g1 => match v.d with
  | .int n => if -big ≤ n ∧ n ≤ big then .ok (rngD 0 n.toNat) g1 else .bad
  | _ => .bad
def iR2 (fa fb : Ex) : Src := fun g => iOf (fa g) fun v g1 => match v.d with
  | .int i => iOf (fb g1) fun w g2 => match w.d with
    | .int j => if -big ≤ i ∧ i ≤ big ∧ -big ≤ j ∧ j ≤ big ∧ j - i ≤ big then .ok (rngD i (j - i).toNat) g2 else .bad
    | _ => .bad
  | _ => .bad
theorem big_line : big = sizeLine := by rw [sizeLine_eq]; rfl
theorem rngD_len {lo : Int} {n : Nat} : (rngD lo n).length = n := by unfold rngD; simp
variable {p pos : Pos} {a b : Expr}
theorem si_r1 (ha : SE X P a fa) (hg : Gl X "range") (hm : X.mg "range" = none) (hs : starEach [a] X.env = [(false, eval a X.env)] := by rfl) (hs2 : starEach (a :: []) X.env = (false, eval a X.env) :: starEach [] X.env := by rfl) : SI X P tg (.Call (.Name "range" p) [a] [] pos) (iR1 fa) := by
  refine ⟨pi_imp (pi_range1 hg hm (pa_cons ha.pe pa_nil hs2) hs) fun σ H R q => tE_mono (mid_ofI q) fun x H1 ⟨v, L, F0, H0, own0, F1, g1, own1, m, q⟩ => ?_⟩
  have o := m.own _ List.mem_cons_self
  obtain ⟨vd, vn⟩ := v
  simp only at q o
  split at q
  · rename_i n
    split at q
    · rename_i hn
      have e : x = .int n := by cases o with | frz _ r => cases r; rfl
      subst e
      refine ⟨n, rfl, ?_⟩
      have hb : (big : Int) = 16777216 := rfl
      refine ⟨by omega, by omega, q F1 H1 own1 _ m.st m.g it_rng ?_⟩
      rw [rngD_len, ← big_line]
      omega
    · exact False.elim q
  · exact False.elim q
theorem si_r2 (ha : SE X P a fa) (hb : SE X P b fb) (hg : Gl X "range") (hm : X.mg "range" = none) (hs : starEach [a, b] X.env = [(false, eval a X.env), (false, eval b X.env)] := by rfl) (hs2 : starEach [b] X.env = [(false, eval b X.env)] := by rfl)
    (hs3 : starEach (a :: [b]) X.env = (false, eval a X.env) :: starEach [b] X.env := by rfl) (hs4 : starEach (b :: []) X.env = (false, eval b X.env) :: starEach [] X.env := by rfl) : SI X P tg (.Call (.Name "range" p) [a, b] [] pos) (iR2 fa fb) := by
  refine ⟨pi_imp (pi_range2 hg hm (pa_cons ha.pe (pa_cons hb.pe pa_nil hs4) hs3) hs hs2) fun σ H R q => tE_mono (mid_ofI q) fun x H1 ⟨v, L, F0, H0, own0, F1, g1, own1, m, q⟩ => ?_⟩
  have o := m.own _ List.mem_cons_self
  obtain ⟨vd, vn⟩ := v
  simp only at q o
  split at q
  · rename_i i
    have e : x = .int i := by cases o with | frz _ r => cases r; rfl
    subst e
    have mm : Mid X P σ [⟨.int i, ⟨.int i, vn⟩, L⟩] (fun F0 H0 own0 g => PostK X P F0 H0 own0 σ (fun w g2 => PostI X P F0 H0 own0 σ R (match w.d with
      | .int j => if -big ≤ i ∧ i ≤ big ∧ -big ≤ j ∧ j ≤ big ∧ j - i ≤ big then .ok (rngD i (j - i).toNat) g2 else .bad
      | _ => .bad)) (fb g)) H1 := by
      refine ⟨F0, H0, own0, F1, g1, own1, m, ?_⟩
      simp only
      cases e : fb g1 with
      | ok w g2 => rw [e] at q; exact q
      | exc w g2 => rw [e] at q; exact q
      | bad => rw [e] at q; exact q
    refine tE_mono (mid_eval (k := fun F0 H0 own0 w g2 => PostI X P F0 H0 own0 σ R (match w.d with
      | .int j => if -big ≤ i ∧ i ≤ big ∧ -big ≤ j ∧ j ≤ big ∧ j - i ≤ big then .ok (rngD i (j - i).toNat) g2 else .bad
      | _ => .bad)) mm) fun y H2 ⟨w, L2, F0, H0, own0, F1, g1, own1, m, q⟩ => ?_
    have o := m.own _ List.mem_cons_self
    obtain ⟨wd, wn⟩ := w
    simp only at q o
    split at q
    · rename_i j
      split at q
      · rename_i hn
        have e : y = .int j := by cases o with | frz _ r => cases r; rfl
        subst e
        have hb : (big : Int) = 16777216 := rfl
        refine ⟨i, j, rfl, ⟨by omega, by omega, by omega, by omega⟩, q F1 H2 own1 _ m.st m.g it_rng ?_⟩
        rw [rngD_len, ← big_line]
        omega
      · exact False.elim q
    · exact False.elim q
  · exact False.elim q

/-! ### for -/
def forL (t : Tg) (b : Sx) (ks : List Nat) : List PL.D → Sx
  | [], g => .nx g
  | d :: ds, g => match t.asg d g with
    | none => .bad
    | some g1 => match b g1 with
      | .nx g2 => forL t b ks ds (killG ks g2)
      | .ct g2 => forL t b ks ds (killG ks g2)
      | .brk g2 => .nx (killG ks g2)
      | r => r
def sFor (s : Src) (t : Tg) (b : Sx) (ks : List Nat) : Sx := fun g => match s g with
  | .ok ds g1 => forL t b ks ds (killG ks g1)
  | .exc e g1 => .exc e g1
  | .bad => .bad
variable {D : Ends} {iter : Expr} {body : List Stmt} {s : Src} {t : Tg} {fb : Sx} {ks : List Nat}
theorem kill_step {F : Fz} {H : Hp} {g : Env} {own : Ow} {σ : St} (I : GX X P F H σ g own) : ∃ own', GX X P F H σ (killG ks g) own' ∧ Step F H own F H own' :=
  let ⟨own', I', h⟩ := I.kill (ks := ks)
  ⟨own', I', .less h⟩
theorem core_for {σ : St} {H : Hp} (q : tS X P (sFor s t fb ks) D σ H) : tFor (tI X P s) (tG X P t) (tS X P fb) D σ H := by
  obtain ⟨F, g, own, I, q⟩ := q
  refine ⟨F, g, own, I, ?_⟩
  have q : PostS X P F H own D (match s g with
    | .ok ds g1 => forL t fb ks ds (killG ks g1)
    | .exc e g1 => .exc e g1
    | .bad => .bad) := q
  cases e : s g with
  | bad => rw [e] at q; exact q
  | exc x g1 => rw [e] at q; exact fun F' H' own' cls d s I' r => q F' H' own' σ cls d s I' r
  | ok ds g1 =>
    rw [e] at q
    intro F' H' own' J st I' it hz
    obtain ⟨own2, I2, st2⟩ := kill_step (ks := ks) I'
    refine ⟨fun i m σ H1 => m = ds.length - i ∧ i ≤ ds.length ∧ ∃ F1 g1 own1, GX X P F1 H1 σ g1 own1 ∧ Keep (c := cn X P) F' F1 H' H1 ∧ PostS X P F1 H1 own1 D (forL t fb ks (ds.drop i) g1), ⟨_, rfl, Nat.zero_le _, F', _, own2, I2, .refl, postS_step (st.trans st2) q⟩, ?_⟩
    rintro i m σ1 H1 ⟨rfl, hi, F1, g2, own1, I1, kp, q1⟩
    obtain ⟨j1, j2, j3⟩ := it F1 H1 kp I1.frz i
    by_cases hlt : i < ds.length
    · refine .inr ⟨j1 hlt, fun σ' H2 => ∃ F2 g3 own2, GX X P F2 H2 σ' g3 own2 ∧ Keep (c := cn X P) F' F2 H' H2 ∧ PostS X P F2 H2 own2 D (forL t fb ks (ds.drop (i + 1)) g3), fun σ' H2 h => ⟨_, by omega, rfl, hlt, h⟩, fun x H2 y => ?_⟩
      obtain ⟨d, ed, gr, rp⟩ := j3 x H2 hlt y
      have hd : ds.drop i = d :: ds.drop (i + 1) := by
        rw [List.drop_eq_getElem_cons hlt]
        rw [List.getElem?_eq_getElem hlt] at ed
        cases ed; rfl
      rw [hd] at q1
      unfold forL at q1
      cases ea : t.asg d g2 with
      | none => rw [ea] at q1; exact False.elim q1
      | some g3 =>
        rw [ea] at q1
        refine ⟨F1, g2, own1, d, g3, I1.grow gr, rp, ea, fun σ2 own3 _ s3 I3 => ⟨F1, g3, own3, I3, ?_⟩⟩
        have s03 : Step F1 H1 own1 F1 H2 own3 := gr.step.trans s3
        have q1 := postS_step s03 q1
        have go : ∀ {g4 : Env} {F4 : Fz} {H4 : Hp} {own4 : Ow} {σ4 : St}, Step F1 H2 own3 F4 H4 own4 → GX X P F4 H4 σ4 g4 own4 → PostS X P F1 H2 own3 D (forL t fb ks (ds.drop (i + 1)) (killG ks g4)) →
            ∃ F2 g3 own2, GX X P F2 H4 σ4 g3 own2 ∧ Keep (c := cn X P) F' F2 H' H4 ∧ PostS X P F2 H4 own2 D (forL t fb ks (ds.drop (i + 1)) g3) := fun {g4 F4 H4 own4 σ4} s4 I4 q4 => by
          obtain ⟨own5, I5, s5⟩ := kill_step (ks := ks) I4
          exact ⟨F4, _, own5, I5, kp.trans (gr.keep.trans (s4.keeps I3)), postS_step (s4.trans s5) q4⟩
        simp only at q1
        cases eb : fb g3 with
        | nx g4 => rw [eb] at q1; exact fun F4 H4 own4 σ4 s4 I4 => go s4 I4 q1
        | ct g4 => rw [eb] at q1; exact fun F4 H4 own4 σ4 s4 I4 => go s4 I4 q1
        | brk g4 =>
          rw [eb] at q1
          intro F4 H4 own4 σ4 s4 I4
          obtain ⟨own5, I5, s5⟩ := kill_step (ks := ks) I4
          exact q1 F4 H4 own5 σ4 (s4.trans s5) I5
        | ret v g4 => rw [eb] at q1; exact q1
        | exc x g4 => rw [eb] at q1; exact q1
        | bad => rw [eb] at q1; exact q1
    · have e : i = ds.length := by omega
      subst e
      rw [List.drop_length] at q1
      exact .inl ⟨j2 rfl, q1 F1 H1 own1 σ1 .refl I1⟩
theorem s_for (hp : PassesOwn (model X.prog X.w) X.A X.env X.xe) (hc : X.calm = true) (hi : SI X P tg iter s) (hg : SG X P tg t) (hb : SB X P body fb) (hs : ∀ x, foldedSetIterable iter X.env x = pure x := by intro _; rfl) : SS X P (.For tg iter body [] pos) (sFor s t fb ks) :=
  ⟨ps_imp (ps_for hp hc hi.pi hg.pg hb.ps hs) fun _ _ _ q => core_for q⟩

/-! ### while -/
def whileN (c : Ex) (b : Sx) (ks : List Nat) : Nat → Sx
  | 0, _ => .bad
  | n + 1, g => bindE (c g) fun v g1 => match v.d with
    | .bl true => match b g1 with
      | .nx g2 => whileN c b ks n (killG ks g2)
      | .ct g2 => whileN c b ks n (killG ks g2)
      | .brk g2 => .nx (killG ks g2)
      | r => r
    | .bl false => .nx g1
    | _ => .bad
def WF : Nat := 1000000000
def sWhile (c : Ex) (b : Sx) (ks : List Nat) : Sx := fun g => whileN c b ks WF (killG ks g)
variable {fc : Ex} {ec : Expr}
theorem core_while {σ : St} {H : Hp} (q : tS X P (sWhile fc fb ks) D σ H) : tWhile (tB (tE X P fc)) (tS X P fb) D σ H := by
  obtain ⟨F, g, own, I, q⟩ := q
  obtain ⟨own2, I2, st2⟩ := kill_step (ks := ks) I
  refine ⟨fun m σ H1 => ∃ F1 g1 own1, GX X P F1 H1 σ g1 own1 ∧ PostS X P F1 H1 own1 D (whileN fc fb ks m g1), ⟨WF, F, _, own2, I2, postS_step st2 q⟩, ?_⟩
  rintro m σ1 H1 ⟨F1, g1, own1, I1, q1⟩
  cases m with
  | zero => exact False.elim q1
  | succ m =>
    have q1 : tS X P (fun g => bindE (fc g) fun v g1 => match v.d with
      | .bl true => match fb g1 with
        | .nx g2 => whileN fc fb ks m (killG ks g2)
        | .ct g2 => whileN fc fb ks m (killG ks g2)
        | .brk g2 => .nx (killG ks g2)
        | r => r
      | .bl false => .nx g1
      | _ => .bad) D σ1 H1 := ⟨F1, g1, own1, I1, q1⟩
    refine tE_mono (mid_ofS q1) fun x H2 ⟨v, L, F0, H0, own0, F2, g2, own2, m2, q2⟩ => ?_
    have o := m2.own _ List.mem_cons_self
    obtain ⟨vd, vn⟩ := v
    simp only at q2 o
    split at q2
    · refine ⟨true, by (cases o with | frz _ r => cases r; rfl), ittt ⟨fun σ' H' => ∃ F1 g1 own1, GX X P F1 H' σ' g1 own1 ∧ PostS X P F1 H' own1 D (whileN fc fb ks m g1), fun σ' H' h => ⟨m, Nat.lt_succ_self _, h⟩, F2, g2, own2, m2.g, ?_⟩⟩
      have q2 := postS_step m2.st q2
      have go : ∀ {g4 : Env} {F4 : Fz} {H4 : Hp} {own4 : Ow} {σ4 : St}, Step F2 H2 own2 F4 H4 own4 → GX X P F4 H4 σ4 g4 own4 → PostS X P F2 H2 own2 D (whileN fc fb ks m (killG ks g4)) →
          ∃ F1 g1 own1, GX X P F1 H4 σ4 g1 own1 ∧ PostS X P F1 H4 own1 D (whileN fc fb ks m g1) := fun {g4 F4 H4 own4 σ4} s4 I4 q4 => by
        obtain ⟨own5, I5, s5⟩ := kill_step (ks := ks) I4
        exact ⟨F4, _, own5, I5, postS_step (s4.trans s5) q4⟩
      cases eb : fb g2 with
      | nx g4 => rw [eb] at q2; exact fun F4 H4 own4 σ4 s4 I4 => go s4 I4 q2
      | ct g4 => rw [eb] at q2; exact fun F4 H4 own4 σ4 s4 I4 => go s4 I4 q2
      | brk g4 =>
        rw [eb] at q2
        intro F4 H4 own4 σ4 s4 I4
        obtain ⟨own5, I5, s5⟩ := kill_step (ks := ks) I4
        exact q2 F4 H4 own5 σ4 (s4.trans s5) I5
      | ret v g4 => rw [eb] at q2; exact q2
      | exc x g4 => rw [eb] at q2; exact q2
      | bad => rw [eb] at q2; exact q2
    · refine ⟨false, by (cases o with | frz _ r => cases r; rfl), itff (q2 F2 H2 own2 σ1 m2.st m2.g)⟩
    · exact False.elim q2
theorem s_while (hp : PassesOwn (model X.prog X.w) X.A X.env X.xe) (hc : ST X P ec fc) (hb : SB X P body fb) : SS X P (.While ec body [] pos) (sWhile fc fb ks) := ⟨ps_imp (ps_while hp hc.pt hb.ps) fun _ _ _ q => core_while q⟩
end
end PL

/-! PL7: list comprehensions. -/
namespace PL
open PySem PySem.Spec L2

section
variable {X : Cx} {P : Par} {σ σ' : St} {H H' : Hp} {ts : List Tmp} {F0 : Fz} {H0 : Hp} {own0 : Ow} {F1 F2 : Fz} {g1 g2 : Env} {own1 own2 : Ow}
/-- a step taken beside the temporaries -/
theorem mid_step (m : MidAt X P σ ts H F0 H0 own0 F1 g1 own1) (s : Step F1 H own1 F2 H' own2) (I : GX X P F2 H' σ' g2 own2) : MidAt X P σ' ts H' F0 H0 own0 F2 g2 own2 := by
  have kp := s.keeps m.g
  have kL : ∀ t ∈ ts, ∀ a ∈ t.L, ∀ ob, H a = some ob → H' a = some ob := fun t ht a ha ob e => s.keep a ob e (m.sep t ht a ha).2.1
  refine ⟨I, m.st.trans s, fun t ht => (m.own t ht).keep kp (kL t ht), m.nd, fun t ht a ha => ?_⟩
  obtain ⟨h1, h2, ⟨sh, h3⟩, h4⟩ := m.sep t ht a ha
  refine ⟨fun z => ?_, fun i z => ?_, ⟨sh, kL t ht a ha _ h3⟩, h4⟩
  · rcases s.new a z with z | ⟨i, z⟩ | z
    · exact h1 z
    · exact h2 i z
    · rw [h3] at z; cases z
  · rcases s.own i a z with ⟨j, z⟩ | z
    · exact h2 j z
    · rw [h3] at z; cases z
theorem mid_drop {t : Tmp} (m : MidAt X P σ (t :: ts) H F0 H0 own0 F1 g1 own1) : MidAt X P σ ts H F0 H0 own0 F1 g1 own1 := by
  have nd := m.nd
  rw [List.flatMap_cons, List.nodup_append] at nd
  exact ⟨m.g, m.st, fun u hu => m.own u (List.mem_cons_of_mem _ hu), nd.2.1, fun u hu => m.sep u (List.mem_cons_of_mem _ hu)⟩
/-- what a write at a place that nobody else holds leaves as it was -/
theorem wr_keep {c : Cn} {F : Fz} {a : Addr} {sh sh' : Sh} (e : H a = some (shO a sh)) (nf : ¬ F a) : Keep (c := c) F F H (upd H a (shO a sh')) := by
  have ne : ∀ b o, H b = some o → (∀ s, shO a s ≠ o) → b ≠ a := fun b o h n z => by subst z; rw [e] at h; cases h; exact n sh rfl
  refine ⟨fun _ h => h, fun b vs h => ?_, fun b o f h => ?_⟩
  · rcases h with (h | ⟨o, h⟩) | h
    · exact .inl (.inl (by rw [upd_ne (ne b _ h fun s z => sh_tup z)]; exact h))
    · exact .inl (.inr ⟨o, by rw [upd_ne (ne b _ h fun s z => sh_frz z)]; exact h⟩)
    · exact .inr h
  · rw [upd_ne (show b ≠ a from fun z => nf (by rw [← z]; exact f))]
    exact h
/-- a write at a temporary's place: what stands beside it -/
theorem mid_wr {t : Tmp} {a : Addr} {sh : Sh} (m : MidAt X P σ (t :: ts) H F0 H0 own0 F1 g1 own1) (ha : a ∈ t.L) : MidAt X P σ ts (upd H a (shO a sh)) F0 H0 own0 F1 g1 own1 := by
  have h0 : t ∈ t :: ts := List.mem_cons_self
  obtain ⟨nf, no, ⟨sh0, e0⟩, yg⟩ := m.sep t h0 a ha
  have kp : Keep (c := cn X P) F1 F1 H (upd H a (shO a sh)) := wr_keep e0 nf
  have nd := m.nd
  rw [List.flatMap_cons, List.nodup_append] at nd
  have ne : ∀ u ∈ ts, ∀ b ∈ u.L, b ≠ a := fun u hu b hb z => nd.2.2 a ha b (List.mem_flatMap.mpr ⟨u, hu, hb⟩) z.symm
  refine ⟨?_, ⟨m.st.fr, fun b o e n => ?_, m.st.new, m.st.own, fun b o e => ?_⟩, fun u hu => (m.own u (List.mem_cons_of_mem _ hu)).keep kp fun b hb o e => by rw [upd_ne (ne u hu b hb)]; exact e, nd.2.1, fun u hu b hb => ?_⟩
  · refine ⟨m.g.len, m.g.slen, fun i v e => ?_, m.g.emp, m.g.nodup, m.g.disj, fun i b hb => ?_, fun b f => ?_, m.g.pin⟩
    · obtain ⟨x, h1, o⟩ := m.g.slot i v e
      exact ⟨x, h1, o.keep kp fun b hb o e => by rw [upd_ne (show b ≠ a from fun z => no i (by rw [← z]; exact hb))]; exact e⟩
    · obtain ⟨h1, sh2, h2⟩ := m.g.sep i b hb
      exact ⟨h1, sh2, by rw [upd_ne (show b ≠ a from fun z => no i (by rw [← z]; exact hb))]; exact h2⟩
    · obtain ⟨o, e⟩ := m.g.frz b f
      exact ⟨o, by rw [upd_ne (show b ≠ a from fun z => nf (by rw [← z]; exact f))]; exact e⟩
  · have e1 := m.st.keep b o e n
    rw [upd_ne]
    · exact e1
    · intro z
      subst z
      rcases yg with ⟨i, z⟩ | z
      · exact n i z
      · rw [e] at z; cases z
  · by_cases hb : b = a
    · subst hb; exact ⟨_, upd_same⟩
    · obtain ⟨o', e'⟩ := m.st.tr b o e
      exact ⟨o', by rw [upd_ne hb]; exact e'⟩
  · obtain ⟨h1, h2, ⟨sh2, h3⟩, h4⟩ := m.sep u (List.mem_cons_of_mem _ hu) b hb
    exact ⟨h1, h2, ⟨sh2, by rw [upd_ne (ne u hu b hb)]; exact h3⟩, h4⟩
theorem OwnA.append {c : Cn} {F : Fz} {n : Nat} : ∀ {vs ws : List V} {ds es : List PL.D} {L M : List Addr}, OwnA c H F n vs ds L → OwnA c H F n ws es M → OwnA c H F n (vs ++ ws) (ds ++ es) (L ++ M)
  | _, _, _, _, _, _, .nil, s => s
  | _, _, _, _, _, _, .cons h r, s => by
    have q := OwnA.cons h (OwnA.append r s)
    rw [List.append_assoc]
    exact q
/-- another frame of names -/
theorem G.resig {c : Cn} {n : Nat} {pz : List (Nat × V)} {F : Fz} {g : Env} {own : Ow} (I : G c n pz F H σ g own) (h : ∀ (i : Nat) (v : Val), g[i]? = some (some v) → σ'[i]? = σ[i]?) (hl : σ'.length = n) (hp : ∀ p ∈ pz, σ'[p.1]? = σ[p.1]?) : G c n pz F H σ' g own :=
  ⟨I.len, hl, fun i v e => let ⟨x, h1, o⟩ := I.slot i v e; ⟨x, (h i v e).trans h1, o⟩, I.emp, I.nodup, I.disj, I.sep, I.frz, fun p hp' => (hp p hp').trans (I.pin p hp')⟩
/-- a slot's frozen value is known again -/
theorem G.put {c : Cn} {n : Nat} {pz : List (Nat × V)} {F : Fz} {g : Env} {own : Ow} (I : G c n pz F H σ g own) {i : Nat} {x : V} {d : PL.D} (hs : σ[i]? = some (some x)) (r : Rp c H F x d) :
    G c n pz F H σ (g.set i (some ⟨d, 0⟩)) (fun j => if j = i then [] else own j) := by
  have hi : i < g.length := by
    have := (List.getElem?_eq_some_iff.mp hs).1
    rw [I.slen] at this
    rw [I.len]; exact this
  refine ⟨by rw [List.length_set]; exact I.len, I.slen, fun j u e => ?_, fun j z => ?_, fun j => ?_, fun j k a hjk h1 h2 => ?_, fun j a ha => ?_, I.frz, I.pin⟩
  · by_cases hj : j = i
    · subst hj
      rw [List.getElem?_set_self hi] at e
      cases e
      rw [if_pos rfl]
      exact ⟨x, hs, .of r⟩
    · rw [List.getElem?_set_ne (Ne.symm hj)] at e
      rw [if_neg hj]
      exact I.slot j u e
  · by_cases hj : j = i
    · rw [if_pos hj]
    · rw [if_neg hj]
      exact I.emp j fun w e => z w (by rw [List.getElem?_set_ne (Ne.symm hj)]; exact e)
  · show (if j = i then [] else own j).Nodup
    split
    · exact List.nodup_nil
    · exact I.nodup j
  · have h1 : a ∈ (if j = i then [] else own j) := h1
    have h2 : a ∈ (if k = i then [] else own k) := h2
    split at h1
    · cases h1
    · split at h2
      · cases h2
      · exact I.disj j k a hjk h1 h2
  · have ha : a ∈ (if j = i then [] else own j) := ha
    split at ha
    · cases ha
    · exact I.sep j a ha
def restG (g0 : Env) (rs : List Nat) (g : Env) : Env := rs.foldl (fun g i => match g0[i]? with
  | some (some v) => if v.o = 0 then g.set i (some ⟨v.d, 0⟩) else g
  | _ => g) g
theorem G.rest {c : Cn} {n : Nat} {pz : List (Nat × V)} {F : Fz} {g0 : Env} (h0 : ∀ (i : Nat) (v : Val), g0[i]? = some (some v) → v.o = 0 → ∃ x, σ[i]? = some (some x) ∧ Rp c H F x v.d) : ∀ {rs : List Nat} {g : Env} {own : Ow}, G c n pz F H σ g own →
    ∃ own', G c n pz F H σ (restG g0 rs g) own' ∧ ∀ i a, a ∈ own' i → a ∈ own i
  | [], g, own, I => ⟨own, I, fun _ _ h => h⟩
  | r :: rs, g, own, I => by
    have key : ∀ g', (∃ own', G c n pz F H σ g' own' ∧ ∀ i a, a ∈ own' i → a ∈ own i) → ∃ own', G c n pz F H σ (restG g0 rs g') own' ∧ ∀ i a, a ∈ own' i → a ∈ own i := fun g' ⟨o1, I1, l1⟩ =>
      let ⟨o2, I2, l2⟩ := G.rest h0 (rs := rs) I1
      ⟨o2, I2, fun i a h => l1 i a (l2 i a h)⟩
    show ∃ own', G c n pz F H σ (restG g0 rs (match g0[r]? with
      | some (some v) => if v.o = 0 then g.set r (some ⟨v.d, 0⟩) else g
      | _ => g)) own' ∧ _
    refine key _ ?_
    split
    · rename_i v hv
      split
      · rename_i hz
        obtain ⟨x, hx, r⟩ := h0 _ v hv hz
        refine ⟨_, I.put hx r, fun i a ha => ?_⟩
        have ha : a ∈ (if i = _ then [] else own i) := ha
        split at ha
        · cases ha
        · exact ha
      · exact ⟨own, I, fun _ _ h => h⟩
    · exact ⟨own, I, fun _ _ h => h⟩
theorem kill_none : ∀ {ks : List Nat} {g : Env} {i : Nat} {v : Val}, (killG ks g)[i]? = some (some v) → g[i]? = some (some v) ∧ i ∉ ks
  | [], g, i, v, h => ⟨h, by simp⟩
  | k :: ks, g, i, v, h => by
    obtain ⟨h1, h2⟩ := kill_none (ks := ks) (g := g.set k none) h
    by_cases e : k = i
    · subst e
      by_cases hl : k < g.length
      · rw [List.getElem?_set_self hl] at h1; cases h1
      · rw [List.getElem?_eq_none (by simpa using hl)] at h1; cases h1
    · rw [List.getElem?_set_ne e] at h1
      exact ⟨h1, by simp only [List.mem_cons, not_or]; exact ⟨fun z => e z.symm, h2⟩⟩
theorem wipe_get {i : Nat} : ∀ {vs : List Nat}, i ∉ vs → (wipe σ vs)[i]? = σ[i]?
  | [], _ => rfl
  | v :: vs, h => by
    unfold wipe
    simp only [List.mem_cons, not_or] at h
    rw [List.getElem?_set_ne fun e => h.1 e.symm]
    exact wipe_get h.2
theorem wipe_in {i : Nat} : ∀ {vs : List Nat}, i ∈ vs → i < σ.length → (wipe σ vs)[i]? = some none
  | v :: vs, h, hl => by
    unfold wipe
    by_cases e : v = i
    · subst e
      rw [List.getElem?_set_self (by rw [wipe_length]; exact hl)]
    · rw [List.getElem?_set_ne e]
      rcases List.mem_cons.mp h with z | z
      · exact absurd z.symm e
      · exact wipe_in z hl
theorem wipe_eq {vs : List Nat} (h : ∀ i, i ∉ vs → σ'[i]? = σ[i]?) (hl : σ'.length = σ.length) : wipe σ' vs = wipe σ vs := by
  refine List.ext_getElem? fun i => ?_
  by_cases hi : i ∈ vs
  · by_cases hb : i < σ.length
    · rw [wipe_in hi hb, wipe_in hi (by rw [hl]; exact hb)]
    · rw [List.getElem?_eq_none (by rw [wipe_length]; omega), List.getElem?_eq_none (by rw [wipe_length]; omega)]
  · rw [wipe_get hi, wipe_get hi, h i hi]

/-! ### the comprehension -/
def lv : Bool → Nat
  | true => 1
  | false => 0
def testO (c : Option Ex) (g : Env) : Option (Bool × Env) := match c with
  | none => some (true, g)
  | some f => match f g with
    | .ok v g1 => match v.d with
      | .bl b => some (b, g1)
      | _ => none
    | _ => none
def lcL (t : Tg) (c : Option Ex) (e : Ex) (dp : Bool) (vs : List Nat) : List PL.D → Env → IOut
  | [], g => .ok [] g
  | d :: ds, g => match t.asg d g with
    | none => .bad
    | some g1 => match testO c g1 with
      | none => .bad
      | some (false, g2) => lcL t c e dp vs ds (killG vs g2)
      | some (true, g2) => match e g2 with
        |   .ok v g3 => if dp = true ∧ v.o ≠ 1 then .bad else match lcL t c e dp vs ds (killG vs g3) with
          | .ok rest g4 => .ok (v.d :: rest) g4
          | _ => .bad
        | _ => .bad
def eLc (s : Src) (t : Tg) (c : Option Ex) (e : Ex) (dp : Bool) (vs rs : List Nat) : Ex := fun g => match s g with
  | .ok ds g1 => match lcL t c e dp vs ds (killG vs g1) with
    | .ok out g2 => .ok ⟨.lst out, lv dp + 1⟩ (restG g1 rs g2)
    | _ => .bad
  | .exc x g1 => .exc x g1
  | .bad => .bad
abbrev Par.calm (P : Par) : Par := { P with W := fun _ _ _ _ => False }
/-- a clause's tests in the block -/
def tC? (X : Cx) (P : Par) : Option Ex → TT
  | none => tYes
  | some f => tB (tE X P f)
structure SC (X : Cx) (P : Par) (ifs : List Expr) (c : Option Ex) : Prop where
  pts : PTs X ifs (tC? X P c)
theorem sc_nil : SC X P [] none := ⟨pts_nil⟩
theorem sc_one {e : Expr} {f : Ex} (h : ST X P e f) : SC X P [e] (some f) := ⟨pts_one h.pt⟩
/-- what is reached behind the rest of the items -/
def LcGoal (X : Cx) (P : Par) (σ : St) (Q : VK) (dp : Bool) (gs : Env) (rs : List Nat) (F0 : Fz) (H0 : Hp) (own0 : Ow) (acc : List PL.D) : IOut → Prop
  | .ok rest g => End X P F0 H0 own0 σ Q ⟨.lst (acc ++ rest), lv dp + 1⟩ (restG gs rs g)
  | _ => False
/-- an expression that gives v, beside temporaries -/
theorem mid_eval1 {f : Ex} {ts : List Tmp} {v : Val} {R : VK} (m : MidAt X P σ ts H F0 H0 own0 F1 g1 own1) (e : f g1 = .ok v g2)
    (h : ∀ x L H2 F2 own2, MidAt X P σ (⟨x, v, L⟩ :: ts) H2 F0 H0 own0 F2 g2 own2 → Keep (c := cn X P) F1 F2 H H2 → R x H2) : tE X P f σ H R := by
  refine ⟨F1, g1, own1, m.g, ?_⟩
  rw [e]
  intro F' H' own' x L s I o fr
  have m' := mid_step m s I
  refine h x L H' F' own' ⟨I, m'.st, fun t ht => ?_, ?_, fun t ht a ha => ?_⟩ (s.keeps m.g)
  · rcases List.mem_cons.mp ht with rfl | ht
    · exact o
    · exact m'.own t ht
  · rw [List.flatMap_cons, List.nodup_append]
    refine ⟨fr.nd, m.nd, fun a ha b hb e => ?_⟩
    obtain ⟨t, ht, hb⟩ := List.mem_flatMap.mp hb
    subst e
    obtain ⟨_, h2, ⟨sh, h3⟩, _⟩ := m.sep t ht a hb
    rcases (fr.sep a ha).2.2.2 with ⟨i, z⟩ | z
    · exact h2 i z
    · rw [h3] at z; cases z
  · rcases List.mem_cons.mp ht with rfl | ht
    · obtain ⟨h1, h2, h3, h4⟩ := fr.sep a ha
      exact ⟨h1, h2, h3, young m.st h4⟩
    · exact m'.sep t ht a ha
theorem mid_bool1 {f : Ex} {ts : List Tmp} {b : Bool} {v : Val} {R : VK} (m : MidAt X P σ ts H F0 H0 own0 F1 g1 own1) (e : f g1 = .ok v g2) (hv : v.d = .bl b)
    (h : ∀ H2 F2 own2, MidAt X P σ ts H2 F0 H0 own0 F2 g2 own2 → Keep (c := cn X P) F1 F2 H H2 → R (.bl b) H2) : tE X P f σ H R := by
  refine mid_eval1 m e fun x L H2 F2 own2 m2 k => ?_
  have o := m2.own _ List.mem_cons_self
  have e2 : x = .bl b := by
    obtain ⟨vd, vn⟩ := v
    simp only at hv o
    subst hv
    cases o with
    | frz _ r => cases r; rfl
  subst e2
  exact h H2 F2 own2 (mid_drop m2) k
theorem mid_freezeAt {t : Tmp} {ts : List Tmp} (m : MidAt X P σ (t :: ts) H F0 H0 own0 F1 g1 own1) : MidAt X P σ (⟨t.x, ⟨t.v.d, 0⟩, []⟩ :: ts) H F0 H0 own0 (fun a => F1 a ∨ a ∈ t.L) g1 own1 := by
  have h0 : t ∈ t :: ts := List.mem_cons_self
  have up : ∀ a, F1 a → (F1 a ∨ a ∈ t.L) := fun a h => .inl h
  have nd := m.nd
  rw [List.flatMap_cons, List.nodup_append] at nd
  have ap : ∀ u ∈ ts, ∀ a ∈ u.L, a ∉ t.L := fun u hu a ha z => nd.2.2 a z a (List.mem_flatMap.mpr ⟨u, hu, ha⟩) rfl
  refine ⟨?_, ?_, fun u hu => ?_, by simpa using nd.2.1, fun u hu a ha => ?_⟩
  · refine ⟨m.g.len, m.g.slen, fun i v e => ?_, m.g.emp, m.g.nodup, m.g.disj, fun i a ha => ⟨fun z => ?_, (m.g.sep i a ha).2⟩, fun a z => ?_, m.g.pin⟩
    · obtain ⟨x, e1, o⟩ := m.g.slot i v e
      exact ⟨x, e1, o.keep (.more up) fun _ _ _ z => z⟩
    · rcases z with z | z
      · exact (m.g.sep i a ha).1 z
      · exact (m.sep t h0 a z).2.1 i ha
    · rcases z with z | z
      · exact m.g.frz a z
      · obtain ⟨sh, e⟩ := (m.sep t h0 a z).2.2.1
        exact ⟨_, e⟩
  · refine ⟨fun a z => .inl (m.st.fr a z), m.st.keep, fun a z => ?_, m.st.own, m.st.tr⟩
    rcases z with z | z
    · exact m.st.new a z
    · exact .inr (m.sep t h0 a z).2.2.2
  · rcases List.mem_cons.mp hu with rfl | hu
    · exact .of ((m.own t h0).freeze up fun a ha => .inr ha)
    · exact (m.own u (List.mem_cons_of_mem _ hu)).keep (.more up) fun _ _ _ z => z
  · rcases List.mem_cons.mp hu with rfl | hu
    · cases ha
    · obtain ⟨h1, h2⟩ := m.sep u (List.mem_cons_of_mem _ hu) a ha
      refine ⟨fun z => ?_, h2⟩
      rcases z with z | z
      · exact h1 z
      · exact ap u hu a ha z
/-- a list that is being made gets one more -/
theorem mid_push {ts : List Tmp} {n : Nat} {y : V} {d : PL.D} {Ly L : List Addr} {a : Addr} {acc : List PL.D} (m : MidAt X P σ (⟨y, ⟨d, n⟩, Ly⟩ :: ⟨.ref a, ⟨.lst acc, n + 1⟩, L⟩ :: ts) H F0 H0 own0 F1 g1 own1) :
    ∃ vs L', H a = some (.lst vs) ∧ vs.length = acc.length ∧ MidAt X P σ (⟨.ref a, ⟨.lst (acc ++ [d]), n + 1⟩, L'⟩ :: ts) (upd H a (.lst (vs ++ [y]))) F0 H0 own0 F1 g1 own1 := by
  have oy := m.own _ List.mem_cons_self
  have oa := m.own _ (List.mem_cons_of_mem _ List.mem_cons_self)
  have nd := m.nd
  rw [List.flatMap_cons, List.flatMap_cons, List.nodup_append, List.nodup_append] at nd
  obtain ⟨ndy, ⟨nda, ndt, ndat⟩, ndy2⟩ := nd
  simp only at oy oa ndy nda ndat ndy2
  cases oa with
  | frz z r =>
    rcases z with z | z
    · cases z
    · cases z
  | @lst _ _ vs _ L1 e r =>
    have hl : vs.length = acc.length := by
      have : ∀ {n : Nat} {vs : List V} {ds : List PL.D} {L : List Addr}, OwnA (cn X P) H F1 n vs ds L → vs.length = ds.length := by
        intro n vs
        induction vs with
        | nil => intro ds L h; cases h; rfl
        | cons v vs ih => intro ds L h; cases h with | cons h1 h2 => simp [ih h2]
      exact this r
    refine ⟨vs, a :: (L1 ++ Ly), e, hl, ?_⟩
    -- the writing
    have mid2 : MidAt X P σ (⟨.ref a, ⟨.lst acc, n + 1⟩, a :: L1⟩ :: ⟨y, ⟨d, n⟩, Ly⟩ :: ts) H F0 H0 own0 F1 g1 own1 := by
      refine ⟨m.g, m.st, fun t ht => m.own t ?_, ?_, fun t ht => m.sep t ?_⟩
      · rcases List.mem_cons.mp ht with z | ht
        · rw [z]; exact List.mem_cons_of_mem _ List.mem_cons_self
        · rcases List.mem_cons.mp ht with z | ht
          · rw [z]; exact List.mem_cons_self
          · exact List.mem_cons_of_mem _ (List.mem_cons_of_mem _ ht)
      · rw [List.flatMap_cons, List.flatMap_cons, List.nodup_append, List.nodup_append]
        refine ⟨nda, ⟨ndy, ndt, fun b hb c hc => ndy2 b hb c (List.mem_append_right _ hc)⟩, fun b hb c hc => ?_⟩
        rcases List.mem_append.mp hc with hc | hc
        · exact fun z => ndy2 c hc b (List.mem_append_left _ hb) z.symm
        · exact ndat b hb c hc
      · rcases List.mem_cons.mp ht with z | ht
        · rw [z]; exact List.mem_cons_of_mem _ List.mem_cons_self
        · rcases List.mem_cons.mp ht with z | ht
          · rw [z]; exact List.mem_cons_self
          · exact List.mem_cons_of_mem _ (List.mem_cons_of_mem _ ht)
    have m3 := mid_wr (sh := .lst (vs ++ [y])) mid2 (a := a) List.mem_cons_self
    have hy := m3.own _ List.mem_cons_self
    obtain ⟨nf, no, _, yg⟩ := m.sep ⟨.ref a, ⟨.lst acc, n + 1⟩, a :: L1⟩ (List.mem_cons_of_mem _ List.mem_cons_self) a List.mem_cons_self
    have kp : Keep (c := cn X P) F1 F1 H (upd H a (shO a (.lst (vs ++ [y])))) := wr_keep (sh := .lst vs) e nf
    have na1 : a ∉ L1 := (List.nodup_cons.mp nda).1
    have ra : OwnA (cn X P) (upd H a (.lst (vs ++ [y]))) F1 n vs acc L1 := r.keep kp fun b hb o e => by
      rw [upd_ne (show b ≠ a from fun z => na1 (by rw [← z]; exact hb))]; exact e
    have all := OwnA.append ra (OwnA.cons hy OwnA.nil)
    rw [List.append_nil] at all
    refine ⟨m3.g, m3.st, fun t ht => ?_, ?_, fun t ht b hb => ?_⟩
    · rcases List.mem_cons.mp ht with rfl | ht
      · exact .lst upd_same all
      · exact m3.own t (List.mem_cons_of_mem _ ht)
    · have q := mid2.nd
      simp only [List.flatMap_cons] at q ⊢
      simpa [List.append_assoc] using q
    · rcases List.mem_cons.mp ht with rfl | ht
      · rcases List.mem_cons.mp hb with rfl | hb
        · exact ⟨nf, no, ⟨.lst (vs ++ [y]), upd_same⟩, yg⟩
        · rcases List.mem_append.mp hb with hb | hb
          · obtain ⟨h1, h2, ⟨sh, h3⟩, h4⟩ := m.sep ⟨.ref a, ⟨.lst acc, n + 1⟩, a :: L1⟩ (List.mem_cons_of_mem _ List.mem_cons_self) b (List.mem_cons_of_mem _ hb)
            exact ⟨h1, h2, ⟨sh, by rw [upd_ne (show b ≠ a from fun z => na1 (by rw [← z]; exact hb))]; exact h3⟩, h4⟩
          · exact m3.sep ⟨y, ⟨d, n⟩, Ly⟩ List.mem_cons_self b hb
      · exact m3.sep t (List.mem_cons_of_mem _ ht) b hb
end
end PL

/-! PL8: list comprehensions, the proof. -/
namespace PL
open PySem PySem.Spec L2

section
variable {X : Cx} {P : Par} {σ : St} {H : Hp} {Q : VK} {s : Src} {t : Tg} {c : Option Ex} {e : Ex} {dp : Bool} {vs rs : List Nat}
/-- the block's frame: the names of the block forgotten -/
theorem blk_mid {σ σ2 : St} {H : Hp} {ts : List Tmp} {F0 : Fz} {H0 : Hp} {own0 : Ow} {F1 : Fz} {g1 : Env} {own1 : Ow} (hpv : ∀ p ∈ P.pz, p.1 ∉ vs) (hg : ∀ j, j ∉ vs → σ2[j]? = σ[j]?) (m : MidAt X P σ2 ts H F0 H0 own0 F1 g1 own1) (hl : σ.length = X.N.length) :
    ∃ own2, MidAt X P (wipe σ vs) ts H F0 H0 own0 F1 (killG vs g1) own2 := by
  obtain ⟨own2, I2, hle⟩ := m.g.kill (ks := vs)
  refine ⟨own2, mid_step m (.less hle) (I2.resig (fun i v h => ?_) (by rw [wipe_length]; exact hl) fun p hp => ?_)⟩
  · obtain ⟨_, hn⟩ := kill_none h
    rw [wipe_get hn, hg i hn]
  · rw [wipe_get (hpv p hp), hg _ (hpv p hp)]
theorem mid_calm {σ : St} {H : Hp} {ts : List Tmp} {F0 : Fz} {H0 : Hp} {own0 : Ow} {F1 : Fz} {g1 : Env} {own1 : Ow} (m : MidAt X P σ ts H F0 H0 own0 F1 g1 own1) : MidAt X P.calm σ ts H F0 H0 own0 F1 g1 own1 := ⟨m.g, m.st, m.own, m.nd, m.sep⟩
theorem mid_uncalm {σ : St} {H : Hp} {ts : List Tmp} {F0 : Fz} {H0 : Hp} {own0 : Ow} {F1 : Fz} {g1 : Env} {own1 : Ow} (m : MidAt X P.calm σ ts H F0 H0 own0 F1 g1 own1) : MidAt X P σ ts H F0 H0 own0 F1 g1 own1 := ⟨m.g, m.st, m.own, m.nd, m.sep⟩
theorem own_lst_len {c : Cn} {H : Hp} {F : Fz} {n : Nat} {a : Addr} {acc : List PL.D} {L : List Addr} (o : Own c H F (n + 1) (.ref a) (.lst acc) L) : a ∈ L := by
  cases o with
  | frz z r =>
    rcases z with z | z
    · cases z
    · cases z
  | lst e r => exact List.mem_cons_self
theorem core_lc (hsl : ∀ i ∈ t.sl, i ∈ vs) (hpv : ∀ p ∈ P.pz, p.1 ∉ vs) (q : tE X P (eLc s t c e dp vs rs) σ H Q) : tLc (tI X P s) (tG X P.calm t) (tC? X P.calm c) (tE X P.calm e) vs σ H Q := by
  obtain ⟨F, g, own, I, q⟩ := q
  refine ⟨F, g, own, I, ?_⟩
  unfold eLc at q
  cases es : s g with
  | bad => rw [es] at q; exact q
  | exc x g1 => rw [es] at q; exact q
  | ok ds gs =>
    rw [es] at q
    intro F' H' own' J st I' it hz D hD
    have q0 : LcGoal X P σ Q dp gs rs F H own [] (lcL t c e dp vs ds (killG vs gs)) := by
      simp only at q
      cases el : lcL t c e dp vs ds (killG vs gs) with
      | ok out g2 => rw [el] at q; exact q
      | exc x g2 => rw [el] at q; exact q
      | bad => rw [el] at q; exact q
    have gr0 : Grow H' (upd H' D (.lst [])) := .upd hD
    have noD : ∀ i, D ∉ own' i := fun i hi => by
      obtain ⟨_, sh, e⟩ := I'.sep i D hi
      rw [hD] at e; cases e
    have m00 : MidAt X P σ [⟨.ref D, ⟨.lst [], lv dp + 1⟩, [D]⟩] (upd H' D (.lst [])) F H own F' gs own' := by
      refine ⟨I'.grow gr0, st.trans gr0.step, fun u hu => ?_, by simp, fun u hu a ha => ?_⟩
      · rw [List.mem_singleton.mp hu]
        exact .lst upd_same .nil
      · rw [List.mem_singleton.mp hu] at ha
        have e : a = D := by simpa using ha
        subst e
        refine ⟨fun f => ?_, noD, ⟨.lst [], upd_same⟩, young st (.inr hD)⟩
        obtain ⟨o, e⟩ := I'.frz _ f
        rw [hD] at e; cases e
    obtain ⟨ownB, m0⟩ := blk_mid (vs := vs) (σ := σ) hpv (fun _ _ => rfl) m00 I'.slen
    have hw : ∀ {σ2 : St}, (∀ j, j ∉ t.sl → σ2[j]? = (wipe σ vs)[j]?) → ∀ j, j ∉ vs → σ2[j]? = σ[j]? := fun {σ2} h j hj => by rw [h j fun z => hj (hsl j z), wipe_get hj]
    refine ⟨fun i m σ1 => m = ds.length - i ∧ i ≤ ds.length ∧ ∃ F1 g1 own1 acc L, MidAt X P (wipe σ vs) [⟨.ref D, ⟨.lst acc, lv dp + 1⟩, L⟩] σ1 F H own F1 g1 own1 ∧ acc.length ≤ i ∧ Keep (c := cn X P) F' F1 H' σ1 ∧ (∀ j ∈ vs, ∀ v : Val, g1[j]? ≠ some (some v)) ∧
      LcGoal X P σ Q dp gs rs F H own acc (lcL t c e dp vs (ds.drop i) g1), ⟨_, rfl, Nat.zero_le _, F', _, ownB, [], _, m0, Nat.le_refl _, gr0.keep, fun j hj v h => (kill_none h).2 hj, q0⟩, ?_⟩
    rintro i m H1 ⟨rfl, hi, F1, g1, own1, acc, L, m1, ha, kp, hn, q1⟩
    obtain ⟨j1, j2, j3⟩ := it F1 H1 kp m1.g.frz i
    by_cases hlt : i < ds.length
    · refine .inr ⟨j1 hlt, fun H2 => ∃ F1 g1 own1 acc L, MidAt X P (wipe σ vs) [⟨.ref D, ⟨.lst acc, lv dp + 1⟩, L⟩] H2 F H own F1 g1 own1 ∧ acc.length ≤ i + 1 ∧ Keep (c := cn X P) F' F1 H' H2 ∧ (∀ j ∈ vs, ∀ v : Val, g1[j]? ≠ some (some v)) ∧
        LcGoal X P σ Q dp gs rs F H own acc (lcL t c e dp vs (ds.drop (i + 1)) g1), fun H2 h => ⟨_, by omega, rfl, hlt, h⟩, fun x H2 y => ?_⟩
      obtain ⟨d, ed, gr, rp⟩ := j3 x H2 hlt y
      have hd : ds.drop i = d :: ds.drop (i + 1) := by
        rw [List.drop_eq_getElem_cons hlt]
        rw [List.getElem?_eq_getElem hlt] at ed
        cases ed; rfl
      rw [hd] at q1
      unfold lcL at q1
      cases ea : t.asg d g1 with
      | none => rw [ea] at q1; exact False.elim q1
      | some g2 =>
        rw [ea] at q1
        simp only at q1
        have m2 : MidAt X P (wipe σ vs) [⟨.ref D, ⟨.lst acc, lv dp + 1⟩, L⟩] H2 F H own F1 g1 own1 := mid_step m1 gr.step (m1.g.grow gr)
        refine ⟨F1, g1, own1, d, g2, m2.g, rp, ea, fun σ2 own3 ag s3 I3 => ?_⟩
        have m3 : MidAt X P σ2 [⟨.ref D, ⟨.lst acc, lv dp + 1⟩, L⟩] H2 F H own F1 g2 own3 := mid_step m2 s3 I3
        have kp2 : Keep (c := cn X P) F' F1 H' H2 := kp.trans gr.keep
        have hσ := hw ag
        have hs2 : σ2.length = σ.length := by
          have h1 : σ2.length = X.N.length := I3.slen
          have h2 : σ.length = X.N.length := I'.slen
          rw [h1, h2]
        refine ⟨?_, ?_⟩
        · rw [wipe_eq hσ hs2]
        · -- what follows the test
          have fin : ∀ (b : Bool) (g3 : Env) (H3 : Hp) (F3 : Fz) (own4 : Ow), MidAt X P σ2 [⟨.ref D, ⟨.lst acc, lv dp + 1⟩, L⟩] H3 F H own F3 g3 own4 → Keep (c := cn X P) F' F3 H' H3 →
              LcGoal X P σ Q dp gs rs F H own acc (match b with
                | false => lcL t c e dp vs (ds.drop (i + 1)) (killG vs g3)
                | true => match e g3 with
                  | .ok v g4 => if dp = true ∧ v.o ≠ 1 then .bad else match lcL t c e dp vs (ds.drop (i + 1)) (killG vs g4) with
                    | .ok rest g5 => .ok (v.d :: rest) g5
                    | _ => .bad
                  | _ => .bad) →
              if b = true then tE X P.calm e σ2 H3 fun y H4 => ∃ av, H4 D = some (.lst av) ∧ av.length < sizeLine ∧ ∃ F1 g1 own1 acc L, MidAt X P (wipe σ vs) [⟨.ref D, ⟨.lst acc, lv dp + 1⟩, L⟩] (upd H4 D (.lst (av ++ [y]))) F H own F1 g1 own1 ∧ acc.length ≤ i + 1 ∧ Keep (c := cn X P) F' F1 H' (upd H4 D (.lst (av ++ [y]))) ∧ (∀ j ∈ vs, ∀ v : Val, g1[j]? ≠ some (some v)) ∧
                LcGoal X P σ Q dp gs rs F H own acc (lcL t c e dp vs (ds.drop (i + 1)) g1)
              else ∃ F1 g1 own1 acc L, MidAt X P (wipe σ vs) [⟨.ref D, ⟨.lst acc, lv dp + 1⟩, L⟩] H3 F H own F1 g1 own1 ∧ acc.length ≤ i + 1 ∧ Keep (c := cn X P) F' F1 H' H3 ∧ (∀ j ∈ vs, ∀ v : Val, g1[j]? ≠ some (some v)) ∧
                LcGoal X P σ Q dp gs rs F H own acc (lcL t c e dp vs (ds.drop (i + 1)) g1) := by
            intro b g3 H3 F3 own4 m4 kp3 q2
            cases b with
            | false =>
              obtain ⟨own5, m5⟩ := blk_mid (vs := vs) hpv hσ m4 I'.slen
              exact itff ⟨F3, _, own5, acc, L, m5, by omega, kp3, fun j hj v h => (kill_none h).2 hj, q2⟩
            | true =>
              refine ittt ?_
              simp only at q2
              cases ev : e g3 with
              | bad => rw [ev] at q2; exact False.elim q2
              | exc x g4 => rw [ev] at q2; exact False.elim q2
              | ok v g4 =>
                rw [ev] at q2
                simp only at q2
                split at q2
                · exact False.elim q2
                · rename_i hdp
                  refine mid_eval1 (P := P.calm) (X := X) (mid_calm m4) ev fun y Ly H4 F4 own5 m5 k5 => ?_
                  have m5 := mid_uncalm m5
                  have q3 : LcGoal X P σ Q dp gs rs F H own (acc ++ [v.d]) (lcL t c e dp vs (ds.drop (i + 1)) (killG vs g4)) := by
                    cases el : lcL t c e dp vs (ds.drop (i + 1)) (killG vs g4) with
                    | ok rest g5 =>
                      rw [el] at q2
                      have q2 : End X P F H own σ Q ⟨.lst (acc ++ v.d :: rest), lv dp + 1⟩ (restG gs rs g5) := q2
                      have e1 : acc ++ v.d :: rest = (acc ++ [v.d]) ++ rest := by simp
                      rw [e1] at q2
                      exact q2
                    | exc x g5 => rw [el] at q2; exact False.elim q2
                    | bad => rw [el] at q2; exact False.elim q2
                  -- frozen or kept
                  have mk : ∃ F6 L6, MidAt X P σ2 (⟨y, ⟨v.d, lv dp⟩, L6⟩ :: [⟨.ref D, ⟨.lst acc, lv dp + 1⟩, L⟩]) H4 F H own F6 g4 own5 ∧ Keep (c := cn X P) F' F6 H' H4 := by
                    cases dp with
                    | true =>
                      have hv : v.o = 1 := by
                        by_cases h : v.o = 1
                        · exact h
                        · exact absurd ⟨rfl, h⟩ hdp
                      obtain ⟨vd, vn⟩ := v
                      simp only at hv
                      subst hv
                      exact ⟨F4, Ly, m5, kp3.trans k5⟩
                    | false => exact ⟨_, [], mid_freezeAt m5, (kp3.trans k5).trans (.more fun _ h => .inl h)⟩
                  obtain ⟨F6, L6, m6, k6⟩ := mk
                  obtain ⟨av, L7, eD, hlen, m7⟩ := mid_push m6
                  refine ⟨av, eD, by rw [hlen]; omega, ?_⟩
                  obtain ⟨own8, m8⟩ := blk_mid (vs := vs) hpv hσ m7 I'.slen
                  have hDF : ¬ F6 D := (m6.sep _ (List.mem_cons_of_mem _ List.mem_cons_self) D (own_lst_len (m6.own _ (List.mem_cons_of_mem _ List.mem_cons_self)))).1
                  exact ⟨F6, _, own8, acc ++ [v.d], L7, m8, by simp; omega, k6.trans (wr_keep (sh := .lst av) (sh' := .lst (av ++ [y])) eD hDF), fun j hj v h => (kill_none h).2 hj, q3⟩
          cases c with
          | none => exact fin true g2 H2 F1 own3 m3 kp2 q1
          | some f =>
            unfold testO at q1
            simp only at q1
            cases ef : f g2 with
            | bad => rw [ef] at q1; exact False.elim q1
            | exc x g3 => rw [ef] at q1; exact False.elim q1
            | ok v g3 =>
              rw [ef] at q1
              simp only at q1
              cases hv : v.d with
              | bl b =>
                rw [hv] at q1
                refine mid_bool1 (P := P.calm) (X := X) (b := b) (mid_calm m3) ef hv fun H3 F3 own4 m4 k4 => ⟨b, rfl, ?_⟩
                have m4 := mid_uncalm m4
                refine fin b g3 H3 F3 own4 m4 (kp2.trans k4) ?_
                cases b <;> exact q1
              | _ => rw [hv] at q1; exact False.elim q1
    · have e1 : i = ds.length := by omega
      subst e1
      rw [List.drop_length] at q1
      refine .inl ⟨j2 rfl, ?_⟩
      have q2 : End X P F H own σ Q ⟨.lst (acc ++ []), lv dp + 1⟩ (restG gs rs g1) := q1
      rw [List.append_nil] at q2
      have I2 : GX X P F1 H1 σ g1 own1 := m1.g.resig (fun j v h => by
        rw [wipe_get fun z => hn j z v h]) I'.slen fun p hp => by rw [wipe_get (hpv p hp)]
      obtain ⟨own2, I3, hle⟩ := I2.rest (g0 := gs) (rs := rs) fun j v h hz => by
        obtain ⟨x, hx, o⟩ := I'.slot j v h
        rw [hz] at o
        exact ⟨x, hx, o.zero.1.keep kp⟩
      have m2 : MidAt X P σ [⟨.ref D, ⟨.lst acc, lv dp + 1⟩, L⟩] H1 F H own F1 (restG gs rs g1) own2 := mid_step m1 (.less hle) I3
      have h0 := List.mem_singleton.mpr (rfl : (⟨.ref D, ⟨.lst acc, lv dp + 1⟩, L⟩ : Tmp) = _)
      exact q2 F1 H1 own2 _ L m2.st m2.g (m2.own _ h0) ⟨by have := m2.nd; simpa using this, m2.sep _ h0⟩
variable {elt tg iter : Expr} {ifs : List Expr} {scope : Scope} {pos : Pos} {nm : List (Str × Nat)}
/-- [elt for tg in iter if ..] -/
theorem s_lc (hc : X.calm = true) (hN : X.N.Nodup) (hi : SI X P tg iter s) (ok : BlkOk X.N X.env.scope scope nm) (hv : nm.map (·.2) = vs) (hsl : ∀ i ∈ t.sl, i ∈ vs) (hpv : ∀ p ∈ P.pz, p.1 ∉ vs)
    (hg : ∀ (s : Shared) (H : Hp) (C : Addr) (cl : List (Str × Addr)) (fp : List Addr), SG (X.blk s H scope (compEnvC scope cl C X.env) fp) P.calm tg t)
    (ht : ∀ (s : Shared) (H : Hp) (C : Addr) (cl : List (Str × Addr)) (fp : List Addr), SC (X.blk s H scope (compEnvC scope cl C X.env) fp) P.calm ifs c)
    (he : ∀ (s : Shared) (H : Hp) (C : Addr) (cl : List (Str × Addr)) (fp : List Addr), SE (X.blk s H scope (compEnvC scope cl C X.env) fp) P.calm elt e)
    (hs : ∀ x, foldedSetIterable iter X.env x = pure x := by intro _; rfl) : SE X P (.ListComp elt [⟨tg, iter, ifs, 0⟩] scope pos) (eLc s t c e dp vs rs) := by
  subst hv
  exact ⟨pe_imp (pe_lc hc hN hi.pi ok (g := tG X P.calm t) (tt := tC? X P.calm c) (te := tE X P.calm e) (fun s H C cl fp => (hg s H C cl fp).pg) (fun s H C cl fp => (ht s H C cl fp).pts) (fun s H C cl fp => (he s H C cl fp).pe) hs) fun σ H Q q => core_lc hsl hpv q⟩
/-- name = [..] on one line -/
theorem s_setLc {i : Nat} {y : Str} {py spos : Pos} {k : Bool} (hc : X.calm = true) (hN : X.N.Nodup) (hy : X.N[i]? = some y) (hyl : X.env.scope.names.lookup y = some .local)
    (hsw : swapsWith (.ListComp elt [⟨tg, iter, ifs, 0⟩] scope pos) (some (.Name y py)) spos.line X.env = pure true) (hpz : i ∉ P.pz.map (·.1))
    (hi : SI X P tg iter s) (ok : BlkOk X.N X.env.scope scope nm) (hv : nm.map (·.2) = vs) (hsl : ∀ i ∈ t.sl, i ∈ vs) (hpv : ∀ p ∈ P.pz, p.1 ∉ vs)
    (hg : ∀ (s : Shared) (H : Hp) (C : Addr) (cl : List (Str × Addr)) (fp : List Addr), SG (X.blk s H scope (compEnvC scope cl C X.env) fp) P.calm tg t)
    (ht : ∀ (s : Shared) (H : Hp) (C : Addr) (cl : List (Str × Addr)) (fp : List Addr), SC (X.blk s H scope (compEnvC scope cl C X.env) fp) P.calm ifs c)
    (he : ∀ (s : Shared) (H : Hp) (C : Addr) (cl : List (Str × Addr)) (fp : List Addr), SE (X.blk s H scope (compEnvC scope cl C X.env) fp) P.calm elt e)
    (hs : ∀ x, foldedSetIterable iter X.env x = pure x := by intro _; rfl) : SS X P (.Assign [.Name y py] (.ListComp elt [⟨tg, iter, ifs, 0⟩] scope pos) spos) (sSet i k (eLc s t c e dp vs rs)) := by
  subst hv
  exact ⟨ps_imp (ps_setLc hc hN hy hyl hsw hi.pi ok (g := tG X P.calm t) (tt := tC? X P.calm c) (te := tE X P.calm e) (fun s H C cl fp => (hg s H C cl fp).pg) (fun s H C cl fp => (ht s H C cl fp).pts) (fun s H C cl fp => (he s H C cl fp).pe) hs)
    fun D σ H q => core_lc hsl hpv (core_set (List.getElem?_eq_some_iff.mp hy).1 hpz q)⟩
end
end PL

/-! PL9: displays, calls of defs, a def's promise, raise, try. -/
namespace PL
open PySem PySem.Spec PySem.Calls L2

/-- what a def gives -/
inductive FOut where
  | ok (v : Val) | exc (x : Exc) | bad
section
variable {X : Cx} {P : Par} {σ : St} {H : Hp} {Q : VK} {ts : List Tmp}
/-! ### several values, frozen -/
def goE : List Ex → (List PL.D → Env → Out) → Env → Out
  | [], k, g => k [] g
  | f :: fs, k, g => bindO (f g) fun v g1 => goE fs (fun ds g2 => k (v.d :: ds) g2) g1
def tEs (X : Cx) (P : Par) : List Ex → TA
  | [] => tNil
  | f :: fs => tCons (tE X P f) (tEs X P fs)
structure SL (X : Cx) (P : Par) (es : List Expr) (fs : List Ex) : Prop where
  pa : PA X es (tEs X P fs)
theorem sl_nil : SL X P [] [] := ⟨pa_nil⟩
theorem sl_cons {e : Expr} {es : List Expr} {f : Ex} {fs : List Ex} (h : SE X P e f) (hs : SL X P es fs) (hst : starEach (e :: es) X.env = (false, eval e X.env) :: starEach es X.env := by rfl) : SL X P (e :: es) (f :: fs) := ⟨pa_cons h.pe hs.pa hst⟩
inductive RCs (ts : List Tmp) : List V → List PL.D → Prop
  | nil : RCs ts [] []
  | cons {x : V} {xs : List V} {d : PL.D} {ds : List PL.D} : (⟨x, ⟨d, 0⟩, []⟩ : Tmp) ∈ ts → RCs ts xs ds → RCs ts (x :: xs) (d :: ds)
theorem RCs.up {ts' : List Tmp} (u : ∀ x d, (⟨x, ⟨d, 0⟩, []⟩ : Tmp) ∈ ts → (⟨x, ⟨d, 0⟩, []⟩ : Tmp) ∈ ts') : ∀ {xs : List V} {ds : List PL.D}, RCs ts xs ds → RCs ts' xs ds
  | _, _, .nil => .nil
  | _, _, .cons h t => .cons (u _ _ h) (RCs.up u t)
theorem RCs.rp {F0 : Fz} {H0 : Hp} {own0 : Ow} {F1 : Fz} {g1 : Env} {own1 : Ow} (m : MidAt X P σ ts H F0 H0 own0 F1 g1 own1) : ∀ {xs : List V} {ds : List PL.D}, RCs ts xs ds → RpA (cn X P) H F1 xs ds
  | _, _, .nil => .nil
  | _, _, .cons h t => .cons (m.own _ h).zero.1 (RCs.rp m t)
theorem RCs.length : ∀ {xs : List V} {ds : List PL.D}, RCs ts xs ds → xs.length = ds.length
  | _, _, .nil => rfl
  | _, _, .cons _ t => by simp [RCs.length t]
theorem tEs_mono : ∀ {as : List Ex} {H : Hp} {Q Q' : List V → Hp → Prop}, tEs X P as σ H Q → (∀ x H, Q x H → Q' x H) → tEs X P as σ H Q'
  | [], _, _, _, h, i => i _ _ h
  | _ :: _, _, _, _, h, i => tE_mono h fun x H1 h1 => tEs_mono h1 fun xs H2 h2 => i _ _ h2
theorem mid_exs {k : Fz → Hp → Ow → Val → Env → Prop} : ∀ {as : List Ex} {ts : List Tmp} {H : Hp} {r : List PL.D → Env → Out}, Mid X P σ ts (fun F0 H0 own0 g => PostK X P F0 H0 own0 σ (k F0 H0 own0) (goE as r g)) H →
    tEs X P as σ H fun xs H1 => ∃ ts' ds, RCs ts' xs ds ∧ (∀ x d, (⟨x, ⟨d, 0⟩, []⟩ : Tmp) ∈ ts → (⟨x, ⟨d, 0⟩, []⟩ : Tmp) ∈ ts') ∧ ds.length = as.length ∧ Mid X P σ ts' (fun F0 H0 own0 g => PostK X P F0 H0 own0 σ (k F0 H0 own0) (r ds g)) H1
  | [], ts, H, r, h => ⟨ts, [], .nil, fun _ _ z => z, rfl, h⟩
  | f :: fs, ts, H, r, h => by
    have h' := mid_imp (B' := fun F0 H0 own0 g => PostK X P F0 H0 own0 σ (fun v g1 => PostK X P F0 H0 own0 σ (k F0 H0 own0) (goE fs (fun ds g2 => r (v.d :: ds) g2) g1)) (f g)) h fun F0 H0 own0 g q => by
      have q' : PostK X P F0 H0 own0 σ (k F0 H0 own0) (bindO (f g) fun v g1 => goE fs (fun ds g2 => r (v.d :: ds) g2) g1) := q
      rw [postK_bind] at q'
      exact q'
    refine tE_mono (mid_eval h') fun x H1 ⟨v, L, mm⟩ => ?_
    refine tEs_mono (mid_exs (mid_freeze mm)) fun xs H2 ⟨ts', ds, rc, up, hl, m2⟩ => ?_
    exact ⟨ts', v.d :: ds, .cons (up _ _ List.mem_cons_self) rc, fun x d z => up _ _ (List.mem_cons_of_mem _ z), by simp [hl], m2⟩
/-! ### (a, b), [a, b] -/
def eTup (fs : List Ex) : Ex := goE fs fun ds g => .ok ⟨.tup ds, 0⟩ g
def eLst (fs : List Ex) : Ex := goE fs fun ds g => .ok ⟨.lst ds, 1⟩ g
variable {es : List Expr} {fs : List Ex} {pos : Pos}
theorem s_tup {k : Nat} (h : SL X P es fs) (hl : fs.length ≤ 16777216 := by decide) : SE X P (.Tuple es k pos) (eTup fs) := by
  refine ⟨pe_imp (pe_tup h.pa) fun σ H Q q => tEs_mono (mid_exs (mid_of q)) fun xs H1 ⟨ts, ds, rc, _, hd, F0, H0, own0, F1, g1, own1, m, q1⟩ => ⟨?_, fun p hp => ?_⟩⟩
  · rw [rc.length, hd, sizeLine_eq]; exact hl
  · exact (mid_end2 m q1).tup hp (rc.rp m)
theorem s_lst (h : SL X P es fs) (hl : fs.length ≤ 16777216 := by decide) : SE X P (.List es pos) (eLst fs) := by
  refine ⟨pe_imp (pe_lst h.pa) fun σ H Q q => tEs_mono (mid_exs (mid_of q)) fun xs H1 ⟨ts, ds, rc, _, hd, F0, H0, own0, F1, g1, own1, m, q1⟩ => ⟨?_, fun p hp => ?_⟩⟩
  · rw [rc.length, hd, sizeLine_eq]; exact hl
  · exact (mid_end2 m q1).lst hp (rc.rp m)

/-! ### calls -/
/-- what a call may leave: nothing that stood is changed -/
structure Left (F : Fz) (H : Hp) (F' : Fz) (H' : Hp) : Prop where
  fr : ∀ a, F a → F' a
  gr : Grow H H'
  new : ∀ a, F' a → F a ∨ H a = none
  trk : Trk F' H'
/-- a def's promise by its function on data -/
def spF (c : Cn) (cls : Nat → Option Addr) (m : Nat) (f : List PL.D → FOut) : Sp := fun vs H Q E => ∃ F ds, ds.length = m ∧ Trk F H ∧ RpA c H F vs ds ∧ match f ds with
  | .ok v => ∀ F' H' x L, Left F H F' H' → Own c H' F' v.o x v.d L → L.Nodup → (∀ a ∈ L, ¬ F' a ∧ H a = none ∧ ∃ sh, H' a = some (shO a sh)) → Q x H'
  | .exc x => ∀ F' H' k d, Left F H F' H' → ExR cls x k d H' → E k d H'
  | .bad => False
def eCall (f : List PL.D → FOut) (fs : List Ex) : Ex := goE fs fun ds g => match f ds with
  | .ok v => .ok v g
  | .exc x => .exc x g
  | .bad => .bad
theorem G.left {c : Cn} {n : Nat} {pz : List (Nat × V)} {F F' : Fz} {H H' : Hp} {g : Env} {own : Ow} (I : G c n pz F H σ g own) (l : Left F H F' H') : G c n pz F' H' σ g own where
  len := I.len
  slen := I.slen
  slot := fun i v e => let ⟨x, h, o⟩ := I.slot i v e; ⟨x, h, (o.keep (Grow.keep (c := c) l.gr) fun a _ ob e => l.gr a ob e).keep (.more l.fr) fun _ _ _ z => z⟩
  emp := I.emp
  nodup := I.nodup
  disj := I.disj
  sep := fun i a h => by
    obtain ⟨h1, sh, h2⟩ := I.sep i a h
    refine ⟨fun z => ?_, sh, l.gr _ _ h2⟩
    rcases l.new a z with z | z
    · exact h1 z
    · rw [h2] at z; cases z
  frz := l.trk
  pin := I.pin
theorem Left.step {F F' : Fz} {H H' : Hp} {own : Ow} (l : Left F H F' H') : Step F H own F' H' own :=
  ⟨l.fr, fun a o h _ => l.gr a o h, fun a h => (l.new a h).elim .inl fun z => .inr (.inr z), fun i _ h => .inl ⟨i, h⟩, fun a o h => ⟨o, l.gr a o h⟩⟩
variable {x : Str} {p : Pos} {e : Expr} {k : Nat} {f : Addr} {fd : FuncData} {ps : List Str} {F : List PL.D → FOut}
theorem core_call (q : tE X P (eCall F fs) σ H Q) (hm : fs.length = ps.length) : tEs X P fs σ H fun vs H1 => spF (cn X P) P.cls ps.length F vs H1 Q (WE P.W σ) := by
  refine tEs_mono (mid_exs (mid_of q)) fun xs H1 ⟨ts, ds, rc, _, hd, F0, H0, own0, F1, g1, own1, m, q1⟩ => ?_
  refine ⟨F1, ds, by rw [hd, hm], m.g.frz, rc.rp m, ?_⟩
  simp only at q1
  cases e : F ds with
  | bad => rw [e] at q1; exact q1
  | exc x =>
    rw [e] at q1
    exact fun F' H' k d l r => q1 F' H' own1 k d (m.st.trans l.step) (m.g.left l) r
  | ok v =>
    rw [e] at q1
    intro F' H' x L l o nd sep
    refine q1 F' H' own1 x L (m.st.trans l.step) (m.g.left l) o ⟨nd, fun a ha => ?_⟩
    obtain ⟨h1, h2, h3⟩ := sep a ha
    refine ⟨h1, fun i hi => ?_, h3, young m.st (.inr h2)⟩
    obtain ⟨_, sh, e⟩ := m.g.sep i a hi
    rw [h2] at e; cases e
theorem s_call (Fk : FnOk X.prog X.w X.K X.mg X.base (L2.CX X.prog X.w) k f fd ps (spF (cn X P) P.cls ps.length F)) (hr : Room k X.A) (tk : Takes X P.W) (hg : Gl X x) (hm : X.mg x = some (.ref f)) (hk : PySem.W.keepIn X.K (.ref f) = true) (hb : Binds X.K fd ps [])
    (ha : SL X P (e :: es) fs) (hl : fs.length = ps.length := by rfl) (hdb : (x == ("__debug__" : Str)) = false := by decide)
    (he : starEach (e :: es) X.env = (false, eval e X.env) :: starEach es X.env := by rfl) (hpl : (backTo pos (starEach es X.env)).any (·.1) = false := by rfl) : SE X P (.Call (.Name x p) (e :: es) [] pos) (eCall F fs) :=
  ⟨pe_imp (pe_callS Fk hr hg hm hk hb (fun σ => passAt tk σ) ha.pa hdb he hpl) fun σ H Q q => core_call q hl⟩
end

/-! ### a def by its body -/
def fnS (n m : Nat) (b : Sx) (ds : List PL.D) : FOut := if ds.length = m then (match b (ds.map (fun d => some ⟨d, 0⟩) ++ List.replicate (n - m) none) with
  | .ret v _ => .ok v
  | .nx _ => .ok ⟨.non, 0⟩
  | .exc x _ => .exc x
  | _ => .bad) else .bad
theorem G.begin {c : Cn} {N : List Str} {F : Fz} {H : Hp} {vs : List V} {ds : List PL.D} (r : RpA c H F vs ds) (tr : Trk F H) (hn : ds.length ≤ N.length) : G c N.length [] F H (start N vs) (ds.map (fun d => some ⟨d, 0⟩) ++ List.replicate (N.length - ds.length) none) (fun _ => []) := by
  have hl := r.length
  refine ⟨by simp; omega, by unfold L2.start; simp; omega, fun i v e => ?_, fun _ _ => rfl, fun _ => List.nodup_nil, (fun _ _ _ _ h => nomatch h), (fun _ _ h => nomatch h), tr, (fun _ h => nomatch h)⟩
  by_cases hi : i < ds.length
  · rw [List.getElem?_append_left (by simpa using hi), List.getElem?_map] at e
    cases ed : ds[i]? with
    | none => rw [ed] at e; cases e
    | some d =>
      rw [ed] at e
      have e : v = ⟨d, 0⟩ := by
        have := Option.some.inj (Option.some.inj e)
        exact this.symm
      subst e
      obtain ⟨x, hx, rx⟩ := r.get' ed
      refine ⟨x, ?_, .of rx⟩
      unfold L2.start
      rw [List.getElem?_append_left (by simp; omega), List.getElem?_map, hx]
      rfl
  · rw [List.getElem?_append_right (by simpa using hi), List.getElem?_replicate] at e
    split at e <;> cases e
section
variable {P : Program} {w : World} {K : PySem.W.Frag} {mg : Str → Option Value} {base : Heap} {x qual : Str} {params : Arguments} {body : List Stmt} {scope : Scope} {f : Addr} {fd : FuncData} {N ps : List Str} {k : Nat} {b : Sx}
abbrev parE (fns : Fns) (cls : Nat → Option Addr) (E : XK) : Par := ⟨fns, cls, [], fun k d _ H => E k d H⟩
theorem fn_ok (Fd : FunD K x qual params body scope [] [] f fd) (S : FnScope N ps scope) (fns : Fns) (cls : Nat → Option Addr) (hN : ps.length ≤ N.length)
    (hb : ∀ (cdv : Value) (A : Around) (outer : List PySem.Env) (s : Shared) (H : Hp) (E : XK), Room k (A.deeper (PyProof.Rows.envOfC qual scope s.heap.objs.size f cdv)) →
      SB (cxOf (L2.CX P w) P w K mg base N qual scope f cdv A outer s H E) (parE fns cls E) body b) :
    FnOk P w K mg base (L2.CX P w) (k + 1) f fd ps (spF ⟨K, w, fns⟩ cls ps.length (fnS N.length ps.length b)) := by
  refine Fd.ok S (fun vs H Q E h => ?_) fun cdv A outer s H vs Q E hr h => ⟨_, (hb cdv A outer s H E hr).ps, ?_⟩
  · obtain ⟨F, ds, hl, _, r, _⟩ := h
    rw [r.length, hl]
  · obtain ⟨F, ds, hl, tr, r, q⟩ := h
    have I := G.begin (N := N) r tr (by omega)
    refine ⟨F, _, _, I, ?_⟩
    unfold fnS at q
    rw [if_pos hl, ← hl] at q
    have lf : ∀ {F' : Fz} {H' : Hp} {own' : Ow} {σ' : St} {g' : Env}, Step F H (fun _ => []) F' H' own' → G ⟨K, w, fns⟩ N.length [] F' H' σ' g' own' → Left F H F' H' := fun s I => ⟨s.fr, (fun a o h => s.keep a o h (fun i hi => nomatch hi)), (fun a h => by
      rcases s.new a h with z | ⟨i, z⟩ | z
      · exact .inl z
      · cases z
      · exact .inr z), I.frz⟩
    cases eb : b (ds.map (fun d => some ⟨d, 0⟩) ++ List.replicate (N.length - ds.length) none) with
    | nx g =>
      rw [eb] at q
      exact fun F' H' own' σ' s I' => q F' H' .non [] (lf s I') (.of .non) List.nodup_nil fun _ h => nomatch h
    | ret v g =>
      rw [eb] at q
      exact fun F' H' own' σ' x L s I' o fr => q F' H' x L (lf s I') o fr.nd fun a ha => by
        obtain ⟨h1, _, h3, h4⟩ := fr.sep a ha
        refine ⟨h1, ?_, h3⟩
        rcases h4 with ⟨i, z⟩ | z
        · cases z
        · exact z
    | exc e g =>
      rw [eb] at q
      exact fun F' H' own' σ' k d s I' r => q F' H' k d (lf s I') r
    | brk g => rw [eb] at q; exact False.elim q
    | ct g => rw [eb] at q; exact False.elim q
    | bad => rw [eb] at q; exact q
end

/-! ### raise, try -/
def sRaise (x : Exc) : Sx := fun g => .exc x g
section
variable {X : Cx} {P : Par} {σ : St} {H : Hp} {D : Ends}
theorem s_raise {x m : Str} {j : Nat} {p p2 pos pos2 : Pos} {C : Addr} {bmB : List Value} {B newId initId : String} {n : Nat} {w : Str} (hc : X.calm = true) (tk : Takes X P.W) (F : ExcBaseFacts B newId initId bmB) (q : PySem.W.excIn X.K C bmB newId = true) (gC : X.mg x = some (.ref C)) (kC : PySem.W.keepIn X.K (.ref C) = true)
    (r : Raises X (.ref C)) (hn : n < 2) (hC : P.cls n = some C) (hg : Gl X x) (hdb : (x == ("__debug__" : Str)) = false := by decide) : SS X P (.Raise (some (.Call (.Name x p) [.Constant (.str m) j p2] [] pos)) none pos2) (sRaise ⟨n, w⟩) :=
  ⟨ps_imp (ps_raise hc tk (pmk_own F q gC kC r hg hdb)) fun D σ H ⟨F, g, own, I, q⟩ => q F H own σ (.ref C) none .refl I ⟨C, hC, rfl, .inl ⟨hn, rfl⟩⟩⟩
def sTry (b : Sx) (cat : Nat → Bool) (i : Nat) (h : Exc → Sx) : Sx := fun g => match b g with
  | .exc x g1 => if cat x.c = true then (match h x (killG [i] g1) with
    | .nx g2 => .nx (killG [i] g2)
    | .brk g2 => .brk (killG [i] g2)
    | .ct g2 => .ct (killG [i] g2)
    | .ret v g2 => .ret v g2
    | _ => .bad) else .exc x g1
  | r => r
abbrev Par.wish (P : Par) (W : WX) : Par := { P with W := W }
abbrev Par.held (P : Par) (i : Nat) (a : Addr) : Par := { P.calm with pz := (i, .ref a) :: P.pz }
/-- the class of an exception, its own dict -/
def ExC (k : Nat → Option Addr) (e : Exc) (cls : Value) (d : Option Addr) : Prop := ∃ C, k e.c = some C ∧ cls = .ref C ∧ (e.c < 2 → d = none)
theorem ExR.c {k : Nat → Option Addr} {e : Exc} {cls : Value} {d : Option Addr} {H : Hp} (h : ExR k e cls d H) : ExC k e cls d := by
  obtain ⟨C, h1, h2, h3⟩ := h
  refine ⟨C, h1, h2, fun z => ?_⟩
  rcases h3 with ⟨_, h3⟩ | ⟨h3, _⟩
  · exact h3
  · omega
theorem set_none {l : List (Option Val)} {i j : Nat} {v : Val} (h : (killG [i] l)[j]? = some (some v)) : j ≠ i := fun e => (kill_none h).2 (by rw [e]; exact List.mem_singleton.mpr rfl)
variable {x n : Str} {c : Value} {i : Nat} {body suite : List Stmt} {b₀ : Stmt} {np pos pos' : Pos} {b : Sx} {h : Exc → Sx} {cat : Nat → Bool}
theorem s_try (hs : X.stack = X.env :: X.outer) (hf : X.env.frame = some X.env.locals) (hN : X.N.Nodup) (hi : X.N[i]? = some n) (hln : X.env.kindOf n = some .local) (hc : Names X x c) (tk : Takes X P.W) (hpi : i ∉ P.pz.map (·.1))
    (hcat : ∀ e cls d, ExC P.cls e cls d → PySem.W.exmOne X.K cls c = some (cat e.c))
    (hb : ∀ (W : WX) (pn : List (Addr × Obj)) (xe : Value → Shared → Prop), Takes (X.tr pn xe) W → PassesOwn (model X.prog X.w) X.A X.env xe → SB (X.tr pn xe) (P.wish W) body b)
    (hsu : ∀ (a : Addr) (oe : Obj) (cls : Value) (d : Option Addr) (pn : List (Addr × Obj)) (e : Exc), Zc cls d oe → (∃ vs, oe.data = .fields vs) → ExC P.cls e cls d → cat e.c = true → SB (X.suite a ((a, oe) :: pn)) (P.held i a) (b₀ :: suite) (h e)) :
    SS X P (.Try body [.ExceptHandler (some (.Name x np)) (some n) (b₀ :: suite) pos'] [] [] pos) (sTry b cat i h) := by
  have hil : i < X.N.length := (List.getElem?_eq_some_iff.mp hi).1
  refine ⟨ps_imp (ps_try_as (tb := fun W => tS X (P.wish W) b) (ts := fun a cls d D σ H => ∃ e, ExC P.cls e cls d ∧ cat e.c = true ∧ tS X (P.held i a) (h e) D σ H) hs hf hN hi hln hc tk (fun W pn xe t p => (hb W pn xe t p).ps) (fun a oe cls d pn hz hd => ?_)) fun D σ H ⟨F, g, own, I, q⟩ => ⟨F, g, own, I, ?_⟩⟩
  · exact ⟨fun pins s σ H D I ⟨e, h1, h2, h3⟩ => (hsu a oe cls d pn e hz hd h1 h2).ps.run pins s σ H D I h3⟩
  · unfold sTry at q
    cases eb : b g with
    | nx g1 => rw [eb] at q; exact q
    | brk g1 => rw [eb] at q; exact q
    | ct g1 => rw [eb] at q; exact q
    | ret v g1 => rw [eb] at q; exact q
    | bad => rw [eb] at q; exact q
    | exc e g1 =>
      rw [eb] at q
      intro F' H' own' σ' cls d s I' r
      refine ⟨cat e.c, hcat e cls d r.c, fun hyes a ha => ?_, fun hno => ?_⟩
      · have hyes' : cat e.c = true := hyes
        simp only [hyes', if_true] at q
        obtain ⟨own2, I2, st2⟩ := kill_step (ks := [i]) I'
        have I3 : GX X P F' H' (σ'.set i (some (.ref a))) (killG [i] g1) own2 := I2.resig (fun j v hj => List.getElem?_set_ne (Ne.symm (set_none hj))) (by rw [List.length_set]; exact I'.slen) fun p hp => List.getElem?_set_ne fun z => hpi (by rw [z]; exact List.mem_map_of_mem hp)
        have hi' : i < σ'.length := by
          have l : σ'.length = X.N.length := I'.slen
          omega
        have I4 : GX X (P.held i a) F' H' (σ'.set i (some (.ref a))) (killG [i] g1) own2 := ⟨I3.len, I3.slen, I3.slot, I3.emp, I3.nodup, I3.disj, I3.sep, I3.frz, fun p hp => by
          rcases List.mem_cons.mp hp with z | z
          · rw [z]; exact List.getElem?_set_self hi'
          · exact I3.pin p z⟩
        refine ⟨e, r.c, hyes, F', _, own2, I4, ?_⟩
        have back : ∀ {g4 : Env} {F4 : Fz} {H4 : Hp} {own4 : Ow} {σ4 : St}, Step F' H' own2 F4 H4 own4 → GX X (P.held i a) F4 H4 σ4 g4 own4 → ∃ own5, GX X P F4 H4 (σ4.set i none) (killG [i] g4) own5 ∧ Step F H own F4 H4 own5 := fun {g4 F4 H4 own4 σ4} s4 I4' => by
          have I4 : GX X P F4 H4 σ4 g4 own4 := ⟨I4'.len, I4'.slen, I4'.slot, I4'.emp, I4'.nodup, I4'.disj, I4'.sep, I4'.frz, fun p hp => I4'.pin p (List.mem_cons_of_mem _ hp)⟩
          obtain ⟨own5, I5, s5⟩ := kill_step (ks := [i]) I4
          exact ⟨own5, I5.resig (fun j v hj => List.getElem?_set_ne (Ne.symm (set_none hj))) (by rw [List.length_set]; exact I4.slen) fun p hp => List.getElem?_set_ne fun z => hpi (by rw [z]; exact List.mem_map_of_mem hp), (s.trans st2).trans (s4.trans s5)⟩
        cases eh : h e (killG [i] g1) with
        | nx g2 =>
          rw [eh] at q
          intro F4 H4 own4 σ4 s4 I4
          obtain ⟨own5, I5, s5⟩ := back s4 I4
          exact q F4 H4 own5 _ s5 I5
        | brk g2 =>
          rw [eh] at q
          intro F4 H4 own4 σ4 s4 I4
          obtain ⟨own5, I5, s5⟩ := back s4 I4
          exact q F4 H4 own5 _ s5 I5
        | ct g2 =>
          rw [eh] at q
          intro F4 H4 own4 σ4 s4 I4
          obtain ⟨own5, I5, s5⟩ := back s4 I4
          exact q F4 H4 own5 _ s5 I5
        | ret v g2 =>
          rw [eh] at q
          exact fun F4 H4 own4 σ4 x L s4 I4' o fr => q F4 H4 own4 σ4 x L ((s.trans st2).trans s4) ⟨I4'.len, I4'.slen, I4'.slot, I4'.emp, I4'.nodup, I4'.disj, I4'.sep, I4'.frz, fun p hp => I4'.pin p (List.mem_cons_of_mem _ hp)⟩ o (fr.elder (s.trans st2))
        | exc x g2 =>
          rw [eh] at q
          exact False.elim q
        | bad => rw [eh] at q; exact q
      · have hno' : ¬ cat e.c = true := by rw [hno]; exact Bool.false_ne_true
        simp only [if_neg hno'] at q
        exact q F' H' own' σ' cls d s I' r
end
end PL

/-! PL10: changes in place (a list in a name's slot), defs that change their first argument. -/
namespace PL
open PySem PySem.Spec PySem.Calls L2

section
variable {X : Cx} {P : Par} {σ : St} {H : Hp} {Q : VK} {ts : List Tmp} {F0 : Fz} {H0 : Hp} {own0 : Ow} {F1 : Fz} {g1 : Env} {own1 : Ow}
/-- a slot's value is taken out -/
theorem mid_take {i : Nat} {v : Val} (m : MidAt X P σ ts H F0 H0 own0 F1 g1 own1) (e : g1[i]? = some (some v)) : ∃ x own2, σ[i]? = some (some x) ∧ MidAt X P σ (⟨x, v, own1 i⟩ :: ts) H F0 H0 own0 F1 (g1.set i none) own2 := by
  obtain ⟨x, hx, o⟩ := m.g.slot i v e
  have I2 := m.g.wipe i
  have tk : ∀ t ∈ ts, ∀ a ∈ t.L, ∀ j, a ∉ own1 j := fun t ht a ha => (m.sep t ht a ha).2.1
  refine ⟨x, _, hx, I2, m.st.trans (.less fun j a ha => ?_), fun t ht => ?_, ?_, fun t ht a ha => ?_⟩
  · have ha : a ∈ (if j = i then [] else own1 j) := ha
    split at ha
    · cases ha
    · exact ha
  · rcases List.mem_cons.mp ht with rfl | ht
    · exact o
    · exact m.own t ht
  · rw [List.flatMap_cons, List.nodup_append]
    refine ⟨m.g.nodup i, m.nd, fun a ha b hb z => ?_⟩
    obtain ⟨t, ht, hb⟩ := List.mem_flatMap.mp hb
    subst z
    exact tk t ht _ hb i ha
  · rcases List.mem_cons.mp ht with rfl | ht
    · obtain ⟨h1, h2⟩ := m.g.sep i a ha
      refine ⟨h1, fun j hj => ?_, h2, m.st.own i a ha⟩
      have hj : a ∈ (if j = i then [] else own1 j) := hj
      split at hj
      · cases hj
      · rename_i hne
        exact m.g.disj j i a hne hj ha
    · obtain ⟨h1, h2, h3, h4⟩ := m.sep t ht a ha
      refine ⟨h1, fun j hj => ?_, h3, h4⟩
      have hj : a ∈ (if j = i then [] else own1 j) := hj
      split at hj
      · cases hj
      · exact h2 j hj
/-- .. and put back -/
theorem mid_back {i : Nat} {t : Tmp} (m : MidAt X P σ (t :: ts) H F0 H0 own0 F1 g1 own1) (hx : σ[i]? = some (some t.x)) : ∃ own2, MidAt X P σ ts H F0 H0 own0 F1 (g1.set i (some t.v)) own2 := by
  have hi : i < X.N.length := by
    have := (List.getElem?_eq_some_iff.mp hx).1
    have l : σ.length = X.N.length := m.g.slen
    omega
  have h0 : t ∈ t :: ts := List.mem_cons_self
  have nd := m.nd
  rw [List.flatMap_cons, List.nodup_append] at nd
  have hg : i < g1.length := by
    have l : g1.length = X.N.length := m.g.len
    omega
  have e1 : ∀ j a, a ∈ (fun j => if j = i then t.L else own1 j) j → a ∈ t.L ∨ a ∈ own1 j := fun j a ha => by
    have ha : a ∈ (if j = i then t.L else own1 j) := ha
    split at ha
    · exact .inl ha
    · exact .inr ha
  refine ⟨fun j => if j = i then t.L else own1 j, ⟨?_, ⟨m.st.fr, m.st.keep, m.st.new, fun j a ha => ?_, m.st.tr⟩, fun u hu => m.own u (List.mem_cons_of_mem _ hu), nd.2.1, fun u hu a ha => ?_⟩⟩
  · refine ⟨by rw [List.length_set]; exact m.g.len, m.g.slen, fun j u e => ?_, fun j z => ?_, fun j => ?_, fun j k a hjk h1 h2 => ?_, fun j a ha => ?_, m.g.frz, m.g.pin⟩
    · by_cases hj : j = i
      · subst hj
        rw [List.getElem?_set_self hg] at e
        cases e
        rw [if_pos rfl]
        exact ⟨t.x, hx, m.own t h0⟩
      · rw [List.getElem?_set_ne (Ne.symm hj)] at e
        rw [if_neg hj]
        exact m.g.slot j u e
    · by_cases hj : j = i
      · subst hj
        exact absurd (List.getElem?_set_self hg) (z t.v)
      · rw [if_neg hj]
        exact m.g.emp j fun w e => z w (by rw [List.getElem?_set_ne (Ne.symm hj)]; exact e)
    · show (if j = i then t.L else own1 j).Nodup
      split
      · exact nd.1
      · exact m.g.nodup j
    · have h1 : a ∈ (if j = i then t.L else own1 j) := h1
      have h2 : a ∈ (if k = i then t.L else own1 k) := h2
      split at h1
      · split at h2
        · rename_i e1 e2; exact hjk (e1.trans e2.symm)
        · exact (m.sep t h0 a h1).2.1 k h2
      · split at h2
        · exact (m.sep t h0 a h2).2.1 j h1
        · exact m.g.disj j k a hjk h1 h2
    · rcases e1 j a ha with ha | ha
      · obtain ⟨h1, _, h3, _⟩ := m.sep t h0 a ha
        exact ⟨h1, h3⟩
      · exact m.g.sep j a ha
  · rcases e1 j a ha with ha | ha
    · exact (m.sep t h0 a ha).2.2.2
    · exact m.st.own j a ha
  · obtain ⟨h1, h2, h3, h4⟩ := m.sep u (List.mem_cons_of_mem _ hu) a ha
    refine ⟨h1, fun j hj => ?_, h3, h4⟩
    rcases e1 j a hj with hj | hj
    · exact nd.2.2 a hj a (List.mem_flatMap.mpr ⟨u, hu, ha⟩) rfl
    · exact h2 j hj
theorem set_none_some {g : Env} {i : Nat} {v : Val} : (g.set i none).set i (some v) = g.set i (some v) := List.set_set ..
/-- the temporaries in another order -/
theorem mid_swap {t u : Tmp} (m : MidAt X P σ (t :: u :: ts) H F0 H0 own0 F1 g1 own1) : MidAt X P σ (u :: t :: ts) H F0 H0 own0 F1 g1 own1 := by
  have nd := m.nd
  rw [List.flatMap_cons, List.flatMap_cons, List.nodup_append, List.nodup_append] at nd
  have sw : ∀ z, z ∈ u :: t :: ts → z ∈ t :: u :: ts := fun z hz => by
    rcases List.mem_cons.mp hz with rfl | hz
    · exact List.mem_cons_of_mem _ List.mem_cons_self
    · rcases List.mem_cons.mp hz with rfl | hz
      · exact List.mem_cons_self
      · exact List.mem_cons_of_mem _ (List.mem_cons_of_mem _ hz)
  refine ⟨m.g, m.st, fun z hz => m.own z (sw z hz), ?_, fun z hz => m.sep z (sw z hz)⟩
  obtain ⟨n1, ⟨n2, n3, n4⟩, n5⟩ := nd
  rw [List.flatMap_cons, List.flatMap_cons, List.nodup_append, List.nodup_append]
  refine ⟨n2, ⟨n1, n3, fun a ha b hb => n5 a ha b (List.mem_append_right _ hb)⟩, fun a ha b hb => ?_⟩
  rcases List.mem_append.mp hb with hb | hb
  · exact fun z => n5 b hb a (List.mem_append_left _ ha) z.symm
  · exact n4 a ha b hb
/-- a slot's list, one level own -/
theorem take_lst {x : V} {ds : List PL.D} {L : List Addr} {c : Cn} {F : Fz} (o : Own c H F 1 x (.lst ds) L) : ∃ a vs, x = .ref a ∧ H a = some (.lst vs) ∧ RpA c H F vs ds ∧ L = [a] := by
  cases o with
  | frz z r =>
    rcases z with z | z
    · cases z
    · cases z
  | @lst _ a vs _ L1 e r =>
    obtain ⟨r1, r2⟩ := r.zero
    exact ⟨a, vs, rfl, e, r1, by rw [r2]⟩
/-- a write at a slot's list -/
theorem mid_wrSlot {i : Nat} {ds ds' : List PL.D} {vs vs' : List V} {a : Addr} (m : MidAt X P σ ts H F0 H0 own0 F1 g1 own1) (e : g1[i]? = some (some ⟨.lst ds, 1⟩)) (hx : σ[i]? = some (some (.ref a))) (ha : H a = some (.lst vs))
    (r : RpA (cn X P) H F1 vs' ds') : ∃ own2, MidAt X P σ ts (upd H a (.lst vs')) F0 H0 own0 F1 (g1.set i (some ⟨.lst ds', 1⟩)) own2 := by
  obtain ⟨x, own2, hx2, m2⟩ := mid_take m e
  rw [hx] at hx2
  cases hx2
  have o := m2.own _ List.mem_cons_self
  obtain ⟨a', vs0, ea, e0, _, eL⟩ := take_lst o
  cases ea
  have hL : a ∈ own1 i := by
    have : own1 i = [a] := eL
    rw [this]; exact List.mem_singleton.mpr rfl
  obtain ⟨nf, no, _, yg⟩ := m2.sep _ List.mem_cons_self a hL
  have m3 := mid_wr (sh := .lst vs') m2 hL
  have kp : Keep (c := cn X P) F1 F1 H (upd H a (shO a (.lst vs'))) := wr_keep (sh := .lst vs0) e0 nf
  have m4 : MidAt X P σ (⟨.ref a, ⟨.lst ds', 1⟩, [a]⟩ :: ts) (upd H a (.lst vs')) F0 H0 own0 F1 (g1.set i none) own2 := by
    refine ⟨m3.g, m3.st, fun t ht => ?_, ?_, fun t ht b hb => ?_⟩
    · rcases List.mem_cons.mp ht with rfl | ht
      · exact .lst upd_same (.of (r.keep kp))
      · exact m3.own t ht
    · have q := m2.nd
      rw [List.flatMap_cons] at q ⊢
      have eL : own1 i = [a] := eL
      simp only [eL] at q
      exact q
    · rcases List.mem_cons.mp ht with rfl | ht
      · have e : b = a := by simpa using hb
        subst e
        exact ⟨nf, no, ⟨.lst vs', upd_same⟩, yg⟩
      · exact m3.sep t ht b hb
  obtain ⟨own3, m5⟩ := mid_back (i := i) m4 hx
  rw [set_none_some] at m5
  exact ⟨own3, m5⟩
/-- where a slot's list lies -/
theorem slot_lst {i : Nat} {ds : List PL.D} (m : MidAt X P σ ts H F0 H0 own0 F1 g1 own1) (e : g1[i]? = some (some ⟨.lst ds, 1⟩)) : ∃ a vs, σ[i]? = some (some (.ref a)) ∧ H a = some (.lst vs) ∧ RpA (cn X P) H F1 vs ds := by
  obtain ⟨x, hx, o⟩ := m.g.slot i _ e
  obtain ⟨a, vs, ea, h, r, _⟩ := take_lst o
  subst ea
  exact ⟨a, vs, hx, h, r⟩

/-! ### x.append(e), x.pop(), x.pop(k) -/
/-- a method that changes the list in slot i: its arguments first, then what it gives and leaves -/
def eMut (i : Nat) (fs : List Ex) (op : List PL.D → List PL.D → Option (PL.D × List PL.D)) : Ex := fun g => match g[i]? with
  | some (some ⟨.lst _, 1⟩) => goE fs (fun as g1 => match g1[i]? with
    | some (some ⟨.lst ds, 1⟩) => match op ds as with
      | some (r, ds') => .ok ⟨r, 0⟩ (g1.set i (some ⟨.lst ds', 1⟩))
      | none => .bad
    | _ => .bad) g
  | _ => .bad
/-- the rule by values of such a method -/
def rMut (c : Cn) (op : List PL.D → List PL.D → Option (PL.D × List PL.D)) : V → List V → Hp → VK → Prop := fun x as H Q => ∃ F a vs ds es r ds', x = .ref a ∧ H a = some (.lst vs) ∧ ¬ F a ∧ RpA c H F vs ds ∧ RpA c H F as es ∧ op ds es = some (r, ds') ∧
  ∀ z vs', Rp c H F z r → RpA c H F vs' ds' → Q z (upd H a (.lst vs'))
theorem core_mut {i : Nat} {fs : List Ex} {op : List PL.D → List PL.D → Option (PL.D × List PL.D)} (q : tE X P (eMut i fs op) σ H Q) :
    tVar i σ H fun x H1 => tyV X.K "list" x H1 ∧ tEs X P fs σ H1 fun as H2 => rMut (cn X P) op x as H2 Q := by
  obtain ⟨F0, H0, own0, F1, g1, own1, m, q⟩ := mid_of q
  have q : PostK X P F0 H0 own0 σ (End X P F0 H0 own0 σ Q) (eMut i fs op g1) := q
  unfold eMut at q
  split at q
  · rename_i ds0 h0
    obtain ⟨a, vs, hx, ha, _⟩ := slot_lst m h0
    refine ⟨.ref a, hx, .inl ⟨rfl, vs, .of ha⟩, ?_⟩
    have mm : Mid X P σ ([] : List Tmp) (fun F0 H0 own0 g => PostK X P F0 H0 own0 σ (End X P F0 H0 own0 σ Q) (goE fs (fun as g1 => match g1[i]? with
      | some (some ⟨.lst ds, 1⟩) => match op ds as with
        | some (r, ds') => .ok ⟨r, 0⟩ (g1.set i (some ⟨.lst ds', 1⟩))
        | none => .bad
      | _ => .bad) g)) H := ⟨F0, H0, own0, F1, g1, own1, m, q⟩
    refine tEs_mono (mid_exs mm) fun as H2 ⟨ts2, es, rc, _, _, F0, H0, own0, F1, g1, own1, m, q⟩ => ?_
    simp only at q
    split at q
    · rename_i ds h1
      obtain ⟨a', vs2, hx2, ha2, r2⟩ := slot_lst m h1
      rw [hx] at hx2
      cases hx2
      split at q
      · rename_i r ds' hop
        obtain ⟨x', hx', o'⟩ := m.g.slot i _ h1
        have nf : ¬ F1 a := by
          rw [hx] at hx'
          cases hx'
          obtain ⟨a2, _, e2, _, _, eL⟩ := take_lst o'
          cases e2
          exact (m.g.sep i a (by rw [eL]; exact List.mem_singleton.mpr rfl)).1
        refine ⟨F1, a, vs2, ds, es, r, ds', rfl, ha2, nf, r2, rc.rp m, hop, fun z vs' rz rv => ?_⟩
        obtain ⟨own2, m2⟩ := mid_wrSlot m h1 hx ha2 rv
        have kp : Keep (c := cn X P) F1 F1 H2 (upd H2 a (shO a (.lst vs'))) := wr_keep (sh := .lst vs2) ha2 nf
        exact q F1 _ own2 z [] m2.st m2.g (.of (rz.keep kp)) ⟨List.nodup_nil, fun _ h => nomatch h⟩
      · exact False.elim q
    · exact False.elim q
  · exact False.elim q
variable {x name : Str} {pos apos cpos : Pos} {e : Expr} {es : List Expr} {fs : List Ex} {id : String} {op : List PL.D → List PL.D → Option (PL.D × List PL.D)} {i : Nat}
theorem s_mut (slot : Slot "list" name id) (hty : typeOf (.builtin id) = pure (.type "method_descriptor")) (hm : MtR X id (rMut (cn X P) op)) (hN : X.N[i]? = some x) (hv : Vis X.env.scope x) (ha : SL X P (e :: es) fs)
    (hd : (x == ("__debug__" : Str)) = false := by decide) (hcd : (x == ("__classdict__" : Str)) = false := by decide)
    (hbase : attributeBase (.Name x pos) name X.env (eval (.Name x pos) X.env) = eval (.Name x pos) X.env := by rfl)
    (hfew : ((backTo cpos (starEach (e :: es) X.env)).all (fun x => !x.1) && (backToKw cpos (keywordEach [] X.env)).all (fun x => x.1.isSome)
      && decide ((e :: es).length + ([] : List Keyword).length + (if ([] : List Keyword).isEmpty then 0 else 1) < 30)) = true := by rfl)
    (hline : (apos.endLine == cpos.line) = true := by rfl) (hs : starEach (e :: es) X.env = (false, eval e X.env) :: starEach es X.env := by rfl) (hplain : (backTo cpos (starEach es X.env)).any (·.1) = false := by rfl) :
    SE X P (.Call (.Attribute (.Name x pos) name apos) (e :: es) [] cpos) (eMut i fs op) :=
  ⟨pe_imp (pe_bm PySem.F.plainAttrs_list slot hty hm (pe_var hN hv hd hcd) ha.pa hbase hfew hline hs hplain) fun σ H Q q => core_mut q⟩
theorem s_mut0 (slot : Slot "list" name id) (hty : typeOf (.builtin id) = pure (.type "method_descriptor")) (hm : MtR X id (rMut (cn X P) op)) (hN : X.N[i]? = some x) (hv : Vis X.env.scope x)
    (hd : (x == ("__debug__" : Str)) = false := by decide) (hcd : (x == ("__classdict__" : Str)) = false := by decide)
    (hbase : attributeBase (.Name x pos) name X.env (eval (.Name x pos) X.env) = eval (.Name x pos) X.env := by rfl) (hline : (apos.endLine == cpos.line) = true := by rfl) :
    SE X P (.Call (.Attribute (.Name x pos) name apos) [] [] cpos) (eMut i [] op) :=
  ⟨pe_imp (pe_bm0 PySem.F.plainAttrs_list slot hty hm (pe_var hN hv hd hcd) hbase hline) fun σ H Q q => core_mut q⟩
def opApp (ds as : List PL.D) : Option (PL.D × List PL.D) := match as with
  | [d] => if ds.length < big then some (.non, ds ++ [d]) else none
  | _ => none
theorem m_append : MtR X "list.append" (rMut (cn X P) opApp) := by
  intro pins s σ H x as v us Q I rx ra h
  refine mt_append pins s σ H x as v us Q I rx ra ?_
  obtain ⟨F, a, vs, ds, es, r, ds', rfl, ha, _, rv, re, hop, q⟩ := h
  unfold opApp at hop
  split at hop
  · rename_i d
    split at hop
    · rename_i hl
      cases hop
      cases re with
      | cons h1 h2 =>
        cases h2
        rename_i y
        refine ⟨a, vs, y, rfl, rfl, ha, by rw [rv.length, ← big_line]; exact hl, q _ _ .non (rv.append (.cons h1 .nil))⟩
    · cases hop
  · cases hop
def opPop (ds as : List PL.D) : Option (PL.D × List PL.D) := match as with
  | [] => match ds.getLast? with
    | some d => some (d, ds.dropLast)
    | none => none
  | _ => none
theorem RpA.dropLast {c : Cn} {F : Fz} : ∀ {vs : List V} {ds : List PL.D}, RpA c H F vs ds → RpA c H F vs.dropLast ds.dropLast
  | _, _, .nil => .nil
  | _, _, .cons h .nil => .nil
  | _, _, .cons h (.cons h2 r) => by
    have := RpA.dropLast (.cons h2 r)
    exact .cons h this
theorem m_pop : MtR X "list.pop" (rMut (cn X P) opPop) := by
  intro pins s σ H x as v us Q I rx ra h
  refine mt_pop pins s σ H x as v us Q I rx ra ?_
  obtain ⟨F, a, vs, ds, es, r, ds', rfl, ha, _, rv, re, hop, q⟩ := h
  unfold opPop at hop
  split at hop
  · cases re
    split at hop
    · rename_i d hd
      cases hop
      rw [List.getLast?_eq_getElem?] at hd
      obtain ⟨y, hy, ry⟩ := rv.get' hd
      exact ⟨a, vs, y, rfl, rfl, ha, by rw [rv.length]; exact hy, q _ _ ry rv.dropLast⟩
    · cases hop
  · cases hop
end
end PL

/-! PL11: x[k] = e; defs that change their first argument, and their calls. -/
namespace PL
open PySem PySem.Spec PySem.Calls L2

section
variable {X : Cx} {P : Par} {σ : St} {H : Hp} {Q : VK} {D : Ends}
/-- an expression within a statement -/
theorem mid_evalS {ts : List Tmp} {fe : Ex} {k : Val → Env → SOut} (h : Mid X P σ ts (fun F0 H0 own0 g => PostS X P F0 H0 own0 D (bindE (fe g) k)) H) :
    tE X P fe σ H fun x H1 => ∃ v L, Mid X P σ (⟨x, v, L⟩ :: ts) (fun F0 H0 own0 g => PostS X P F0 H0 own0 D (k v g)) H1 := by
  refine mid_eval (k := fun F0 H0 own0 v g => PostS X P F0 H0 own0 D (k v g)) (mid_imp h fun F0 H0 own0 g q => ?_)
  have q : PostS X P F0 H0 own0 D (bindE (fe g) k) := q
  show PostK X P F0 H0 own0 σ (fun v g => PostS X P F0 H0 own0 D (k v g)) (fe g)
  cases e : fe g with
  | ok v g1 => rw [e] at q; exact q
  | exc x g1 => rw [e] at q; exact fun F' H' own' cls d s I' r => q F' H' own' σ cls d s I' r
  | bad => rw [e] at q; exact q
theorem RpA.set {c : Cn} {F : Fz} {v : V} {d : PL.D} (h : Rp c H F v d) : ∀ {vs : List V} {ds : List PL.D} (i : Nat), RpA c H F vs ds → RpA c H F (vs.set i v) (ds.set i d)
  | _, _, _, .nil => .nil
  | _, _, 0, .cons _ r => .cons h r
  | _, _, i + 1, .cons a r => .cons a (RpA.set h i r)
def setL (ds : List PL.D) (k v : PL.D) : Option (List PL.D) := match k with
  | .int z => (ixN ds.length z).map fun j => ds.set j v
  | _ => none
def sSetI (i : Nat) (fk fv : Ex) : Sx := fun g => bindE (fv g) fun v g1 => match g1[i]? with
  | some (some ⟨.lst _, 1⟩) => bindE (fk g1) fun k g2 => match g2[i]? with
    | some (some ⟨.lst ds, 1⟩) => match setL ds k.d v.d with
      | some ds' => .nx (g2.set i (some ⟨.lst ds', 1⟩))
      | none => .bad
    | _ => .bad
  | _ => .bad
theorem core_setI {i : Nat} {fk fv : Ex} (q : tS X P (sSetI i fk fv) D σ H) : tE X P fv σ H fun x H1 => tVar i σ H1 fun o H2 => tE X P fk σ H2 fun k H3 => rSetL o k x H3 (D.nx σ) := by
  refine tE_mono (mid_ofS q) fun x H1 ⟨v, L, m⟩ => ?_
  obtain ⟨F0, H0, own0, F1, g1, own1, m, q⟩ := mid_freeze m
  split at q
  · rename_i ds0 h0
    obtain ⟨a, vs, hx, ha, _⟩ := slot_lst m h0
    refine ⟨.ref a, hx, ?_⟩
    have mm : Mid X P σ [⟨x, ⟨v.d, 0⟩, []⟩] (fun F0 H0 own0 g => PostS X P F0 H0 own0 D (bindE (fk g) fun k g2 => match g2[i]? with
      | some (some ⟨.lst ds, 1⟩) => match setL ds k.d v.d with
        | some ds' => .nx (g2.set i (some ⟨.lst ds', 1⟩))
        | none => .bad
      | _ => .bad)) H1 := ⟨F0, H0, own0, F1, g1, own1, m, q⟩
    refine tE_mono (mid_evalS mm) fun k H2 ⟨kv, L2, m2⟩ => ?_
    obtain ⟨F0, H0, own0, F1, g1, own1, m, q⟩ := mid_freeze m2
    split at q
    · rename_i ds h1
      obtain ⟨a', vs2, hx2, ha2, r2⟩ := slot_lst m h1
      rw [hx] at hx2
      cases hx2
      split at q
      · rename_i ds' hop
        unfold setL at hop
        have rk := (m.own _ List.mem_cons_self).zero.1
        have rv := (m.own _ (List.mem_cons_of_mem _ List.mem_cons_self)).zero.1
        simp only at rk rv
        split at hop
        · rename_i z hz
          rw [hz] at rk
          cases rk
          cases hj : ixN ds.length z with
          | none => rw [hj] at hop; cases hop
          | some j =>
            rw [hj] at hop
            cases hop
            refine ⟨a, vs2, z, j, rfl, rfl, ha2, by rw [r2.length]; exact hj, ?_⟩
            obtain ⟨own2, m2⟩ := mid_wrSlot m h1 hx ha2 (RpA.set rv j r2)
            exact q F1 _ own2 σ m2.st m2.g
        · cases hop
      · exact False.elim q
    · exact False.elim q
  · exact False.elim q
variable {x : Str} {pos pos2 pos' : Pos} {ek ev e : Expr} {fk fv : Ex} {i : Nat} {es : List Expr} {fs : List Ex}
theorem s_setI (hN : X.N[i]? = some x) (hv : Vis X.env.scope x) (hk : SE X P ek fk) (he : SE X P ev fv) (hd : (x == ("__debug__" : Str)) = false := by decide) (hcd : (x == ("__classdict__" : Str)) = false := by decide)
    (hs : swapsWithSole [.Subscript (.Name x pos) ek pos'] ev pos2.line X.env = pure false := by rfl) (hw : swappedStores [.Subscript (.Name x pos) ek pos'] ev X.env = pure none := by rfl)
    (h1 : (assignEach [.Subscript (.Name x pos) ek pos'] X.env).map (·.2) = [assign (.Subscript (.Name x pos) ek pos') X.env] := by rfl)
    (ha : ∀ v, assign (.Subscript (.Name x pos) ek pos') X.env v = (do
      let ov ← holding [v] (eval (.Name x pos) X.env)
      let iv ← holding [v, ov] (eval ek X.env)
      standAt pos'
      holding [v, ov, iv] (setItem ov iv v)
      release [v, ov, iv] []) := by intro _; rfl) : SS X P (.Assign [.Subscript (.Name x pos) ek pos'] ev pos2) (sSetI i fk fv) :=
  ⟨ps_imp (ps_asg he.pe (pg_sub (pe_var hN hv hd hcd) hk.pe set_list ha) hs hw h1) fun D σ H q => core_setI q⟩
end

/-! ### a def that changes its first argument -/
inductive FIO where
  | ok (v io : Val) | exc (x : Exc) | bad
structure LeftIO (F : Fz) (H : Hp) (L0 : List Addr) (F' : Fz) (H' : Hp) : Prop where
  fr : ∀ a, F a → F' a
  keep : ∀ a o, H a = some o → a ∉ L0 → H' a = some o
  new : ∀ a, F' a → F a ∨ a ∈ L0 ∨ H a = none
  trk : Trk F' H'
  tr : ∀ a o, H a = some o → ∃ o', H' a = some o'
def spIO (c : Cn) (cls : Nat → Option Addr) (m : Nat) (f : Val → List PL.D → FIO) : Sp := fun vs H Q E => ∃ F x0 io L0 rest ds, vs = x0 :: rest ∧ ds.length = m ∧ Trk F H ∧ Own c H F io.o x0 io.d L0 ∧ L0.Nodup ∧ (∀ a ∈ L0, ¬ F a ∧ ∃ sh, H a = some (shO a sh)) ∧ RpA c H F rest ds ∧ match f io ds with
  | .ok v io' => ∀ F' H' x L L', LeftIO F H L0 F' H' → Own c H' F' io'.o x0 io'.d L' → Own c H' F' v.o x v.d L → (L' ++ L).Nodup → (∀ a ∈ L' ++ L, ¬ F' a ∧ (a ∈ L0 ∨ H a = none) ∧ ∃ sh, H' a = some (shO a sh)) → Q x H'
  | .exc x => ∀ F' H' k d, LeftIO F H L0 F' H' → ExR cls x k d H' → E k d H'
  | .bad => False
def eCallIO (f : Val → List PL.D → FIO) (i : Nat) (fs : List Ex) : Ex := fun g => match g[i]? with
  | some (some _) => goE fs (fun ds g1 => match g1[i]? with
    | some (some io) => match f io ds with
      | .ok v io' => .ok v (g1.set i (some io'))
      | .exc x => .exc x (g1.set i none)
      | .bad => .bad
    | _ => .bad) g
  | _ => .bad
section
variable {X : Cx} {P : Par} {σ : St} {H : Hp} {Q : VK}
theorem core_callIO {f : Val → List PL.D → FIO} {i m : Nat} {fs : List Ex} (q : tE X P (eCallIO f i fs) σ H Q) (hm : fs.length = m) :
    tVar i σ H fun x0 H1 => tEs X P fs σ H1 fun xs H2 => spIO (cn X P) P.cls m f (x0 :: xs) H2 Q (WE P.W σ) := by
  obtain ⟨F0, H0, own0, F1, g1, own1, m0, q⟩ := mid_of q
  have q : PostK X P F0 H0 own0 σ (End X P F0 H0 own0 σ Q) (eCallIO f i fs g1) := q
  unfold eCallIO at q
  split at q
  · rename_i v0 h0
    obtain ⟨x0, hx, _⟩ := m0.g.slot i v0 h0
    refine ⟨x0, hx, ?_⟩
    have mm : Mid X P σ ([] : List Tmp) (fun F0 H0 own0 g => PostK X P F0 H0 own0 σ (End X P F0 H0 own0 σ Q) (goE fs (fun ds g1 => match g1[i]? with
      | some (some io) => match f io ds with
        | .ok v io' => .ok v (g1.set i (some io'))
        | .exc x => .exc x (g1.set i none)
        | .bad => .bad
      | _ => .bad) g)) H := ⟨F0, H0, own0, F1, g1, own1, m0, q⟩
    refine tEs_mono (mid_exs mm) fun xs H2 ⟨ts2, ds, rc, _, hd, F0, H0, own0, F1, g1, own1, m, q⟩ => ?_
    simp only at q
    split at q
    · rename_i io hio
      obtain ⟨x1, hx1, oio⟩ := m.g.slot i io hio
      rw [hx] at hx1
      cases hx1
      refine ⟨F1, x0, io, own1 i, xs, ds, rfl, by rw [hd, hm], m.g.frz, oio, m.g.nodup i, fun a ha => m.g.sep i a ha, rc.rp m, ?_⟩
      -- the state behind, slot i out
      have I2 := m.g.wipe i
      have after : ∀ {F' : Fz} {H' : Hp}, LeftIO F1 H2 (own1 i) F' H' → Step F1 H2 own1 F' H' (fun j => if j = i then [] else own1 j) ∧ GX X P F' H' σ (g1.set i none) (fun j => if j = i then [] else own1 j) := fun {F' H'} l => by
        have no : ∀ j a, a ∈ (if j = i then [] else own1 j) → a ∈ own1 j ∧ a ∉ own1 i := fun j a ha => by
          split at ha
          · cases ha
          · rename_i hne; exact ⟨ha, fun z => m.g.disj j i a hne ha z⟩
        have st : Step F1 H2 own1 F' H' (fun j => if j = i then [] else own1 j) := ⟨l.fr, fun a o h n => l.keep a o h (n i), fun a h => (l.new a h).elim .inl fun z => z.elim (fun z => .inr (.inl ⟨i, z⟩)) fun z => .inr (.inr z), fun j a ha => .inl ⟨j, (no j a ha).1⟩, l.tr⟩
        refine ⟨st, ?_⟩
        have kp := st.keeps m.g
        refine ⟨I2.len, I2.slen, fun j u e => ?_, I2.emp, I2.nodup, I2.disj, fun j a ha => ?_, l.trk, I2.pin⟩
        · obtain ⟨x, h1, o⟩ := I2.slot j u e
          exact ⟨x, h1, o.keep kp fun a ha ob e => l.keep a ob e (no j a ha).2⟩
        · obtain ⟨h1, sh, h2⟩ := I2.sep j a ha
          refine ⟨fun z => ?_, sh, l.keep a _ h2 (no j a ha).2⟩
          rcases l.new a z with z | z | z
          · exact h1 z
          · exact (no j a ha).2 z
          · rw [h2] at z; cases z
      cases ef : f io ds with
      | bad => rw [ef] at q; exact q
      | exc x =>
        rw [ef] at q
        intro F' H' k d l r
        obtain ⟨st, I'⟩ := after l
        exact q F' H' _ k d (m.st.trans st) I' r
      | ok v io' =>
        rw [ef] at q
        intro F' H' x L L' l o' o nd sep
        obtain ⟨st, I'⟩ := after l
        have m2 := mid_step m st I'
        have ap : ∀ a ∈ L' ++ L, ∀ j, a ∉ (fun j => if j = i then [] else own1 j) j := fun a ha j hj => by
          have hj : a ∈ (if j = i then [] else own1 j) := hj
          split at hj
          · cases hj
          · rename_i hne
            rcases (sep a ha).2.1 with z | z
            · exact m.g.disj j i a hne hj z
            · obtain ⟨_, sh, e⟩ := m.g.sep j a hj
              rw [z] at e; cases e
        have yg : ∀ a ∈ L' ++ L, (∃ j, a ∈ own0 j) ∨ H0 a = none := fun a ha => young m.st ((sep a ha).2.1.elim (fun z => .inl ⟨i, z⟩) .inr)
        have nd' := nd
        rw [List.nodup_append] at nd'
        have m3 : MidAt X P σ [⟨x0, io', L'⟩, ⟨x, v, L⟩] H' F0 H0 own0 F' (g1.set i none) (fun j => if j = i then [] else own1 j) := by
          refine ⟨I', m2.st, fun t ht => ?_, by simpa using nd, fun t ht a ha => ?_⟩
          · rcases List.mem_cons.mp ht with rfl | ht
            · exact o'
            · rw [List.mem_singleton.mp ht]; exact o
          · rcases List.mem_cons.mp ht with rfl | ht
            · have ha' := List.mem_append_left L ha
              exact ⟨(sep a ha').1, ap a ha', (sep a ha').2.2, yg a ha'⟩
            · rw [List.mem_singleton.mp ht] at ha
              have ha' := List.mem_append_right L' ha
              exact ⟨(sep a ha').1, ap a ha', (sep a ha').2.2, yg a ha'⟩
        obtain ⟨own3, m4⟩ := mid_back (i := i) m3 hx
        rw [set_none_some] at m4
        have h0 := List.mem_singleton.mpr (rfl : (⟨x, v, L⟩ : Tmp) = _)
        exact q F' H' own3 x L m4.st m4.g (m4.own _ h0) ⟨by have := m4.nd; simpa using this, m4.sep _ h0⟩
    · exact False.elim q
  · exact False.elim q
variable {x y : Str} {p p2 pos : Pos} {es : List Expr} {fs : List Ex} {i k m : Nat} {f : Addr} {fd : FuncData} {ps : List Str} {F : Val → List PL.D → FIO}
theorem s_callIO (Fk : FnOk X.prog X.w X.K X.mg X.base (L2.CX X.prog X.w) k f fd ps (spIO (cn X P) P.cls m F)) (hr : Room k X.A) (tk : Takes X P.W) (hg : Gl X x) (hm : X.mg x = some (.ref f)) (hk : PySem.W.keepIn X.K (.ref f) = true) (hb : Binds X.K fd ps [])
    (hN : X.N[i]? = some y) (hv : Vis X.env.scope y) (ha : SL X P es fs) (hl : fs.length = m := by rfl) (hd : (y == ("__debug__" : Str)) = false := by decide) (hcd : (y == ("__classdict__" : Str)) = false := by decide) (hdb : (x == ("__debug__" : Str)) = false := by decide)
    (hst : starEach (.Name y p2 :: es) X.env = (false, eval (.Name y p2) X.env) :: starEach es X.env := by rfl) (hpl : (backTo pos (starEach es X.env)).any (·.1) = false := by rfl) : SE X P (.Call (.Name x p) (.Name y p2 :: es) [] pos) (eCallIO F i fs) :=
  ⟨pe_imp (pe_callS Fk hr hg hm hk hb (fun σ => passAt tk σ) (pa_cons (pe_var hN hv hd hcd) ha.pa hst) hdb hst hpl) fun σ H Q q => core_callIO q hl⟩
end
def fnIO (n m : Nat) (b : Sx) (io : Val) (ds : List PL.D) : FIO := if ds.length = m then (match b (some io :: (ds.map (fun d => some ⟨d, 0⟩) ++ List.replicate (n - (m + 1)) none)) with
  | .ret v g => match g[0]? with
    | some (some io') => .ok v io'
    | _ => .bad
  | .nx g => match g[0]? with
    | some (some io') => .ok ⟨.non, 0⟩ io'
    | _ => .bad
  | .exc x _ => .exc x
  | _ => .bad) else .bad
theorem G.beginIO {c : Cn} {N : List Str} {F : Fz} {H : Hp} {x0 : V} {io : Val} {L0 : List Addr} {vs : List V} {ds : List PL.D} (o : Own c H F io.o x0 io.d L0) (nd : L0.Nodup) (sep : ∀ a ∈ L0, ¬ F a ∧ ∃ sh, H a = some (shO a sh)) (r : RpA c H F vs ds) (tr : Trk F H) (hn : ds.length + 1 ≤ N.length) :
    G c N.length [(0, x0)] F H (L2.start N (x0 :: vs)) (some io :: (ds.map (fun d => some ⟨d, 0⟩) ++ List.replicate (N.length - (ds.length + 1)) none)) (fun i => if i = 0 then L0 else []) := by
  have hl := r.length
  refine ⟨by simp; omega, by unfold L2.start; simp; omega, fun i v e => ?_, fun i h => ?_, fun i => ?_, fun i j a hij h1 h2 => ?_, fun i a ha => ?_, tr, fun p hp => ?_⟩
  · cases i with
    | zero =>
      simp at e
      subst e
      exact ⟨x0, by unfold L2.start; simp, o⟩
    | succ i =>
      simp only [List.getElem?_cons_succ] at e
      rw [if_neg (Nat.succ_ne_zero i)]
      by_cases hi : i < ds.length
      · rw [List.getElem?_append_left (by simpa using hi), List.getElem?_map] at e
        cases ed : ds[i]? with
        | none => rw [ed] at e; cases e
        | some d =>
          rw [ed] at e
          have e : v = ⟨d, 0⟩ := by
            have := Option.some.inj (Option.some.inj e)
            exact this.symm
          subst e
          obtain ⟨x, hx, rx⟩ := r.get' ed
          refine ⟨x, ?_, .of rx⟩
          unfold L2.start
          rw [List.map_cons, List.cons_append, List.getElem?_cons_succ, List.getElem?_append_left (by simp; omega), List.getElem?_map, hx]
          rfl
      · rw [List.getElem?_append_right (by simpa using hi), List.getElem?_replicate] at e
        split at e <;> cases e
  · cases i with
    | zero => exact absurd (by simp) (h io)
    | succ i => simp
  · show (if i = 0 then L0 else []).Nodup
    split
    · exact nd
    · exact List.nodup_nil
  · have h1 : a ∈ (if i = 0 then L0 else []) := h1
    have h2 : a ∈ (if j = 0 then L0 else []) := h2
    split at h1
    · split at h2
      · rename_i e1 e2; exact hij (e1.trans e2.symm)
      · cases h2
    · cases h1
  · have ha : a ∈ (if i = 0 then L0 else []) := ha
    split at ha
    · exact sep a ha
    · cases ha
  · rw [List.mem_singleton.mp hp]
    unfold L2.start
    simp
section
variable {P : Program} {w : World} {K : PySem.W.Frag} {mg : Str → Option Value} {base : Heap} {x qual : Str} {params : Arguments} {body : List Stmt} {scope : Scope} {f : Addr} {fd : FuncData} {N ps : List Str} {k m : Nat} {b : Sx}
theorem fn_okIO (Fd : FunD K x qual params body scope [] [] f fd) (S : FnScope N ps scope) (fns : Fns) (cls : Nat → Option Addr) (hm : ps.length = m + 1) (hN : ps.length ≤ N.length)
    (hb : ∀ (cdv : Value) (A : Around) (outer : List PySem.Env) (s : Shared) (H : Hp) (E : XK) (x0 : V), Room k (A.deeper (PyProof.Rows.envOfC qual scope s.heap.objs.size f cdv)) →
      SB (cxOf (L2.CX P w) P w K mg base N qual scope f cdv A outer s H E) { parE fns cls E with pz := [(0, x0)] } body b) :
    FnOk P w K mg base (L2.CX P w) (k + 1) f fd ps (spIO ⟨K, w, fns⟩ cls m (fnIO N.length m b)) := by
  refine Fd.ok S (fun vs H Q E h => ?_) fun cdv A outer s H vs Q E hr h => ?_
  · obtain ⟨F, x0, io, L0, rest, ds, rfl, hl, _, _, _, _, r, _⟩ := h
    rw [List.length_cons, r.length, hl, hm]
  · obtain ⟨F, x0, io, L0, rest, ds, rfl, hl, tr, o, nd, sep, r, q⟩ := h
    refine ⟨_, (hb cdv A outer s H E x0 hr).ps, ?_⟩
    have I := G.beginIO (N := N) o nd sep r tr (by omega)
    refine ⟨F, _, _, I, ?_⟩
    unfold fnIO at q
    rw [if_pos hl, ← hl] at q
    have lf : ∀ {F' : Fz} {H' : Hp} {own' : Ow} {σ' : St} {g' : Env}, Step F H (fun i => if i = 0 then L0 else []) F' H' own' → G ⟨K, w, fns⟩ N.length [(0, x0)] F' H' σ' g' own' → LeftIO F H L0 F' H' := fun s I => ⟨s.fr, (fun a o h n => s.keep a o h (fun i hi => by
      have hi : a ∈ (if i = 0 then L0 else []) := hi
      split at hi
      · exact n hi
      · cases hi)), (fun a h => by
        rcases s.new a h with z | ⟨i, z⟩ | z
        · exact .inl z
        · have z : a ∈ (if i = 0 then L0 else []) := z
          split at z
          · exact .inr (.inl z)
          · cases z
        · exact .inr (.inr z)), I.frz, s.tr⟩
    have old : ∀ {a : Addr}, ((∃ i, a ∈ (fun i => if i = 0 then L0 else []) i) ∨ H a = none) → a ∈ L0 ∨ H a = none := fun {a} h => by
      rcases h with ⟨i, z⟩ | z
      · have z : a ∈ (if i = 0 then L0 else []) := z
        split at z
        · exact .inl z
        · cases z
      · exact .inr z
    have fin : ∀ {v : Val} {g : Env}, (match (match g[0]? with
        | some (some io') => FIO.ok v io'
        | _ => .bad) with
      | .ok v io' => ∀ F' H' x L L', LeftIO F H L0 F' H' → Own ⟨K, w, fns⟩ H' F' io'.o x0 io'.d L' → Own ⟨K, w, fns⟩ H' F' v.o x v.d L → (L' ++ L).Nodup → (∀ a ∈ L' ++ L, ¬ F' a ∧ (a ∈ L0 ∨ H a = none) ∧ ∃ sh, H' a = some (shO a sh)) → Q x H'
      | .exc x => ∀ F' H' k d, LeftIO F H L0 F' H' → ExR cls x k d H' → E k d H'
      | .bad => False) → ∀ {F' : Fz} {H' : Hp} {own' : Ow} {σ' : St} {x : V} {L : List Addr}, Step F H (fun i => if i = 0 then L0 else []) F' H' own' → G ⟨K, w, fns⟩ N.length [(0, x0)] F' H' σ' g own' → Own ⟨K, w, fns⟩ H' F' v.o x v.d L → Frsh F H (fun i => if i = 0 then L0 else []) F' H' own' L → Q x H' := by
      intro v g q F' H' own' σ' x L s I' o2 fr
      cases eg : g[0]? with
      | none => rw [eg] at q; exact False.elim q
      | some io1 =>
        cases io1 with
        | none => rw [eg] at q; exact False.elim q
        | some io' =>
          rw [eg] at q
          obtain ⟨x1, h1, o1⟩ := I'.slot 0 io' eg
          have hp := I'.pin (0, x0) (List.mem_singleton.mpr rfl)
          rw [h1] at hp
          cases hp
          refine q F' H' x L (own' 0) (lf s I') o1 o2 ?_ fun a ha => ?_
          · rw [List.nodup_append]
            exact ⟨I'.nodup 0, fr.nd, fun a ha b hb z => (fr.sep b hb).2.1 0 (z ▸ ha)⟩
          · rcases List.mem_append.mp ha with ha | ha
            · obtain ⟨h2, h3⟩ := I'.sep 0 a ha
              exact ⟨h2, old (s.own 0 a ha), h3⟩
            · obtain ⟨h2, _, h3, h4⟩ := fr.sep a ha
              exact ⟨h2, old h4, h3⟩
    cases eb : b (some io :: (ds.map (fun d => some ⟨d, 0⟩) ++ List.replicate (N.length - (ds.length + 1)) none)) with
    | nx g =>
      rw [eb] at q
      exact fun F' H' own' σ' s I' => fin (v := ⟨.non, 0⟩) q s I' (.of .non) ⟨List.nodup_nil, fun _ h => nomatch h⟩
    | ret v g =>
      rw [eb] at q
      exact fun F' H' own' σ' x L s I' o fr => fin q s I' o fr
    | exc e g =>
      rw [eb] at q
      exact fun F' H' own' σ' k d s I' r => q F' H' k d (lf s I') r
    | brk g => rw [eb] at q; exact False.elim q
    | ct g => rw [eb] at q; exact False.elim q
    | bad => rw [eb] at q; exact q
end
end PL

/-! PL12: the operations on data. -/
namespace PL
open PySem PySem.Spec PySem.Calls L2

/-! ### what a value is, by its data -/
section
variable {c : Cn} {H : Hp} {F : Fz} {x : V}
theorem Rt.int {i : Int} (h : Rt c H F x (.int i)) : x = .int i := by
  cases h with
  | of r => cases r; rfl
theorem Rt.bl {b : Bool} (h : Rt c H F x (.bl b)) : x = .bl b := by
  cases h with
  | of r => cases r; rfl
theorem Rt.str {s : Str} (h : Rt c H F x (.str s)) : x = .str s := by
  cases h with
  | of r => cases r; rfl
theorem Rt.non (h : Rt c H F x .non) : x = .non := by
  cases h with
  | of r => cases r; rfl
theorem Rt.tup {ds : List D} (h : Rt c H F x (.tup ds)) : ∃ a vs, x = .ref a ∧ SqT c.K H a vs ∧ RpA c H F vs ds := by
  cases h with
  | of r => cases r with
    | tup h r => exact ⟨_, _, rfl, h, r⟩
theorem Rt.li {ds : List D} (h : Rt c H F x (.lst ds)) : ∃ a vs, x = .ref a ∧ Rd H a (.lst vs) ∧ RpA c H F vs ds := by
  cases h with
  | of r => cases r with
    | lst f h r => exact ⟨_, _, rfl, h, r⟩
  | lst h r => exact ⟨_, _, rfl, .of h, r⟩
theorem RpA.ints : ∀ {vs : List V} {ns : List Int}, RpA c H F vs (ns.map .int) → vs = ns.map V.int
  | _, [], .nil => rfl
  | _, _ :: _, .cons h r => by
    cases h
    rw [RpA.ints r]
    rfl
theorem RpA.bls : ∀ {vs : List V} {ns : List Bool}, RpA c H F vs (ns.map .bl) → vs = ns.map V.bl
  | _, [], .nil => rfl
  | _, _ :: _, .cons h r => by
    cases h
    rw [RpA.bls r]
    rfl
end
def asI : D → Option Int
  | .int i => some i
  | _ => none
def allI : List D → Option (List Int)
  | [] => some []
  | d :: ds => match d, allI ds with
    | .int i, some is => some (i :: is)
    | _, _ => none
def allB : List D → Option (List Bool)
  | [] => some []
  | d :: ds => match d, allB ds with
    | .bl i, some is => some (i :: is)
    | _, _ => none
theorem allI_eq : ∀ {ds : List D} {is : List Int}, allI ds = some is → ds = is.map .int
  | [], _, e => by cases e; rfl
  | d :: ds, is, e => by
    unfold allI at e
    split at e
    · rename_i i is' h
      cases e
      rw [allI_eq h]
      rfl
    · cases e
theorem allB_eq : ∀ {ds : List D} {is : List Bool}, allB ds = some is → ds = is.map .bl
  | [], _, e => by cases e; rfl
  | d :: ds, is, e => by
    unfold allB at e
    split at e
    · rename_i i is' h
      cases e
      rw [allB_eq h]
      rfl
    · cases e

/-! ### data as the library's data -/
mutual
def toP : D → Option PyData
  | .non => some .none
  | .bl b => some (.bool b)
  | .int i => some (.int i)
  | .str x => some (.str x)
  | .tup xs => (toPs xs).map .tuple
  | .lst xs => (toPs xs).map .list
  | _ => none
def toPs : List D → Option (List PyData)
  | [] => some []
  | x :: xs => match toP x, toPs xs with
    | some p, some ps => some (p :: ps)
    | _, _ => none
end
section
variable {c : Cn} {H : Hp} {F : Fz}
theorem rd_sqL {a : Addr} {vs : List V} (h : Rd H a (.lst vs)) : SqL c.K H a vs := .inl h
mutual
theorem Rp.dp : ∀ {v : V} {d : D} {p : PyData}, Rp c H F v d → toP d = some p → Dp c.K H v p
  | _, _, _, .non, e => by cases e; exact .non
  | _, _, _, .bl b, e => by cases e; exact .bl b
  | _, _, _, .int b, e => by cases e; exact .int b
  | _, _, _, .str b, e => by cases e; exact .str b
  | _, _, _, .tup (ds := ds) h r, e => by
    unfold toP at e
    cases q : toPs ds with
    | none => rw [q] at e; cases e
    | some ps => rw [q] at e; cases e; exact .tup h (RpA.dp r q)
  | _, _, _, .lst (ds := ds) f h r, e => by
    unfold toP at e
    cases q : toPs ds with
    | none => rw [q] at e; cases e
    | some ps => rw [q] at e; cases e; exact .lst (rd_sqL h) (RpA.dp r q)
  | _, _, _, .dct _ _ _ _, e => by cases e
  | _, _, _, .fn _, e => by cases e
  | _, _, _, .src _, e => by cases e
theorem RpA.dp : ∀ {v : List V} {d : List D} {p : List PyData}, RpA c H F v d → toPs d = some p → DpAll c.K H v p
  | _, _, _, .nil, e => by cases e; exact .nil
  | _, _, _, .cons (d := d) (ds := ds) h r, e => by
    unfold toPs at e
    cases q : toP d with
    | none => rw [q] at e; cases e
    | some p =>
      cases q2 : toPs ds with
      | none => rw [q, q2] at e; cases e
      | some ps => rw [q, q2] at e; cases e; exact .cons (Rp.dp h q) (RpA.dp r q2)
end
theorem Rt.dp {v : V} {d : D} {p : PyData} (h : Rt c H F v d) (e : toP d = some p) : Dp c.K H v p := by
  cases h with
  | of r => exact r.dp e
  | @lst a vs ds h r =>
    unfold toP at e
    cases q : toPs ds with
    | none => rw [q] at e; cases e
    | some ps => rw [q] at e; cases e; exact .lst (rd_sqL (.of h)) (RpA.dp r q)
  | dct _ _ _ => cases e
end
/-! n levels deep, no dicts or functions, texts as they should be -/
mutual
def okD : Nat → D → Bool
  | _, .non => true
  | _, .bl _ => true
  | _, .int _ => true
  | _, .str x => PyData.strOk x
  | n + 1, .tup xs => okDs n xs
  | n + 1, .lst xs => okDs n xs
  | _, _ => false
def okDs : Nat → List D → Bool
  | _, [] => true
  | n, x :: xs => okD n x && okDs n xs
end
/-! == of data -/
mutual
def eqD : D → D → Bool
  | .non, .non => true
  | .bl a, .bl b => a == b
  | .bl a, .int j => (if a then 1 else 0) == j
  | .int i, .bl b => i == (if b then 1 else 0)
  | .int i, .int j => i == j
  | .str x, .str y => x == y
  | .lst xs, .lst ys => eqDs xs ys
  | .tup xs, .tup ys => eqDs xs ys
  | _, _ => false
def eqDs : List D → List D → Bool
  | [], [] => true
  | x :: xs, y :: ys => eqD x y && eqDs xs ys
  | _, _ => false
end
mutual
theorem okD_sh : ∀ (n : Nat) (d : D), okD n d = true → ∃ p, toP d = some p ∧ p.canLay0 = true ∧ p.depth ≤ n
  | n, .non, _ => ⟨_, rfl, rfl, Nat.zero_le _⟩
  | n, .bl _, _ => ⟨_, rfl, rfl, Nat.zero_le _⟩
  | n, .int _, _ => ⟨_, rfl, rfl, Nat.zero_le _⟩
  | n, .str x, h => ⟨_, rfl, by unfold okD at h; simpa [PyData.canLay0] using h, Nat.zero_le _⟩
  | 0, .tup _, h => by simp [okD] at h
  | n + 1, .tup xs, h => by
    obtain ⟨ps, h1, h2, h3⟩ := okDs_sh n xs (by simpa [okD] using h)
    exact ⟨.tuple ps, by unfold toP; rw [h1]; rfl, by simpa [PyData.canLay0] using h2, by show PyData.depthAll ps + 1 ≤ n + 1; omega⟩
  | 0, .lst _, h => by simp [okD] at h
  | n + 1, .lst xs, h => by
    obtain ⟨ps, h1, h2, h3⟩ := okDs_sh n xs (by simpa [okD] using h)
    exact ⟨.list ps, by unfold toP; rw [h1]; rfl, by simpa [PyData.canLay0] using h2, by show PyData.depthAll ps + 1 ≤ n + 1; omega⟩
  | n, .dct _, h => by simp [okD] at h
  | n, .fn _, h => by simp [okD] at h
  | n, .src _, h => by simp [okD] at h
theorem okDs_sh : ∀ (n : Nat) (d : List D), okDs n d = true → ∃ p, toPs d = some p ∧ PyData.canLayAll0 p = true ∧ PyData.depthAll p ≤ n
  | n, [], _ => ⟨[], rfl, rfl, Nat.zero_le _⟩
  | n, x :: xs, h => by
    unfold okDs at h
    obtain ⟨h1, h2⟩ := Bool.and_eq_true_iff.mp h
    obtain ⟨p, a1, a2, a3⟩ := okD_sh n x h1
    obtain ⟨ps, b1, b2, b3⟩ := okDs_sh n xs h2
    exact ⟨p :: ps, by unfold toPs; rw [a1, b1], by show (p.canLay0 && PyData.canLayAll0 ps) = true; rw [a2, b2]; rfl, by show max _ _ ≤ n; exact Nat.max_le.mpr ⟨a3, b3⟩⟩
end
mutual
theorem eqD_eqv : ∀ (d e : D) {p q : PyData}, toP d = some p → toP e = some q → PyData.eqv p q = eqD d e
  | .non, e, p, q, h1, h2 => by
    cases h1
    cases e <;> simp [toP] at h2 <;> first | (subst h2; rfl) | (obtain ⟨a, _, rfl⟩ := h2; rfl)
  | .bl b, e, p, q, h1, h2 => by
    cases h1
    cases e <;> simp [toP] at h2 <;> first | (subst h2; simp [PyData.eqv, eqD]; done) | (obtain ⟨a, _, rfl⟩ := h2; simp [PyData.eqv, eqD])
  | .int b, e, p, q, h1, h2 => by
    cases h1
    cases e <;> simp [toP] at h2 <;> first | (subst h2; simp [PyData.eqv, eqD]; done) | (obtain ⟨a, _, rfl⟩ := h2; simp [PyData.eqv, eqD])
  | .str b, e, p, q, h1, h2 => by
    cases h1
    cases e <;> simp [toP] at h2 <;> first | (subst h2; simp [PyData.eqv, eqD]; done) | (obtain ⟨a, _, rfl⟩ := h2; simp [PyData.eqv, eqD])
  | .tup xs, e, p, q, h1, h2 => by
    simp [toP] at h1
    obtain ⟨ps, g1, rfl⟩ := h1
    cases e with
    | tup ys =>
      simp [toP] at h2
      obtain ⟨qs, g2, rfl⟩ := h2
      have := eqDs_eqv xs ys g1 g2
      simp only [PyData.eqv, eqD]
      exact this
    | lst ys => simp [toP] at h2; obtain ⟨a, _, rfl⟩ := h2; simp [PyData.eqv, eqD]
    | _ => simp [toP] at h2 <;> subst h2 <;> simp [PyData.eqv, eqD]
  | .lst xs, e, p, q, h1, h2 => by
    simp [toP] at h1
    obtain ⟨ps, g1, rfl⟩ := h1
    cases e with
    | lst ys =>
      simp [toP] at h2
      obtain ⟨qs, g2, rfl⟩ := h2
      have := eqDs_eqv xs ys g1 g2
      simp only [PyData.eqv, eqD]
      exact this
    | tup ys => simp [toP] at h2; obtain ⟨a, _, rfl⟩ := h2; simp [PyData.eqv, eqD]
    | _ => simp [toP] at h2 <;> subst h2 <;> simp [PyData.eqv, eqD]
  | .dct _, _, _, _, h1, _ => by cases h1
  | .fn _, _, _, _, h1, _ => by cases h1
  | .src _, _, _, _, h1, _ => by cases h1
theorem eqDs_eqv : ∀ (d e : List D) {p q : List PyData}, toPs d = some p → toPs e = some q → PyData.eqvAll p q = eqDs d e
  | [], [], p, q, h1, h2 => by cases h1; cases h2; rfl
  | [], y :: ys, p, q, h1, h2 => by
    cases h1
    unfold toPs at h2
    split at h2
    · cases h2; rfl
    · cases h2
  | x :: xs, [], p, q, h1, h2 => by
    cases h2
    unfold toPs at h1
    split at h1
    · cases h1; rfl
    · cases h1
  | x :: xs, y :: ys, p, q, h1, h2 => by
    unfold toPs at h1 h2
    split at h1
    · rename_i p1 ps1 a1 a2
      cases h1
      split at h2
      · rename_i q1 qs1 b1 b2
        cases h2
        have i1 := eqD_eqv x y a1 b1
        have i2 := eqDs_eqv xs ys a2 b2
        rw [PyData.eqvAll, eqDs, i1, i2]
      · cases h2
    · cases h1
end
theorem shaped_of {d : D} {p : PyData} (h : okD 64 d = true) (e : toP d = some p) : SeqAt.shaped p = true := by
  obtain ⟨p', e', h1, h2⟩ := okD_sh 64 d h
  rw [e] at e'
  cases e'
  unfold SeqAt.shaped
  rw [h1, decide_eq_true h2]
  rfl

/-! ### arithmetic -/
def vI (i : Int) : Option Val := some ⟨.int i, 0⟩
def vB (b : Bool) : Option Val := some ⟨.bl b, 0⟩
def dAdd : D → D → Option Val
  | .int i, .int j => vI (i + j)
  | .str a, .str b => if a.length + b.length ≤ big then some ⟨.str (a ++ b), 0⟩ else none
  | .tup a, .tup b => if a.length + b.length ≤ big then some ⟨.tup (a ++ b), 0⟩ else none
  | .lst a, .lst b => if a.length + b.length ≤ big then some ⟨.lst (a ++ b), 1⟩ else none
  | _, _ => none
def dSub : D → D → Option Val
  | .int i, .int j => vI (i - j)
  | _, _ => none
def dMul : D → D → Option Val
  | .int i, .int j => if i.natAbs.log2 + j.natAbs.log2 < 1000000 then vI (i * j) else none
  | .lst a, .int k => if -(2 ^ 63) ≤ k ∧ k < 2 ^ 63 ∧ a.length * k.toNat ≤ big then some ⟨.lst (List.replicate k.toNat a).flatten, 1⟩ else none
  | .tup a, .int k => if a ≠ [] ∧ 2 ≤ k ∧ k ≤ 1000 ∧ a.length ≤ 1000 then some ⟨.tup (List.replicate k.toNat a).flatten, 0⟩ else none
  | _, _ => none
def dDiv : D → D → Option Val
  | .int i, .int j => if 0 < j ∧ j.natAbs.log2 < 8192 then vI (i / j) else none
  | _, _ => none
def dMod : D → D → Option Val
  | .int i, .int j => if 0 < j then vI (i % j) else none
  | _, _ => none
def dPow : D → D → Option Val
  | .int i, .int j => if 0 ≤ j ∧ j ≤ 1000000 ∧ i.natAbs < 2 ^ 64 then vI (i ^ j.toNat) else none
  | _, _ => none
def dShl : D → D → Option Val
  | .int i, .int j => if 0 ≤ j ∧ j ≤ 1000000 ∧ i.natAbs < 2 ^ 64 then vI (i * 2 ^ j.toNat) else none
  | _, _ => none
def dShr : D → D → Option Val
  | .int i, .int j => if 0 ≤ j then vI (i / 2 ^ j.toNat) else none
  | _, _ => none
def dBand : D → D → Option Val
  | .int i, .int j => vI (Builtin.bitAnd i j)
  | _, _ => none
def dNeg : D → Option Val
  | .int i => vI (-i)
  | _ => none

section
variable {X : Cx} {P : Par}
theorem rd_lst {pins : List (Addr × Obj)} {σ : St} {H : Hp} {s : Shared} {a : Addr} {vs : List V} (I : Inv X pins σ H s) (h : Rd H a (.lst vs)) : vs.length ≤ sizeLine ∧ ∃ (us : List Value) (m : Nat), Vals vs us ∧ s.heap.get? a = some { cls := .type "list", data := .seq us.toArray m } := by
  rcases h with h | ⟨o, h⟩
  · obtain ⟨z, us, m, r, e⟩ := I.hok a _ h
    exact ⟨z, us, m, r, e⟩
  · obtain ⟨_, h⟩ := (show s.heap.get? a = some o ∧ ObjOk X.prog X.w H s.heap a (.lst vs) from I.hok a _ h)
    obtain ⟨z, us, m, r, e⟩ := h
    exact ⟨z, us, m, r, e⟩
theorem big_le {n : Nat} (h : n ≤ big) : n ≤ sizeLine := by rw [← big_line]; exact h
theorem rep_flat {c : Cn} {H : Hp} {F : Fz} {vs : List V} {ds : List D} (r : RpA c H F vs ds) : ∀ n : Nat, RpA c H F (List.replicate n vs).flatten (List.replicate n ds).flatten
  | 0 => .nil
  | n + 1 => by
    rw [List.replicate_succ, List.replicate_succ, List.flatten_cons, List.flatten_cons]
    exact r.append (rep_flat r n)
theorem o_add : OpR X (binaryOp .Add) (rD2 (cn X P) dAdd) := by
  intro pins s σ H x y v u Q I rx ry ⟨F, d, e, w, tr, h1, h2, ho, q⟩
  unfold dAdd at ho
  split at ho
  · cases ho
    cases h1.int
    cases h2.int
    exact op_add pins s σ H _ _ v u Q I rx ry ⟨_, _, rfl, rfl, q.val (.inl rfl) (.int _)⟩
  · split at ho
    · rename_i hl
      cases ho
      cases h1.str
      cases h2.str
      exact op_add_str pins s σ H _ _ v u Q I rx ry ⟨_, _, rfl, rfl, big_le hl, q.val (.inl rfl) (.str _)⟩
    · cases ho
  · split at ho
    · rename_i hl
      cases ho
      obtain ⟨a1, xs, rfl, ha, ra⟩ := h1.tup
      obtain ⟨a2, ys, rfl, hb, rb⟩ := h2.tup
      have la := ra.length
      have lb := rb.length
      refine op_catA pins s σ H _ _ v u Q I rx ry ⟨a1, a2, xs, ys, rfl, rfl, ha, hb, big_le (by omega), fun e1 => ?_, fun _ e2 => ?_, fun _ _ p hp => q.tup hp (ra.append rb)⟩
      · subst e1
        cases ra
        exact q.val (.inl rfl) (.tup hb rb)
      · subst e2
        cases rb
        rw [List.append_nil] at q
        exact q.val (.inl rfl) (.tup ha ra)
    · cases ho
  · split at ho
    · rename_i hl
      cases ho
      obtain ⟨a1, xs, rfl, ha, ra⟩ := h1.li
      obtain ⟨a2, ys, rfl, hb, rb⟩ := h2.li
      have la := ra.length
      have lb := rb.length
      cases rx
      cases ry
      obtain ⟨_, us1, m1, r1, e1⟩ := rd_lst I ha
      obtain ⟨_, us2, m2, r2, e2⟩ := rd_lst I hb
      have l1 := r1.length
      have l2 := r2.length
      have hz : us1.length + us2.length ≤ sizeLine := big_le (by omega)
      refine PySem.P.add_list e1 e2 ?_ (by rw [List.size_toArray, List.size_toArray]; exact hz)
      rw [show us1.toArray ++ us2.toArray = (us1 ++ us2).toArray by simp]
      exact ⟨.ref _, _, I.lnew (t' := s.toks) (r1.append r2) (by rw [List.length_append]; omega), rfl, q.lst I.fresh (ra.append rb)⟩
    · cases ho
  · cases ho
theorem o_sub : OpR X (binaryOp .Sub) (rD2 (cn X P) dSub) := by
  intro pins s σ H x y v u Q I rx ry ⟨F, d, e, w, tr, h1, h2, ho, q⟩
  unfold dSub at ho
  split at ho
  · cases ho
    cases h1.int
    cases h2.int
    exact op_sub pins s σ H _ _ v u Q I rx ry ⟨_, _, rfl, rfl, q.val (.inl rfl) (.int _)⟩
  · cases ho
theorem rep_list {pins : List (Addr × Obj)} {σ : St} {H : Hp} {s : Shared} {a : Addr} {vs : List V} {k : Int} {t : Tok} {Q : VK} (I : Inv X pins σ H s) (h : Rd H a (.lst vs)) (h1 : -(2 ^ 63) ≤ k) (h2 : k < 2 ^ 63) (hz : vs.length * k.toNat ≤ sizeLine)
    (q : ∀ p, H p = none → Q (.ref p) (upd H p (.lst (List.replicate k.toNat vs).flatten))) : wpAny (model X.prog X.w) X.A (binaryOp .Mult (.ref a) (.int k t)) (EP X pins σ Q) X.xe s := by
  obtain ⟨_, us, m, r, ho⟩ := rd_lst I h
  have l := r.length
  have fit : us.toArray.size * k.toNat ≤ sizeLine := by rw [List.size_toArray, ← l]; exact hz
  have h63 : (sizeLine : Nat) ≤ (2 ^ 63 - 1) / 8 := by decide
  have g1 : ¬ (!Builtin.List.listFitsIndex k) = true := by
    rw [fitsIndex_both h1 h2]
    decide
  have g2 : ¬ us.toArray.size * k.toNat > (2 ^ 63 - 1) / 8 := by omega
  have g3 : ¬ Builtin.List.listTooLong (us.toArray.size * k.toNat) = true := by
    rw [notLongL fit]
    decide
  have made : List.foldl (fun a b => a ++ b) #[] (List.replicate (if us.toArray.isEmpty = true then 0 else k.toNat) us.toArray) = (List.replicate k.toNat us).flatten.toArray := by
    cases us with
    | nil => simp
    | cons z zs =>
      rw [if_neg (by simp)]
      have q := foldl_rep (z :: zs) k.toNat []
      rw [List.nil_append] at q
      exact q
  have isl : s.heap.get? a = some { cls := .type "list", data := .seq us.toArray m } := ho
  refine wpAny_binaryOp_repeat_ref (T := "list") (U := "int") (by decide) ⟨_, isl, rfl⟩ (fun s' => typeIs_int s' k t) noFill_list_mul PySem.F.fills_int_mul PySem.F.slot_int_rmul repeat_list PySem.F.slot_int_index.lookup ?_
  refine call_meets PySem.F.slot_int_rmul (typeIs_int s k t) PySem.F.entry_int_rmul (PySem.F.args_int_rmul_2 _ _) (int___rmul___int_list k t a us.toArray m) ⟨isl, rfl, ⟨_, isl, rfl⟩, ?_⟩
  refine call_meets PySem.F.slot_list_mul ⟨_, isl, rfl⟩ PySem.F.entry_list_mul (PySem.F.args_list_mul_2 _ _) (AutoListH.list___mul___list_int_3 a us.toArray m k t g1 g2 g3) ⟨isl, ?_⟩
  rw [made]
  exact ⟨.ref _, _, I.lnew (t' := s.toks) (r.rep k.toNat) (by rw [PyProof.Rows.lm_len_rep_flat, Nat.mul_comm]; exact hz), rfl, q _ I.fresh⟩
theorem o_mul : OpR X (binaryOp .Mult) (rD2 (cn X P) dMul) := by
  intro pins s σ H x y v u Q I rx ry ⟨F, d, e, w, tr, h1, h2, ho, q⟩
  unfold dMul at ho
  split at ho
  · split at ho
    · rename_i hl
      cases ho
      cases h1.int
      cases h2.int
      exact op_mulW pins s σ H _ _ v u Q I rx ry ⟨_, _, rfl, rfl, hl, q.val (.inl rfl) (.int _)⟩
    · cases ho
  · split at ho
    · rename_i hl
      cases ho
      obtain ⟨a1, xs, rfl, ha, ra⟩ := h1.li
      cases h2.int
      have la := ra.length
      cases rx
      obtain ⟨t, rfl⟩ := ry
      exact rep_list I ha hl.1 hl.2.1 (big_le (by rw [la]; exact hl.2.2)) fun p hp => q.lst hp (rep_flat ra _)
    · cases ho
  · split at ho
    · rename_i hl
      cases ho
      obtain ⟨a1, xs, rfl, ha, ra⟩ := h1.tup
      cases h2.int
      have la := ra.length
      refine op_repT pins s σ H _ _ v u Q I rx ry ⟨a1, _, xs, rfl, rfl, ha, fun e => ?_, hl.2.1, hl.2.2.1, by rw [la]; exact hl.2.2.2, fun p hp => q.tup hp (rep_flat ra _)⟩
      subst e
      cases ra
      exact hl.1 rfl
    · cases ho
  · cases ho
theorem o_div : OpR X (binaryOp .FloorDiv) (rD2 (cn X P) dDiv) := by
  intro pins s σ H x y v u Q I rx ry ⟨F, d, e, w, tr, h1, h2, ho, q⟩
  unfold dDiv at ho
  split at ho
  · split at ho
    · rename_i hl
      cases ho
      cases h1.int
      cases h2.int
      exact op_fdivW pins s σ H _ _ v u Q I rx ry ⟨_, _, rfl, rfl, ⟨hl.1, by omega⟩, q.val (.inl rfl) (.int _)⟩
    · cases ho
  · cases ho
theorem o_mod : OpR X (binaryOp .Mod) (rD2 (cn X P) dMod) := by
  intro pins s σ H x y v u Q I rx ry ⟨F, d, e, w, tr, h1, h2, ho, q⟩
  unfold dMod at ho
  split at ho
  · split at ho
    · rename_i hl
      cases ho
      cases h1.int
      cases h2.int
      exact op_mod pins s σ H _ _ v u Q I rx ry ⟨_, _, rfl, rfl, hl, q.val (.inl rfl) (.int _)⟩
    · cases ho
  · cases ho
theorem o_pow : OpR X (binaryOp .Pow) (rD2 (cn X P) dPow) := by
  intro pins s σ H x y v u Q I rx ry ⟨F, d, e, w, tr, h1, h2, ho, q⟩
  unfold dPow at ho
  split at ho
  · split at ho
    · rename_i hl
      cases ho
      cases h1.int
      cases h2.int
      exact op_pow pins s σ H _ _ v u Q I rx ry ⟨_, _, rfl, rfl, hl, q.val (.inl rfl) (.int _)⟩
    · cases ho
  · cases ho
theorem o_shl : OpR X (binaryOp .LShift) (rD2 (cn X P) dShl) := by
  intro pins s σ H x y v u Q I rx ry ⟨F, d, e, w, tr, h1, h2, ho, q⟩
  unfold dShl at ho
  split at ho
  · split at ho
    · rename_i hl
      cases ho
      cases h1.int
      cases h2.int
      exact op_shl pins s σ H _ _ v u Q I rx ry ⟨_, _, rfl, rfl, hl, q.val (.inl rfl) (.int _)⟩
    · cases ho
  · cases ho
theorem o_shr : OpR X (binaryOp .RShift) (rD2 (cn X P) dShr) := by
  intro pins s σ H x y v u Q I rx ry ⟨F, d, e, w, tr, h1, h2, ho, q⟩
  unfold dShr at ho
  split at ho
  · split at ho
    · rename_i hl
      cases ho
      cases h1.int
      cases h2.int
      exact op_shr pins s σ H _ _ v u Q I rx ry ⟨_, _, rfl, rfl, hl, q.val (.inl rfl) (.int _)⟩
    · cases ho
  · cases ho
theorem o_band : OpR X (binaryOp .BitAnd) (rD2 (cn X P) dBand) := by
  intro pins s σ H x y v u Q I rx ry ⟨F, d, e, w, tr, h1, h2, ho, q⟩
  unfold dBand at ho
  split at ho
  · cases ho
    cases h1.int
    cases h2.int
    exact op_and pins s σ H _ _ v u Q I rx ry ⟨_, _, rfl, rfl, q.val (.inl rfl) (.int _)⟩
  · cases ho
theorem o_neg : UnR X (unaryOp .USub) (rD1 (cn X P) dNeg) := by
  intro pins s σ H x v Q I rx ⟨F, d, w, tr, h1, ho, q⟩
  unfold dNeg at ho
  split at ho
  · cases ho
    cases h1.int
    exact un_neg pins s σ H _ v Q I rx ⟨_, rfl, q.val (.inl rfl) (.int _)⟩
  · cases ho
end
end PL

/-! PD1: dicts: their entries as the library's dicts. -/
namespace PL
open PySem PySem.Spec L2

/-! ### data -/
def getD (kvs : List (D × D)) (k : D) : Option D := (kvs.find? fun p => eqD p.1 k).map (·.2)
def putD (kvs : List (D × D)) (k v : D) : List (D × D) :=
  if (kvs.find? fun p => eqD p.1 k).isSome then kvs.map (fun p => if eqD p.1 k = true then (p.1, v) else p) else kvs ++ [(k, v)]
def delD (kvs : List (D × D)) (k : D) : List (D × D) := kvs.filter fun p => !eqD p.1 k
/-- a key that may be asked for -/
def fitK (kvs : List (D × D)) (k : D) : Bool := match kvs with
  | [] => flatK k || tupK k
  | (k0, _) :: _ => (flatK k0 && flatK k) || (tupK k0 && tupK k)

theorem beq_dec {α : Type} [BEq α] [LawfulBEq α] [DecidableEq α] {a b : α} : (a == b) = decide (a = b) := Bool.eq_iff_iff.mpr (by simp)
mutual
theorem eqD_key : ∀ (a b : D) {x y : NestedKey}, keyD a = some x → keyD b = some y → eqD a b = decide (x = y)
  | .non, b, x, y, h1, h2 => by
    cases h1
    cases b with
    | tup ys => simp [keyD] at h2; obtain ⟨z, _, rfl⟩ := h2; rfl
    | non => cases h2; rfl
    | bl _ => cases h2; rfl
    | int _ => cases h2; rfl
    | str _ => cases h2; rfl
    | _ => cases h2
  | .bl u, b, x, y, h1, h2 => by
    cases h1
    cases b with
    | tup ys => simp [keyD] at h2; obtain ⟨z, _, rfl⟩ := h2; rfl
    | non => cases h2; rfl
    | bl v => cases h2; cases u <;> cases v <;> rfl
    | int j =>
      cases h2
      rw [NestedKey.decide_eq]
      cases u <;> simp [eqD, NestedKey.beq] <;> exact beq_dec
    | str _ => cases h2; rfl
    | _ => cases h2
  | .int i, b, x, y, h1, h2 => by
    cases h1
    cases b with
    | tup ys => simp [keyD] at h2; obtain ⟨z, _, rfl⟩ := h2; rfl
    | non => cases h2; rfl
    | bl v =>
      cases h2
      rw [NestedKey.decide_eq]
      cases v <;> simp [eqD, NestedKey.beq] <;> exact beq_dec
    | int j =>
      cases h2
      rw [NestedKey.decide_eq]
      simp only [eqD, NestedKey.beq]
      exact beq_dec
    | str _ => cases h2; rfl
    | _ => cases h2
  | .str s, b, x, y, h1, h2 => by
    cases h1
    cases b with
    | tup ys => simp [keyD] at h2; obtain ⟨z, _, rfl⟩ := h2; rfl
    | non => cases h2; rfl
    | bl v => cases h2; rfl
    | int j => cases h2; rfl
    | str t =>
      cases h2
      rw [NestedKey.decide_eq]
      simp only [eqD, NestedKey.beq]
      exact beq_dec
    | _ => cases h2
  | .tup xs, b, x, y, h1, h2 => by
    simp [keyD] at h1
    obtain ⟨ks, e1, rfl⟩ := h1
    cases b with
    | tup ys =>
      simp [keyD] at h2
      obtain ⟨ls, e2, rfl⟩ := h2
      have := eqD_keys xs ys e1 e2
      rw [NestedKey.decide_eq]
      simp only [eqD, NestedKey.beq]
      exact this
    | non => cases h2; rfl
    | bl v => cases h2; rfl
    | int j => cases h2; rfl
    | str t => cases h2; rfl
    | _ => cases h2
  | .lst _, _, _, _, h1, _ => by cases h1
  | .dct _, _, _, _, h1, _ => by cases h1
  | .fn _, _, _, _, h1, _ => by cases h1
  | .src _, _, _, _, h1, _ => by cases h1
theorem eqD_keys : ∀ (a b : List D) {x y : List NestedKey}, keyD.go a = some x → keyD.go b = some y → eqDs a b = NestedKey.beqAll x y
  | [], [], _, _, h1, h2 => by cases h1; cases h2; rfl
  | [], b :: bs, x, y, h1, h2 => by
    cases h1
    unfold keyD.go at h2
    split at h2
    · cases h2; rfl
    · cases h2
  | a :: as, [], x, y, h1, h2 => by
    cases h2
    unfold keyD.go at h1
    split at h1
    · cases h1; rfl
    · cases h1
  | a :: as, b :: bs, x, y, h1, h2 => by
    unfold keyD.go at h1 h2
    split at h1
    · rename_i k ks a1 a2
      cases h1
      split at h2
      · rename_i l ls b1 b2
        cases h2
        rw [eqDs, eqD_key a b a1 b1, eqD_keys as bs a2 b2, NestedKey.beqAll, NestedKey.decide_eq]
      · cases h2
    · cases h1
end

section
variable {c : Cn} {H : Hp} {F : Fz}
/-- two lists side by side, by keys -/
theorem pair_find {α : Type} {R : α → D × D → Prop} {g : α → NestedKey} (hg : ∀ x p, R x p → keyD p.1 = some (g x)) {k : D} {nk : NestedKey} (hk : keyD k = some nk) : ∀ {xs : List α} {kvs : List (D × D)}, Paired R xs kvs →
    (match xs.find? (fun x => decide (g x = nk)), kvs.find? (fun p => eqD p.1 k) with
      | none, none => True
      | some x, some p => R x p
      | _, _ => False)
  | _, _, .nil => trivial
  | x :: xs, p :: kvs, .cons r t => by
    have e := eqD_key p.1 k (hg x p r) hk
    rw [List.find?_cons, List.find?_cons, e]
    cases q : decide (g x = nk) with
    | true => exact r
    | false => exact pair_find hg hk t
theorem pair_map {α : Type} {R : α → D × D → Prop} {g : α → NestedKey} (hg : ∀ x p, R x p → keyD p.1 = some (g x)) {k : D} {nk : NestedKey} (hk : keyD k = some nk) {f : α → α} {f2 : D × D → D × D} (hf : ∀ x p, R x p → g x = nk → R (f x) (f2 p)) : ∀ {xs : List α} {kvs : List (D × D)}, Paired R xs kvs →
    Paired R (xs.map fun x => if g x = nk then f x else x) (kvs.map fun p => if eqD p.1 k = true then f2 p else p)
  | _, _, .nil => .nil
  | x :: xs, p :: kvs, .cons r t => by
    have e := eqD_key p.1 k (hg x p r) hk
    rw [List.map_cons, List.map_cons]
    refine .cons ?_ (pair_map hg hk hf t)
    by_cases q : g x = nk
    · rw [if_pos q, if_pos (by rw [e]; exact decide_eq_true q)]
      exact hf x p r q
    · rw [if_neg q, if_neg (by rw [e]; simpa using q)]
      exact r
theorem pair_filter {α : Type} {R : α → D × D → Prop} {g : α → NestedKey} (hg : ∀ x p, R x p → keyD p.1 = some (g x)) {k : D} {nk : NestedKey} (hk : keyD k = some nk) : ∀ {xs : List α} {kvs : List (D × D)}, Paired R xs kvs →
    Paired R (xs.filter fun x => decide (g x ≠ nk)) (kvs.filter fun p => !eqD p.1 k)
  | _, _, .nil => .nil
  | x :: xs, p :: kvs, .cons r t => by
    have e := eqD_key p.1 k (hg x p r) hk
    rw [List.filter_cons, List.filter_cons, e]
    by_cases q : g x = nk
    · rw [if_neg (by simp [q]), if_neg (by simp [q])]
      exact pair_filter hg hk t
    · rw [if_pos (by simp [q]), if_pos (by simp [q])]
      exact .cons r (pair_filter hg hk t)
theorem pair_snoc {α β : Type} {R : α → β → Prop} {x : α} {p : β} (h : R x p) : ∀ {xs : List α} {kvs : List β}, Paired R xs kvs → Paired R (xs ++ [x]) (kvs ++ [p])
  | _, _, .nil => .cons h .nil
  | _, _, .cons r t => .cons r (pair_snoc h t)

/-! ### the keys of a dict -/
theorem KOk.nil : KOk [] := ⟨List.nodup_nil, .inl fun _ h => nomatch h⟩
theorem flat_key {k : D} (h : flatK k = true) : ∃ nk, keyD k = some nk := by
  cases k <;> first | exact ⟨_, rfl⟩ | cases h
theorem tup_key {k : D} (h : tupK k = true) : ∃ nk ds, k = .tup ds ∧ keyD k = some nk ∧ nk.depth ≤ 8 := by
  unfold tupK at h
  obtain ⟨h1, h2⟩ := Bool.and_eq_true_iff.mp h
  cases k with
  | tup ds =>
    cases q : keyD (.tup ds) with
    | none => rw [q] at h2; cases h2
    | some nk => rw [q] at h2; exact ⟨nk, ds, rfl, rfl, of_decide_eq_true h2⟩
  | _ => cases h1
theorem not_both {k : D} (h1 : flatK k = true) (h2 : tupK k = true) : False := by
  obtain ⟨_, _, rfl, _⟩ := tup_key h2
  cases h1
/-- all keys flat, or all tuples, and the one asked for with them -/
theorem fit_kind {kvs : List (D × D)} {k : D} (ok : KOk kvs) (f : fitK kvs k = true) : ((∀ p ∈ kvs, flatK p.1 = true) ∧ flatK k = true) ∨ ((∀ p ∈ kvs, tupK p.1 = true) ∧ tupK k = true) := by
  cases kvs with
  | nil =>
    rcases Bool.or_eq_true_iff.mp (show (flatK k || tupK k) = true from f) with h | h
    · exact .inl ⟨(fun _ h => nomatch h), h⟩
    · exact .inr ⟨(fun _ h => nomatch h), h⟩
  | cons p kvs =>
    obtain ⟨k0, v0⟩ := p
    rcases Bool.or_eq_true_iff.mp (show ((flatK k0 && flatK k) || (tupK k0 && tupK k)) = true from f) with h | h
    · obtain ⟨h1, h2⟩ := Bool.and_eq_true_iff.mp h
      rcases ok.2 with a | a
      · exact .inl ⟨a, h2⟩
      · exact (not_both h1 (a _ List.mem_cons_self)).elim
    · obtain ⟨h1, h2⟩ := Bool.and_eq_true_iff.mp h
      rcases ok.2 with a | a
      · exact (not_both (a _ List.mem_cons_self) h1).elim
      · exact .inr ⟨a, h2⟩
theorem mem_putD {kvs : List (D × D)} {k v : D} {p : D × D} (h : p ∈ putD kvs k v) : (∃ q ∈ kvs, q.1 = p.1) ∨ p = (k, v) := by
  unfold putD at h
  split at h
  · obtain ⟨q, hq, e⟩ := List.mem_map.mp h
    refine .inl ⟨q, hq, ?_⟩
    rw [← e]
    split <;> rfl
  · rcases List.mem_append.mp h with h | h
    · exact .inl ⟨p, h, rfl⟩
    · exact .inr (List.mem_singleton.mp h)
theorem KOk.put {kvs : List (D × D)} {k v : D} (ok : KOk kvs) (f : fitK kvs k = true) : KOk (putD kvs k v) := by
  have kind := fit_kind ok f
  obtain ⟨nk, hk⟩ : ∃ nk, keyD k = some nk := by
    rcases kind with h | h
    · exact flat_key h.2
    · obtain ⟨nk, _, _, e, _⟩ := tup_key h.2; exact ⟨nk, e⟩
  have some' : ∀ p ∈ kvs, ∃ x, keyD p.1 = some x := fun p hp => by
    rcases kind with h | h
    · exact flat_key (h.1 p hp)
    · obtain ⟨nk, _, _, e, _⟩ := tup_key (h.1 p hp); exact ⟨nk, e⟩
  refine ⟨?_, ?_⟩
  · unfold putD
    split
    · rw [List.map_map]
      have e : (fun p : D × D => keyD p.1) ∘ (fun p => if eqD p.1 k = true then (p.1, v) else p) = fun p => keyD p.1 := by
        funext p
        simp only [Function.comp]
        split <;> rfl
      rw [e]
      exact ok.1
    · rename_i hn
      rw [List.map_append, List.nodup_append]
      refine ⟨ok.1, by simp, fun a ha b hb e => ?_⟩
      obtain ⟨p, hp, rfl⟩ := List.mem_map.mp ha
      have hb : b = keyD k := by simpa using hb
      subst hb
      apply hn
      obtain ⟨x, hx⟩ := some' p hp
      rw [List.find?_isSome]
      refine ⟨p, hp, ?_⟩
      have e2 := eqD_key p.1 k hx hk
      rw [e2]
      rw [hx, hk] at e
      exact decide_eq_true (Option.some.inj e)
  · rcases kind with h | h
    · refine .inl fun p hp => ?_
      rcases mem_putD hp with ⟨q, hq, e⟩ | e
      · rw [← e]; exact h.1 q hq
      · rw [e]; exact h.2
    · refine .inr fun p hp => ?_
      rcases mem_putD hp with ⟨q, hq, e⟩ | e
      · rw [← e]; exact h.1 q hq
      · rw [e]; exact h.2
theorem KOk.del {kvs : List (D × D)} {k : D} (ok : KOk kvs) : KOk (delD kvs k) := by
  unfold delD
  refine ⟨ok.1.sublist (List.Sublist.map _ List.filter_sublist), ?_⟩
  rcases ok.2 with h | h
  · exact .inl fun p hp => h p (List.mem_filter.mp hp).1
  · exact .inr fun p hp => h p (List.mem_filter.mp hp).1
theorem length_putD (kvs : List (D × D)) (k v : D) : (putD kvs k v).length ≤ kvs.length + 1 := by
  unfold putD
  split
  · simp
  · simp

/-! ### entries -/
/-- an entry whose key is a tuple -/
def TR (c : Cn) (H : Hp) (F : Fz) (x : NestedKey × Addr × Value) (p : D × D) : Prop := keyD p.1 = some x.1 ∧ Rp c H F (.ref x.2.1) p.1 ∧ ∃ vv, RelV vv x.2.2 ∧ Rp c H F vv p.2
/-- an entry whose key is a number or a text -/
def kV' : D → Key
  | .int i => .inl i
  | .str x => .inr x
  | _ => .inl 0
def nkK : Key → NestedKey
  | .inl i => .num i
  | .inr x => .text x
def FR (c : Cn) (H : Hp) (F : Fz) (x : Key × Value) (p : D × D) : Prop := flatK p.1 = true ∧ kV' p.1 = x.1 ∧ ∃ vv, RelV vv x.2 ∧ Rp c H F vv p.2
theorem flat_nk {k : D} (h : flatK k = true) : keyD k = some (nkK (kV' k)) := by
  cases k <;> first | rfl | cases h
theorem nk_inj {a b : Key} (h : nkK a = nkK b) : a = b := by
  cases a <;> cases b <;> simp [nkK] at h <;> rw [h]
theorem TR.key {x : NestedKey × Addr × Value} {p : D × D} (h : TR c H F x p) : keyD p.1 = some x.1 := h.1
theorem FR.key {x : Key × Value} {p : D × D} (h : FR c H F x p) : keyD p.1 = some (nkK x.1) := by rw [flat_nk h.1, h.2.1]
theorem RelV.ref' {v : V} {b : Addr} (h : RelV v (.ref b)) : v = .ref b := by
  cases v with
  | ref a => cases (show Value.ref b = Value.ref a from h); rfl
  | non => cases (show Value.ref b = Value.none from h)
  | bl x => cases (show Value.ref b = Value.bool x from h)
  | int i => obtain ⟨_, e⟩ := (show ∃ t, Value.ref b = Value.int i t from h); cases e
  | str i => obtain ⟨_, e⟩ := (show ∃ t, Value.ref b = Value.str i t from h); cases e
  | byt i => obtain ⟨_, e⟩ := (show ∃ t, Value.ref b = Value.bytes i t from h); cases e
  | flt i => obtain ⟨_, e⟩ := (show ∃ t, Value.ref b = Value.float i t from h); cases e
  | ty i => cases (show Value.ref b = Value.type i from h)
theorem Rp.tupRef {v : V} {ds : List D} (h : Rp c H F v (.tup ds)) : ∃ a, v = .ref a := by
  cases h with
  | tup _ _ => exact ⟨_, rfl⟩
section
variable {P : Program} {w : World}
/-- tuple keys -/
theorem ent_tup (hw : c.w = w) : ∀ {es : List DictEntry} {kvs : List (D × D)}, RpE c H F es kvs → (∀ p ∈ kvs, tupK p.1 = true) → ∃ xs, es = xs.map (entryOfKey (nestedKind P w)) ∧ Paired (TR c H F) xs kvs
  | _, _, .nil, _ => ⟨[], rfl, .nil⟩
  | _, _, .cons (e := e) (k := k) (v := v) (nk := nk) h1 h2 r1 r2 e1 e2 t, hf => by
    obtain ⟨xs, ex, px⟩ := ent_tup hw t fun p hp => hf p (List.mem_cons_of_mem _ hp)
    obtain ⟨_, ds, hd, _, _⟩ := tup_key (hf _ List.mem_cons_self)
    have hd : k = .tup ds := hd
    subst hd
    obtain ⟨a, rfl⟩ := r1.tupRef
    obtain ⟨hsh, ky, vl⟩ := e
    have hky : ky = .ref a := h1
    subst hky
    have e2' : hsh = nk.hash w := by rw [← hw]; exact e2
    subst e2'
    exact ⟨(nk, a, vl) :: xs, by rw [ex]; rfl, .cons ⟨e1, r1, _, h2, r2⟩ px⟩
theorem tup_ent (hw : c.w = w) : ∀ {xs : List (NestedKey × Addr × Value)} {kvs : List (D × D)}, Paired (TR c H F) xs kvs → RpE c H F (xs.map (entryOfKey (nestedKind P w))) kvs
  | _, _, .nil => .nil
  | (nk, a, vl) :: xs, (k, v) :: kvs, .cons ⟨h1, h2, vv, h3, h4⟩ t => .cons (kv := .ref a) (vv := vv) (e := entryOfKey (nestedKind P w) (nk, a, vl)) rfl h3 h2 h4 h1 (by rw [hw]; rfl) (tup_ent hw t)
/-- flat keys -/
theorem ent_flat (hw : c.w = w) : ∀ {es : List DictEntry} {kvs : List (D × D)}, RpE c H F es kvs → (∀ p ∈ kvs, flatK p.1 = true) → (∀ e ∈ es, ∃ k, (mixKind P w).is k e.key = true ∧ e.hash = (mixKind P w).hash k) ∧ ∃ xs, Pairs (mixKind P w) es xs ∧ Paired (FR c H F) xs kvs
  | _, _, .nil, _ => ⟨(fun _ h => nomatch h), [], .nil, .nil⟩
  | _, _, .cons (e := e) (k := k) (v := v) (nk := nk) (kv := kv) h1 h2 r1 r2 e1 e2 t, hf => by
    obtain ⟨hk, xs, ex, px⟩ := ent_flat hw t fun p hp => hf p (List.mem_cons_of_mem _ hp)
    have hfk : flatK k = true := hf _ List.mem_cons_self
    have key : (mixKind P w).is (kV' k) e.key = true ∧ e.hash = (mixKind P w).hash (kV' k) := by
      rw [e2, hw]
      cases k with
      | int i =>
        cases r1
        obtain ⟨tk, z⟩ := (show ∃ t, e.key = Value.int i t from h1)
        cases e1
        exact ⟨by rw [z]; exact mixKind_int P w i tk, rfl⟩
      | str i =>
        cases r1
        obtain ⟨tk, z⟩ := (show ∃ t, e.key = Value.str i t from h1)
        cases e1
        exact ⟨by rw [z]; exact mixKind_str P w i tk, rfl⟩
      | _ => cases hfk
    refine ⟨fun e' he => ?_, (kV' k, e.val) :: xs, .cons key.1 rfl ex, .cons ⟨hfk, rfl, _, h2, r2⟩ px⟩
    rcases List.mem_cons.mp he with rfl | he
    · exact ⟨_, key⟩
    · exact hk e' he
theorem flat_ent (hw : c.w = w) : ∀ {es : List DictEntry} {xs : List (Key × Value)} {kvs : List (D × D)}, (∀ e ∈ es, ∃ k, (mixKind P w).is k e.key = true ∧ e.hash = (mixKind P w).hash k) → Pairs (mixKind P w) es xs → Paired (FR c H F) xs kvs → RpE c H F es kvs
  | _, _, _, _, .nil, .nil => .nil
  | e :: es, (ky, vl) :: xs, (k, v) :: kvs, hk, .cons i1 i2 t, .cons ⟨f1, f2, vv, f3, f4⟩ t2 => by
    have rest := flat_ent hw (fun e he => hk e (List.mem_cons_of_mem _ he)) t t2
    have i1 : (mixKind P w).is ky e.key = true := i1
    have i2 : e.val = vl := i2
    have f2 : kV' k = ky := f2
    obtain ⟨k', h1, h2⟩ := hk e List.mem_cons_self
    have : k' = ky := (mixKind P w).inj _ _ _ h1 i1
    subst this
    subst f2
    have f1 : flatK k = true := f1
    rcases keyIs_shape (show keyIs (kV' k) e.key = true from h1) with ⟨i, t, e1, e2⟩ | ⟨i, t, e1, e2⟩
    · cases k with
      | int j =>
        have : j = i := by simpa [kV'] using e1
        subst this
        exact .cons (kv := .int j) (vv := vv) (nk := .num j) ⟨t, e2⟩ (by rw [i2]; exact f3) (.int j) f4 rfl (by rw [h2, hw]; rfl) rest
      | str j => simp [kV'] at e1
      | _ => cases f1
    · cases k with
      | str j =>
        have : j = i := by simpa [kV'] using e1
        subst this
        exact .cons (kv := .str j) (vv := vv) (nk := .text j) ⟨t, e2⟩ (by rw [i2]; exact f3) (.str j) f4 rfl (by rw [h2, hw]; rfl) rest
      | int j => simp [kV'] at e1
      | _ => cases f1
end
end
end PL

/-! PD2: dicts read: d[k], k in d, d.get, len(d), list(d). -/
namespace PL
open PySem PySem.Spec L2

section
variable {X : Cx} {P : Par} {pins : List (Addr × Obj)} {σ : St} {H : Hp} {s : Shared} {F : Fz} {a : Addr} {es : Ent} {kvs : List (D × D)} {k : D} {y : V} {u : Value} {A : Around} {E : Value → Shared → Prop}
theorem dict_at (I : Inv X pins σ H s) (e : H a = some (shO a (.dct es))) : DictAt a es s.heap := (show ObjOk X.prog X.w H s.heap a (.ext (DictAt a es)) from I.hok a _ e).1
mutual
theorem key_is (I : Inv X pins σ H s) : ∀ (d : D) {x : V} {u : Value} {nk : NestedKey}, Rp (cn X P) H F x d → RelV x u → keyD d = some nk → NestedIs s.heap nk u
  | .non, x, u, nk, r, e, h => by
    cases r
    cases h
    cases (show u = Value.none from e)
    exact .none
  | .bl b, x, u, nk, r, e, h => by
    cases r
    cases h
    cases (show u = Value.bool b from e)
    exact .bool rfl
  | .int i, x, u, nk, r, e, h => by
    cases r
    cases h
    obtain ⟨t, rfl⟩ := (show ∃ t, u = Value.int i t from e)
    exact .int i t
  | .str i, x, u, nk, r, e, h => by
    cases r
    cases h
    obtain ⟨t, rfl⟩ := (show ∃ t, u = Value.str i t from e)
    exact .text i t
  | .tup ds, x, u, nk, r, e, h => by
    cases r with
    | @tup b vs _ hq rs =>
      cases (show u = Value.ref b from e)
      simp [keyD] at h
      obtain ⟨ks, e2, rfl⟩ := h
      obtain ⟨its, rv, ⟨o, h1, h2, n, h3⟩, _⟩ := I.tuple hq
      exact .tup h1 h2 h3 (by simpa using keys_are I ds rs rv e2)
  | .lst _, _, _, _, _, _, h => by cases h
  | .dct _, _, _, _, _, _, h => by cases h
  | .fn _, _, _, _, _, _, h => by cases h
  | .src _, _, _, _, _, _, h => by cases h
theorem keys_are (I : Inv X pins σ H s) : ∀ (ds : List D) {xs : List V} {us : List Value} {ks : List NestedKey}, RpA (cn X P) H F xs ds → Vals xs us → keyD.go ds = some ks → NestedAll s.heap ks us
  | [], xs, us, ks, r, e, h => by
    cases r
    cases e
    cases h
    exact .nil
  | d :: ds, xs, us, ks, r, e, h => by
    cases r with
    | cons r1 r2 =>
      cases e with
      | cons e1 e2 =>
        unfold keyD.go at h
        split at h
        · rename_i k1 k2 a1 a2
          cases h
          exact .cons (key_is I d r1 e1 a1) (keys_are I ds r2 e2 a2)
        · cases h
end
theorem tup_is (I : Inv X pins σ H s) (hk : Rp (cn X P) H F y k) (ry : RelV y u) (f : tupK k = true) : ∃ nk b, keyD k = some nk ∧ u = .ref b ∧ y = .ref b ∧ (nestedKind X.prog X.w).is s.heap nk b := by
  obtain ⟨nk, ds, rfl, e, hd⟩ := tup_key f
  obtain ⟨b, rfl⟩ := hk.tupRef
  cases (show u = Value.ref b from ry)
  exact ⟨nk, b, e, rfl, rfl, key_is I _ hk rfl e, hd⟩
theorem flat_is (hk : Rp (cn X P) H F y k) (ry : RelV y u) (f : flatK k = true) : (mixKind X.prog X.w).is (kV' k) u = true := by
  cases k with
  | int i =>
    cases hk
    obtain ⟨t, rfl⟩ := (show ∃ t, u = Value.int i t from ry)
    exact mixKind_int _ _ i t
  | str i =>
    cases hk
    obtain ⟨t, rfl⟩ := (show ∃ t, u = Value.str i t from ry)
    exact mixKind_str _ _ i t
  | _ => cases f
theorem pair_keys {α : Type} {R : α → D × D → Prop} {g : α → NestedKey} (hg : ∀ x p, R x p → keyD p.1 = some (g x)) : ∀ {xs : List α} {kvs : List (D × D)}, Paired R xs kvs → kvs.map (fun p => keyD p.1) = xs.map fun x => some (g x)
  | _, _, .nil => rfl
  | _, _, .cons r t => by rw [List.map_cons, List.map_cons, hg _ _ r, pair_keys hg t]
theorem nd_keys {α κ : Type} {f : α → κ} {g : κ → NestedKey} {xs : List α} (h : (xs.map fun x => some (g (f x))).Nodup) : (xs.map f).Nodup := by
  unfold List.Nodup at h ⊢
  rw [List.pairwise_map] at h ⊢
  exact h.imp fun h e => h (by rw [e])
theorem dict_H (I : Inv X pins σ H s) (ha : H a = some (shO a (.dct es))) (ok : KOk kvs) (r : RpE (cn X P) H F es.1 kvs) (ht : ∀ p ∈ kvs, tupK p.1 = true) :
    ∃ xs, es.1 = xs.map (entryOfKey (nestedKind X.prog X.w)) ∧ Paired (TR (cn X P) H F) xs kvs ∧ s.heap.DictOfH (nestedKind X.prog X.w) a xs := by
  obtain ⟨xs, ex, px⟩ := ent_tup (P := X.prog) (w := X.w) (c := cn X P) rfl r ht
  obtain ⟨hl, hs, o, ho, hc, hd⟩ := dict_at I ha
  refine ⟨xs, ex, px, o, es.1.toArray, es.2, ho, hc, hd, by simpa using ex, fun x hx => ?_, ?_⟩
  · have all : ∀ {xs : List (NestedKey × Addr × Value)} {kvs : List (D × D)}, Paired (TR (cn X P) H F) xs kvs → (∀ p ∈ kvs, tupK p.1 = true) → ∀ x ∈ xs, (nestedKind X.prog X.w).is s.heap x.1 x.2.1 := by
      intro xs kvs q
      induction q with
      | nil => intro _ x hx; exact nomatch hx
      | @cons z p xs kvs hz t ih =>
        intro hf x hx
        rcases List.mem_cons.mp hx with rfl | hx
        · obtain ⟨nk, b, e1, e2, e3, e4⟩ := tup_is I hz.2.1 (u := .ref x.2.1) rfl (hf p List.mem_cons_self)
          cases e2
          rw [hz.1] at e1
          cases e1
          exact e4
        · exact ih (fun p hp => hf p (List.mem_cons_of_mem _ hp)) x hx
    exact all px ht x hx
  · refine nd_keys (g := id) ?_
    show (xs.map fun x => some x.1).Nodup
    rw [← pair_keys (g := fun x : NestedKey × Addr × Value => x.1) (fun x p h => h.1) px]
    exact ok.1
theorem dict_F (I : Inv X pins σ H s) (ha : H a = some (shO a (.dct es))) (ok : KOk kvs) (r : RpE (cn X P) H F es.1 kvs) (ht : ∀ p ∈ kvs, flatK p.1 = true) :
    ∃ vs, Paired (FR (cn X P) H F) vs kvs ∧ s.heap.DictOf (mixKind X.prog X.w) a vs := by
  obtain ⟨hk, vs, ex, px⟩ := ent_flat (P := X.prog) (w := X.w) (c := cn X P) rfl r ht
  obtain ⟨hl, hs, o, ho, hc, hd⟩ := dict_at I ha
  refine ⟨vs, px, o, es.1.toArray, es.2, ho, hc, hd, fun e he => hk e (by simpa using he), by simpa using ex, ?_⟩
  refine nd_keys (g := nkK) ?_
  rw [← pair_keys (g := fun x : Key × Value => nkK x.1) (fun x p h => h.key) px]
  exact ok.1
theorem dict_ty (I : Inv X pins σ H s) (ha : H a = some (shO a (.dct es))) : s.TypeIs (.ref a) "dict" := by
  obtain ⟨_, _, hd⟩ := dict_at I ha
  exact hd.typeIs
theorem find_nk {vs : List (Key × Value)} {k : Key} : (vs.find? fun x => decide (nkK x.1 = nkK k)) = vs.find? fun x => decide (x.1 = k) := by
  congr 1
  funext x
  exact decide_eq_decide.mpr ⟨nk_inj, fun e => by rw [e]⟩
/-- what is found, by keys that are flat -/
theorem at_flat {vs : List (Key × Value)} (px : Paired (FR (cn X P) H F) vs kvs) (fk : flatK k = true) : (∃ w v vv, valueAt vs (kV' k) = some w ∧ getD kvs k = some v ∧ RelV vv w ∧ Rp (cn X P) H F vv v) ∨ (valueAt vs (kV' k) = none ∧ getD kvs k = none) := by
  have f := pair_find (g := fun x : Key × Value => nkK x.1) (fun x p h => h.key) (flat_nk fk) px
  rw [find_nk] at f
  unfold valueAt getD
  split at f
  · rename_i e1 e2
    rw [e1, e2]
    exact .inr ⟨rfl, rfl⟩
  · rename_i x p e1 e2
    rw [e1, e2]
    obtain ⟨_, _, vv, h1, h2⟩ := f
    exact .inl ⟨x.2, p.2, vv, rfl, rfl, h1, h2⟩
  · exact f.elim
theorem at_tup {xs : List (NestedKey × Addr × Value)} {nk : NestedKey} (px : Paired (TR (cn X P) H F) xs kvs) (hk : keyD k = some nk) : (∃ p v vv, atKey xs nk = some p ∧ getD kvs k = some v ∧ RelV vv p.2 ∧ Rp (cn X P) H F vv v) ∨ (atKey xs nk = none ∧ getD kvs k = none) := by
  have f := pair_find (g := fun x : NestedKey × Addr × Value => x.1) (fun x p h => h.1) hk px
  unfold atKey getD
  split at f
  · rename_i e1 e2
    rw [e1, e2]
    exact .inr ⟨rfl, rfl⟩
  · rename_i x p e1 e2
    rw [e1, e2]
    obtain ⟨_, _, vv, h1, h2⟩ := f
    exact .inl ⟨x.2, p.2, vv, rfl, rfl, h1, h2⟩
  · exact f.elim
theorem room9 (hu : A.units + 65 < cLine) : (nestedKind X.prog X.w).room A.in1 := by
  show A.units + 1 + 8 < cLine
  omega
/-- d[k] -/
theorem dd_get {Q : Value → Shared → Prop} {v : D} (hu : A.units + 65 < cLine) (I : Inv X pins σ H s) (ha : H a = some (shO a (.dct es))) (ok : KOk kvs) (r : RpE (cn X P) H F es.1 kvs) (hk : Rp (cn X P) H F y k) (ry : RelV y u) (fit : fitK kvs k = true)
    (hv : getD kvs k = some v) (h : ∀ vv w s', Inv X pins σ H s' → RelV vv w → Rp (cn X P) H F vv v → Q w s') : wpAny (model X.prog X.w) A (getItem (.ref a) u) Q E s := by
  rcases fit_kind ok fit with ⟨ft, fk⟩ | ⟨ft, fk⟩
  · obtain ⟨vs, px, dd⟩ := dict_F I ha ok r ft
    rcases at_flat (k := k) px fk with ⟨w, v', vv, e1, e2, e3, e4⟩ | ⟨_, e2⟩
    · rw [hv] at e2
      cases e2
      exact wpAny_getItem_of (flat_is hk ry fk) dd.mapOf e1 (h vv w _ (I.tok _) e3 e4)
    · rw [hv] at e2
      cases e2
  · obtain ⟨xs, ex, px, dd⟩ := dict_H I ha ok r ft
    obtain ⟨nk, b, k1, rfl, _, k2⟩ := tup_is I hk ry fk
    rcases at_tup (k := k) px k1 with ⟨p, v', vv, e1, e2, e3, e4⟩ | ⟨_, e2⟩
    · rw [hv] at e2
      cases e2
      exact wpAny_getItem_heap (room9 hu) k2 dd e1 (h vv p.2 _ (I.tok _) e3 e4)
    · rw [hv] at e2
      cases e2
/-- k in d -/
theorem dd_in {Q : Value → Shared → Prop} (hu : A.units + 65 < cLine) (I : Inv X pins σ H s) (ha : H a = some (shO a (.dct es))) (ok : KOk kvs) (r : RpE (cn X P) H F es.1 kvs) (hk : Rp (cn X P) H F y k) (ry : RelV y u) (fit : fitK kvs k = true)
    (h : ∀ s', Inv X pins σ H s' → Q (.bool (getD kvs k).isSome) s') : wpAny (model X.prog X.w) A (compareOp .In u (.ref a)) Q E s := by
  obtain ⟨_, hs, _⟩ := dict_at I ha
  rcases fit_kind ok fit with ⟨ft, fk⟩ | ⟨ft, fk⟩
  · obtain ⟨vs, px, dd⟩ := dict_F I ha ok r ft
    refine wpAny_in_of (flat_is hk ry fk) hs dd.mapOf ?_
    rcases at_flat (k := k) px fk with ⟨w, v', vv, e1, e2, e3, e4⟩ | ⟨e1, e2⟩
    · rw [e1]; rw [e2] at h; exact h _ (I.tok _)
    · rw [e1]; rw [e2] at h; exact h _ (I.tok _)
  · obtain ⟨xs, ex, px, dd⟩ := dict_H I ha ok r ft
    obtain ⟨nk, b, k1, rfl, _, k2⟩ := tup_is I hk ry fk
    refine wpAny_in_heap (room9 hu) k2 hs dd ?_
    rcases at_tup (k := k) px k1 with ⟨w, v', vv, e1, e2, e3, e4⟩ | ⟨e1, e2⟩
    · rw [e1]; rw [e2] at h; exact h _ (I.tok _)
    · rw [e1]; rw [e2] at h; exact h _ (I.tok _)
theorem dd_notIn {Q : Value → Shared → Prop} (hu : A.units + 65 < cLine) (I : Inv X pins σ H s) (ha : H a = some (shO a (.dct es))) (ok : KOk kvs) (r : RpE (cn X P) H F es.1 kvs) (hk : Rp (cn X P) H F y k) (ry : RelV y u) (fit : fitK kvs k = true)
    (h : ∀ s', Inv X pins σ H s' → Q (.bool (!(getD kvs k).isSome)) s') : wpAny (model X.prog X.w) A (compareOp .NotIn u (.ref a)) Q E s := by
  obtain ⟨_, hs, _⟩ := dict_at I ha
  rcases fit_kind ok fit with ⟨ft, fk⟩ | ⟨ft, fk⟩
  · obtain ⟨vs, px, dd⟩ := dict_F I ha ok r ft
    refine wpAny_notIn_of (flat_is hk ry fk) hs dd.mapOf ?_
    rcases at_flat (k := k) px fk with ⟨w, v', vv, e1, e2, e3, e4⟩ | ⟨e1, e2⟩
    · rw [e1]; rw [e2] at h; exact h _ (I.tok _)
    · rw [e1]; rw [e2] at h; exact h _ (I.tok _)
  · obtain ⟨xs, ex, px, dd⟩ := dict_H I ha ok r ft
    obtain ⟨nk, b, k1, rfl, _, k2⟩ := tup_is I hk ry fk
    refine notIn_keyed (room9 hu) k2 hs ⟨xs, dd, rfl⟩ ?_
    rw [valueAt_pairsH, Option.isSome_map]
    rcases at_tup (k := k) px k1 with ⟨w, v', vv, e1, e2, e3, e4⟩ | ⟨e1, e2⟩
    · rw [e1]; rw [e2] at h; exact h _ (I.tok _)
    · rw [e1]; rw [e2] at h; exact h _ (I.tok _)
/-- d.get(k, z) -/
theorem dd_get2 {Q : Value → Shared → Prop} {z : Value} (hu : A.units + 65 < cLine) (I : Inv X pins σ H s) (ha : H a = some (shO a (.dct es))) (ok : KOk kvs) (r : RpE (cn X P) H F es.1 kvs) (hk : Rp (cn X P) H F y k) (ry : RelV y u) (fit : fitK kvs k = true)
    (h1 : ∀ v vv w s', getD kvs k = some v → Inv X pins σ H s' → RelV vv w → Rp (cn X P) H F vv v → Q w s') (h2 : ∀ s', getD kvs k = none → Inv X pins σ H s' → Q z s') : wpAny (model X.prog X.w) A (call (.builtin "dict.get") [.ref a, u, z]) Q E s := by
  obtain ⟨_, hs, _⟩ := dict_at I ha
  rcases fit_kind ok fit with ⟨ft, fk⟩ | ⟨ft, fk⟩
  · obtain ⟨vs, px, dd⟩ := dict_F I ha ok r ft
    refine call_meetsIn PySem.F.slot_dict_get dd.typeIs PySem.F.entry_dict_get (PySem.F.args_dict_get_3 _ _ _) (meets_dict_get_default (mixKind X.prog X.w) a (flat_is hk ry fk) hs z) ⟨_, dd.mapOf, ?_⟩
    rcases at_flat (k := k) px fk with ⟨w, v', vv, e1, e2, e3, e4⟩ | ⟨e1, e2⟩
    · rw [e1]; exact h1 v' vv w _ e2 (I.tok _) e3 e4
    · rw [e1]; exact h2 _ e2 (I.tok _)
  · obtain ⟨xs, ex, px, dd⟩ := dict_H I ha ok r ft
    obtain ⟨nk, b, k1, rfl, _, k2⟩ := tup_is I hk ry fk
    refine call_meetsIn PySem.F.slot_dict_get dd.typeIs PySem.F.entry_dict_get (PySem.F.args_dict_get_3 _ _ _) (meetsH_dict_get_default (nestedKind X.prog X.w) a b hs z) ⟨room9 hu, nk, xs, k2, dd, ?_⟩
    rcases at_tup (k := k) px k1 with ⟨w, v', vv, e1, e2, e3, e4⟩ | ⟨e1, e2⟩
    · rw [e1]; exact h1 v' vv w.2 _ e2 (I.tok _) e3 e4
    · rw [e1]; exact h2 _ e2 (I.tok _)
/-- len(d) -/
theorem dd_len {Q : Value → Shared → Prop} (I : Inv X pins σ H s) (ha : H a = some (shO a (.dct es))) (r : RpE (cn X P) H F es.1 kvs) (h : ∀ t s', Inv X pins σ H s' → Q (.int kvs.length t) s') : wpAny (model X.prog X.w) A (call (.builtin "len") [.ref a]) Q E s := by
  obtain ⟨hl, hs, hd⟩ := dict_at I ha
  have el : es.1.toArray.size = kvs.length := by
    have : ∀ {es : List DictEntry} {kvs : List (D × D)}, RpE (cn X P) H F es kvs → es.length = kvs.length := by
      intro es kvs q
      induction es generalizing kvs with
      | nil => cases q; rfl
      | cons e es ih => cases q with | cons _ _ _ _ _ _ t => simp [ih t]
    simpa using this r
  refine PyProof.Rows.call_len_slot (n := kvs.length) hd.typeIs PySem.F.slot_dict_len (fun Q' hq => call_len_raw hs hd (by rw [el]; exact hq)) (by omega) (by rw [sizeLine_eq] at hl; simp at el; omega) ?_
  exact h _ _ (I.tok _)

theorem Rt.dc {x : V} (h : Rt (cn X P) H F x (.dct kvs)) : ∃ a es, x = .ref a ∧ H a = some (shO a (.dct es)) ∧ KOk kvs ∧ RpE (cn X P) H F es.1 kvs := by
  cases h with
  | of h => cases h with
    | dct f ha ok r => exact ⟨_, _, rfl, ha, ok, r⟩
  | dct ha ok r => exact ⟨_, _, rfl, ha, ok, r⟩
theorem rt_key {x : V} (h : Rt (cn X P) H F x k) (ok : KOk kvs) (f : fitK kvs k = true) : Rp (cn X P) H F x k := by
  cases h with
  | of h => exact h
  | lst _ _ =>
    rcases fit_kind ok f with ⟨_, f⟩ | ⟨_, f⟩
    · cases f
    · obtain ⟨_, _, e, _⟩ := tup_key f
      cases e
  | dct _ _ _ =>
    rcases fit_kind ok f with ⟨_, f⟩ | ⟨_, f⟩
    · cases f
    · obtain ⟨_, _, e, _⟩ := tup_key f
      cases e
theorem ent_keys : ∀ {es : List DictEntry} {kvs : List (D × D)}, RpE (cn X P) H F es kvs → ∃ vs, Vals vs (es.map (·.key)) ∧ RpA (cn X P) H F vs (kvs.map (·.1))
  | _, _, .nil => ⟨[], .nil, .nil⟩
  | _, _, .cons (kv := kv) h1 h2 r1 r2 e1 e2 t => by
    obtain ⟨vs, a, b⟩ := ent_keys t
    exact ⟨kv :: vs, .cons h1 a, .cons r1 b⟩
theorem ent_len : ∀ {es : List DictEntry} {kvs : List (D × D)}, RpE (cn X P) H F es kvs → es.length = kvs.length
  | _, _, .nil => rfl
  | _, _, .cons _ _ _ _ _ _ t => by simp [ent_len t]
/-- list(d) -/
theorem dd_list {Q : Value → Shared → Prop} (hc : X.calm = true) (I : Inv X pins σ H s) (ha : H a = some (shO a (.dct es))) (r : RpE (cn X P) H F es.1 kvs)
    (h : ∀ p vs s', H p = none → RpA (cn X P) H F vs (kvs.map (·.1)) → Inv X pins σ (upd H p (.lst vs)) s' → Q (.ref p) s') : wpAny (model X.prog X.w) X.A (call (.type "list") [.ref a]) Q E s := by
  obtain ⟨hl, hs, o, ho, hx, hd⟩ := dict_at I ha
  obtain ⟨vs, rv, rp⟩ := ent_keys r
  have hsz : es.1.toArray.size = es.1.length := by simp
  refine PySem.W.kdl_call (kdl_raw hs hx hd) (I.ok.hd hc) ho (by omega) fun h' tk acc' c' kp e it => ?_
  have ea : acc'.toList = es.1.map (·.key) := by
    have hlen : acc'.toList.length = es.1.length := by rw [Array.length_toList, it.1]; simp
    apply List.ext_getElem (by simpa using hlen)
    intro j h1 h2
    obtain ⟨en, hen, hv⟩ := it.2 j acc'.toList[j] (by rw [← Array.getElem?_toList]; exact List.getElem?_eq_getElem h1)
    rw [hv]
    have h3 : j < es.1.length := by omega
    have hen' : some es.1[j] = some en := by simpa [h3] using hen
    rw [List.getElem_map, Option.some.inj hen']
  refine h s.heap.objs.size vs _ (I.hok.fresh (Nat.le_refl _)) rp (I.laid (t' := tk) kp (Nat.le_refl _) ⟨?_, acc'.toList, c', by rw [ea]; exact rv, by rw [Array.toArray_toList]; exact e⟩)
  have := rv.length
  simp at this
  omega
end
end PL

/-! PL13: x[::-1] of a list or a tuple. -/
namespace HT
open PySem PyProof.Rows
open PySem.SeqAt
open PySem.AutoSeq1 (wpAny_loadPart')
open PySem.MeetsSeq PySem.MeetsSeq2 PySem.MeetsSeq3
section
variable {prog : Program} {w : World} {A : Around} {E : Value → Shared → Prop} {s : Shared}
theorem pl_adj (n : Nat) : Builtin.Slice.sliceAdjust none none (-1) (n : Int) = ((n : Int) - 1, -1) := by
  unfold Builtin.Slice.sliceAdjust
  simp
theorem pl_places (n : Nat) : Builtin.Slice.slicePlaces ((n : Int) - 1) (-1) (-1) = n := by
  unfold Builtin.Slice.slicePlaces
  simp
  omega
theorem pl_pick (xs : Array Value) : ((List.range xs.size).filterMap fun (m : Nat) => xs[((xs.size : Int) - 1 + (m : Int) * (-1)).toNat]?).toArray = xs.toList.reverse.toArray := by
  congr 1
  have e : ∀ (f g : Nat → Option Value) (l : List Nat), (∀ m ∈ l, f m = g m) → l.filterMap f = l.filterMap g := fun f g l h => by
    induction l with
    | nil => rfl
    | cons a l ih => rw [List.filterMap_cons, List.filterMap_cons, h a List.mem_cons_self, ih fun m hm => h m (List.mem_cons_of_mem _ hm)]
  rw [e _ (fun m => xs[xs.size - 1 - m]?) _ fun m hm => by
    have := List.mem_range.mp hm
    show xs[_]? = xs[_]?
    congr 1
    omega]
  have k : (fun m => xs[xs.size - 1 - m]?) = (fun j => xs[j]?) ∘ (fun m => xs.size - 1 - m) := rfl
  rw [k, ← List.filterMap_map, PySem.W.krv_range, List.filterMap_reverse, PySem.W.krv_all]
theorem sliceApplied_rev {sl : Addr} {vl vu vs : Value} {n : Nat} {Q : Int × Int × Nat → Shared → Prop} (hs : s.heap.IsSliceOf sl vl vu vs) (pl : IsPart vl none) (pu : IsPart vu none) (ps : IsPart vs (some (-1)))
    (h : Q ((n : Int) - 1, -1, n) s) : wpAny (model prog w) A (Builtin.Slice.sliceApplied (.ref sl) (pure (n : Int))) Q E s := by
  obtain ⟨os, hos, hcs, hds⟩ := id hs
  unfold Builtin.Slice.sliceApplied Builtin.Slice.sliceFields
  refine wpAny_bind (wpAny_bind (wpAny_field hos hds (x := vl) rfl (wpAny_bind (wpAny_field hos hds (x := vu) rfl (wpAny_bind (wpAny_field hos hds (x := vs) rfl (wpAny_pure ?_)))))))
  refine wpAny_bind (slicePart_ ps ?_)
  show wpAny _ _ (if ((-1 : Int) == 0) = true then _ else _) _ _ s
  rw [if_neg (by decide)]
  refine wpAny_bind (slicePart_ pl (wpAny_bind (slicePart_ pu (wpAny_bind (wpAny_pure ?_)))))
  show wpAny _ _ (match Builtin.Slice.sliceAdjust none none (-1) (n : Int) with | (lo, hi) => pure (lo, (-1 : Int), Builtin.Slice.slicePlaces lo hi (-1))) _ _ s
  rw [pl_adj n]
  show wpAny _ _ (pure ((n : Int) - 1, (-1 : Int), Builtin.Slice.slicePlaces ((n : Int) - 1) (-1) (-1))) _ _ s
  rw [pl_places]
  exact wpAny_pure h
theorem getItem_tuple_rev {t sl : Addr} {items : Array Value} {vl vu vs : Value} {Q : Value → Shared → Prop} (ht : IsTup s.heap t items) (hs : s.heap.IsSliceOf sl vl vu vs) (pl : IsPart vl none) (pu : IsPart vu none) (ps : IsPart vs (some (-1)))
    (h : Q (.ref s.heap.objs.size) { s with heap := s.heap.push { cls := .type "tuple", data := .seq items.toList.reverse.toArray } })
    (hsz : items.size ≤ sizeLine) : wpAny (model prog w) A (getItem (.ref t) (.ref sl)) Q E s := by
  have fits : sizeOk (.seq items.toList.reverse.toArray) := by
    show items.toList.reverse.toArray.size ≤ sizeLine
    simpa using hsz
  obtain ⟨os, hos, hcs, hds⟩ := id hs
  have isS : s.TypeIs (.ref sl) "slice" := ⟨os, hos, hcs⟩
  unfold getItem
  try with_reducible refine wpAny_holding ?_
  first | refine wpAny_bind (wpAny_pure ?_) | skip
  refine wpAny_bind (wpAny_sequenceKey ht.typeIs (by decide) ?_)
  refine wpAny_bind (wpAny_callSpecial?_slot (name := Str.ofString "__getitem__") ht.typeIs PyProof.Rows.slot_tuple_getitem (wpAny_call_entry PyProof.Rows.slot_tuple_getitem ht.typeIs entry_tuple_getitem ?_ (args_tuple_getitem _ _)))
  show wpAny _ _ (Builtin.Tuple.tupleItemsOf (.ref t) >>= _) _ _ s
  refine wpAny_bind (tupleItemsOf_ ht ?_)
  refine wpAny_bind (wpAny_typeOf isS ?_)
  rw [if_pos (by decide)]
  refine wpAny_bind (sliceApplied_rev hs pl pu ps ?_)
  show wpAny _ _ (if (((items.size : Int) - 1 == 0 && (-1 : Int) == 1 && items.size == items.size) = true) then _ else _) _ _ s
  rw [if_neg (by simp), pl_pick]
  first
    | exact wpAny_bind (m := Builtin.Tuple.tupleExact _) (wpAny_newObj_type (wpAny_pure ⟨_, rfl, wpAny_pure h⟩) fits)
    | exact wpAny_bind (wpAny_bind (m := Builtin.Tuple.tupleExact _) (wpAny_newObj_type (wpAny_pure (wpAny_pure ⟨_, rfl, wpAny_pure h⟩)) fits))
    | exact wpAny_bind (wpAny_bind (m := Builtin.Tuple.tupleExact _) (wpAny_newObj_type (wpAny_pure ⟨_, rfl, wpAny_pure h⟩) fits))
    | exact wpAny_bind (m := Builtin.Tuple.tupleExact _) (wpAny_newObj_type (wpAny_bind (wpAny_pure (wpAny_pure ⟨_, rfl, wpAny_pure h⟩))) fits)
end
end HT
namespace PL
open PySem PySem.Spec PySem.Calls L2
def dRev : D → Option Val
  | .lst ds => some ⟨.lst ds.reverse, 1⟩
  | .tup ds => some ⟨.tup ds.reverse, 0⟩
  | _ => none
theorem RpA.reverse {c : Cn} {H : Hp} {F : Fz} : ∀ {vs : List V} {ds : List D}, RpA c H F vs ds → RpA c H F vs.reverse ds.reverse
  | _, _, .nil => .nil
  | _, _, .cons h r => by
    rw [List.reverse_cons, List.reverse_cons]
    exact r.reverse.append (.cons h .nil)
section
variable {X : Cx} {P : Par} {pos p1 p2 p3 : Pos}
theorem s_rev {e : Expr} {a : Opd} {k : Nat} (ha : SO X P e a) : SE X P (.Subscript e (.Slice none none (some (.UnaryOp .USub (.Constant (.int 1) k p1) p2)) p3) pos) (e1 dRev a) := by
  refine ⟨⟨fun pins s σ H Q I h => ?_⟩⟩
  refine PyProof.Rows.Subscript_ (thn (ha.pe.run pins s σ H _ I (core1 h)) fun v s1 ⟨x, H1, I1, r1, q1⟩ => ?_)
  obtain ⟨F, d, w, tr, hx, ho, q⟩ := q1
  have hst : PO X (some (.UnaryOp .USub (.Constant (.int 1) k p1) p2)) (tPart (tUn (rU fun i => .int (-i)) (tC (.int 1)))) := po_some (pe_un un_neg pe_int)
  refine wpAny_Slice (thn (po_none.run pins s1 σ H1 (fun o H2 => o = none ∧ H2 = H1) I1 ⟨rfl, rfl⟩) fun vl s2 ⟨l, H2, I2, pl, el, e2⟩ => ?_)
  subst el e2
  refine thn (po_none.run pins s2 σ H2 (fun o H3 => o = none ∧ H3 = H2) I2 ⟨rfl, rfl⟩) fun vu s3 ⟨u, H3, I3, pu, eu, e3⟩ => ?_
  subst eu e3
  refine thn (hst.run pins s3 σ H3 (fun o H4 => o = some (-1) ∧ H4 = H3) I3 ⟨1, rfl, -1, rfl, rfl, rfl⟩) fun vs s4 ⟨o, H4, I4, ps, eo, e4⟩ => ?_
  subst eo e4
  have I5 : L2.Inv X pins σ H4 { s4 with heap := s4.heap.push { cls := .type "slice", data := .fields #[vl, vu, vs] } } := I4.kept (t' := s4.toks) fun b ob q => Heap.get?_push_of_some _ q
  unfold dRev at ho
  split at ho
  · cases ho
    obtain ⟨a, xs, rfl, hx, rv⟩ := hx.li
    cases r1
    obtain ⟨us, r, ht, hz⟩ := I5.list (rd_sqL (c := cn X P) hx)
    have hl := r.length
    show wpAny (model X.prog X.w) X.A (PyProof.Rows.subscriptTail e (.Slice none none (some (.UnaryOp .USub (.Constant (.int 1) k p1) p2)) p3) (.ref a) (.ref s4.heap.objs.size)) (EP X pins σ Q) X.xe { s4 with heap := s4.heap.push { cls := .type "slice", data := .fields #[vl, vu, vs] } }
    refine PyProof.Rows.tail_any (ops := [.ref a, .ref s4.heap.objs.size]) ht.isList.typeIs (PySem.slot_list_getitem.lookup) ?_ (by with_unfolding_all rfl)
    refine wpAny_getItem_list_slice ht.isList (Heap.IsSliceOf.new _ vl vu vs) pl pu ps (by decide) ?_ (by rw [List.size_toArray]; omega)
    rw [PySem.W.krv_pick]
    exact ⟨.ref _, _, I5.laid (t' := s4.toks) (o := .lst xs.reverse) (fun b ob q => Heap.get?_push_of_some _ q) (Nat.le_refl _) ⟨by rw [List.length_reverse]; exact hz, _, 0, r.reverse, Heap.get?_push_size _ rfl⟩, rfl, q.lst (I5.hok.fresh (Nat.le_refl _)) rv.reverse⟩
  · cases ho
    obtain ⟨a, xs, rfl, hx, rv⟩ := hx.tup
    cases r1
    obtain ⟨us, r, ht, hz⟩ := I5.tuple hx
    have hl := r.length
    show wpAny (model X.prog X.w) X.A (PyProof.Rows.subscriptTail e (.Slice none none (some (.UnaryOp .USub (.Constant (.int 1) k p1) p2)) p3) (.ref a) (.ref s4.heap.objs.size)) (EP X pins σ Q) X.xe { s4 with heap := s4.heap.push { cls := .type "slice", data := .fields #[vl, vu, vs] } }
    refine PyProof.Rows.tail_any (ops := [.ref a, .ref s4.heap.objs.size]) ht.typeIs (PyProof.Rows.slot_tuple_getitem.lookup) ?_ (by with_unfolding_all rfl)
    refine HT.getItem_tuple_rev ht (Heap.IsSliceOf.new _ vl vu vs) pl pu ps ?_ (by rw [List.size_toArray]; omega)
    exact ⟨.ref _, _, I5.laid (t' := s4.toks) (o := .tup xs.reverse) (fun b ob q => Heap.get?_push_of_some _ q) (Nat.le_refl _) ⟨by rw [List.length_reverse]; exact hz, _, r.reverse, PyProof.Rows.IsTup.new _ _⟩, rfl, q.tup (I5.hok.fresh (Nat.le_refl _)) rv.reverse⟩
  · cases ho
end
end PL

/-! PLT: the order of data. -/
namespace PL
open PySem PySem.Spec PySem.Calls L2
/-! ### the order of data -/
mutual
def ltD : D → D → Bool
  | .int a, .int b => decide (a < b)
  | .str a, .str b => decide (a.cps.toList < b.cps.toList)
  | .tup xs, .tup ys => ltDs xs ys
  | .lst xs, .lst ys => ltDs xs ys
  | _, _ => false
def ltDs : List D → List D → Bool
  | [], [] => false
  | [], _ :: _ => true
  | _ :: _, [] => false
  | x :: xs, y :: ys => if eqD x y = true then ltDs xs ys else ltD x y
end
mutual
/-- of one kind at each place -/
def alkD : D → D → Bool
  | .int _, .int _ => true
  | .str _, .str _ => true
  | .tup xs, .tup ys => alkDs xs ys
  | .lst xs, .lst ys => alkDs xs ys
  | _, _ => false
def alkDs : List D → List D → Bool
  | x :: xs, y :: ys => alkD x y && alkDs xs ys
  | _, _ => true
end
mutual
theorem lt_toP : ∀ (a b : D) {p q : PyData}, alkD a b = true → toP a = some p → toP b = some q → PySem.W.alike p q = true ∧ PySem.W.dataLt p q = ltD a b
  | .int a, b, p, q, h, h1, h2 => by
    cases b with
    | int j => cases h1; cases h2; exact ⟨by simp [PySem.W.alike], PySem.W.dataLt_int a j⟩
    | _ => cases h
  | .str a, b, p, q, h, h1, h2 => by
    cases b with
    | str j => cases h1; cases h2; exact ⟨by simp [PySem.W.alike], PySem.W.dataLt_str a j⟩
    | _ => cases h
  | .tup xs, b, p, q, h, h1, h2 => by
    cases b with
    | tup ys =>
      simp [toP] at h1 h2
      obtain ⟨ps, e1, rfl⟩ := h1
      obtain ⟨qs, e2, rfl⟩ := h2
      obtain ⟨a1, a2⟩ := lts_toP xs ys (by simpa [alkD] using h) e1 e2
      exact ⟨by simpa [PySem.W.alike] using a1, by rw [PySem.W.dataLt_tuple]; simpa [ltD] using a2⟩
    | _ => cases h
  | .lst xs, b, p, q, h, h1, h2 => by
    cases b with
    | lst ys =>
      simp [toP] at h1 h2
      obtain ⟨ps, e1, rfl⟩ := h1
      obtain ⟨qs, e2, rfl⟩ := h2
      obtain ⟨a1, a2⟩ := lts_toP xs ys (by simpa [alkD] using h) e1 e2
      exact ⟨by simpa [PySem.W.alike] using a1, by rw [PySem.W.dataLt_list]; simpa [ltD] using a2⟩
    | _ => cases h
  | .non, _, _, _, h, _, _ => by simp [alkD] at h
  | .bl _, _, _, _, h, _, _ => by simp [alkD] at h
  | .dct _, _, _, _, h, _, _ => by simp [alkD] at h
  | .fn _, _, _, _, h, _, _ => by simp [alkD] at h
  | .src _, _, _, _, h, _, _ => by simp [alkD] at h
theorem lts_toP : ∀ (a b : List D) {p q : List PyData}, alkDs a b = true → toPs a = some p → toPs b = some q → PySem.W.alikeAll p q = true ∧ PyProof.Rows.lexLt PyProof.Rows.itemOrd (PySem.W.keyToksAll p) (PySem.W.keyToksAll q) = ltDs a b
  | [], [], p, q, h, h1, h2 => by
    cases h1; cases h2
    exact ⟨rfl, PyProof.Rows.lex_irrefl (O := PyProof.Rows.itemOrd) _⟩
  | [], y :: ys, p, q, h, h1, h2 => by
    cases h1
    unfold toPs at h2
    split at h2
    · cases h2
      refine ⟨rfl, ?_⟩
      rw [PySem.W.toks_all_cons, ltDs]
      simp only [PySem.W.keyToksAll]
      rw [PyProof.Rows.lex_diff (O := PyProof.Rows.itemOrd) (by simp)]
      rfl
    · cases h2
  | x :: xs, [], p, q, h, h1, h2 => by
    cases h2
    unfold toPs at h1
    split at h1
    · cases h1
      refine ⟨by simp [PySem.W.alikeAll], ?_⟩
      rw [PySem.W.toks_all_cons, ltDs]
      simp only [PySem.W.keyToksAll]
      rw [PyProof.Rows.lex_diff (O := PyProof.Rows.itemOrd) (by simp)]
      rfl
    · cases h1
  | x :: xs, y :: ys, p, q, h, h1, h2 => by
    unfold toPs at h1 h2
    split at h1
    · rename_i p1 ps1 a1 a2
      cases h1
      split at h2
      · rename_i q1 qs1 b1 b2
        cases h2
        unfold alkDs at h
        obtain ⟨k1, k2⟩ := Bool.and_eq_true_iff.mp h
        obtain ⟨c1, c2⟩ := lt_toP x y k1 a1 b1
        obtain ⟨d1, d2⟩ := lts_toP xs ys k2 a2 b2
        refine ⟨by rw [PySem.W.alikeAll, c1, d1]; rfl, ?_⟩
        rw [PySem.W.dataLt_cons c1, ltDs, eqD_eqv x y a1 b1, d2, c2]
      · cases h2
    · cases h1
end


theorem alk_none {a b : D} {p : PyData} (h : alkD a b = true) (e : toP a = some p) : p ≠ .none := by
  cases a with
  | int i => cases e; exact (nomatch ·)
  | str i => cases e; exact (nomatch ·)
  | lst xs =>
    simp [toP] at e
    obtain ⟨ps, _, rfl⟩ := e
    exact (nomatch ·)
  | tup xs =>
    simp [toP] at e
    obtain ⟨ps, _, rfl⟩ := e
    exact (nomatch ·)
  | _ => simp [alkD] at h
end PL

/-! PL14: comparisons, isinstance, calls of the library's functions, x[i], slices. -/
namespace PL
open PySem PySem.Spec PySem.Calls L2

section
variable {X : Cx} {P : Par}
/-! ### comparisons -/
def dLt : D → D → Option Val
  | .int i, .int j => vB (decide (i < j))
  | d, e => if (okD 60 d && okD 60 e && (alkD d e && alkD e d)) = true then vB (ltD d e) else none
def dLe : D → D → Option Val
  | .int i, .int j => vB (decide (i ≤ j))
  | d, e => if (okD 60 d && okD 60 e && (alkD d e && alkD e d)) = true then vB (!ltD e d) else none
def dGt : D → D → Option Val
  | .int i, .int j => vB (decide (j < i))
  | d, e => if (okD 60 d && okD 60 e && (alkD d e && alkD e d)) = true then vB (ltD e d) else none
def dGe : D → D → Option Val
  | .int i, .int j => vB (decide (j ≤ i))
  | d, e => if (okD 60 d && okD 60 e && (alkD d e && alkD e d)) = true then vB (!ltD d e) else none
theorem o_lt (hu : X.A.units + 65 < cLine) : OpR X (compareOp .Lt) (rD2 (cn X P) dLt) := by
  intro pins s σ H x y v u Q I rx ry ⟨F, d, e, w, tr, h1, h2, ho, q⟩
  unfold dLt at ho
  split at ho
  · cases ho
    cases h1.int
    cases h2.int
    exact op_lt pins s σ H _ _ v u Q I rx ry ⟨_, _, rfl, rfl, q.val (.inl rfl) (.bl _)⟩
  · split at ho
    · rename_i hk
      cases ho
      obtain ⟨k12, k3⟩ := Bool.and_eq_true_iff.mp hk
      obtain ⟨k1, k2⟩ := Bool.and_eq_true_iff.mp k12
      obtain ⟨a1, a2⟩ := Bool.and_eq_true_iff.mp k3
      obtain ⟨p1, e1, _, d1⟩ := okD_sh 60 d k1
      obtain ⟨p2, e2, _, d2⟩ := okD_sh 60 e k2
      obtain ⟨as, r1⟩ := Dp.reads I p1 _ _ (h1.dp e1) rx
      obtain ⟨bs, r2⟩ := Dp.reads I p2 _ _ (h2.dp e2) ry
      have fact := (lt_toP d e a1 e1 e2).2
      refine PySem.W.lt_data r1 r2 (lt_toP d e a1 e1 e2).1 (alk_none a1 e1) (by have := Nat.min_le_left p1.depth p2.depth; omega) ⟨.bl _, H, I, rfl, ?_⟩
      rw [fact]
      exact q.val (.inl rfl) (.bl _)
    · cases ho
theorem o_le (hu : X.A.units + 65 < cLine) : OpR X (compareOp .LtE) (rD2 (cn X P) dLe) := by
  intro pins s σ H x y v u Q I rx ry ⟨F, d, e, w, tr, h1, h2, ho, q⟩
  unfold dLe at ho
  split at ho
  · cases ho
    cases h1.int
    cases h2.int
    exact op_le pins s σ H _ _ v u Q I rx ry ⟨_, _, rfl, rfl, q.val (.inl rfl) (.bl _)⟩
  · split at ho
    · rename_i hk
      cases ho
      obtain ⟨k12, k3⟩ := Bool.and_eq_true_iff.mp hk
      obtain ⟨k1, k2⟩ := Bool.and_eq_true_iff.mp k12
      obtain ⟨a1, a2⟩ := Bool.and_eq_true_iff.mp k3
      obtain ⟨p1, e1, _, d1⟩ := okD_sh 60 d k1
      obtain ⟨p2, e2, _, d2⟩ := okD_sh 60 e k2
      obtain ⟨as, r1⟩ := Dp.reads I p1 _ _ (h1.dp e1) rx
      obtain ⟨bs, r2⟩ := Dp.reads I p2 _ _ (h2.dp e2) ry
      have fact := (lt_toP e d a2 e2 e1).2
      refine PySem.W.le_data r1 r2 (lt_toP d e a1 e1 e2).1 (alk_none a1 e1) (by have := Nat.min_le_left p1.depth p2.depth; omega) ⟨.bl _, H, I, rfl, ?_⟩
      rw [fact]
      exact q.val (.inl rfl) (.bl _)
    · cases ho
theorem o_gt (hu : X.A.units + 65 < cLine) : OpR X (compareOp .Gt) (rD2 (cn X P) dGt) := by
  intro pins s σ H x y v u Q I rx ry ⟨F, d, e, w, tr, h1, h2, ho, q⟩
  unfold dGt at ho
  split at ho
  · cases ho
    cases h1.int
    cases h2.int
    exact op_gt pins s σ H _ _ v u Q I rx ry ⟨_, _, rfl, rfl, q.val (.inl rfl) (.bl _)⟩
  · split at ho
    · rename_i hk
      cases ho
      obtain ⟨k12, k3⟩ := Bool.and_eq_true_iff.mp hk
      obtain ⟨k1, k2⟩ := Bool.and_eq_true_iff.mp k12
      obtain ⟨a1, a2⟩ := Bool.and_eq_true_iff.mp k3
      obtain ⟨p1, e1, _, d1⟩ := okD_sh 60 d k1
      obtain ⟨p2, e2, _, d2⟩ := okD_sh 60 e k2
      obtain ⟨as, r1⟩ := Dp.reads I p1 _ _ (h1.dp e1) rx
      obtain ⟨bs, r2⟩ := Dp.reads I p2 _ _ (h2.dp e2) ry
      have fact := (lt_toP e d a2 e2 e1).2
      refine PySem.W.gt_data r1 r2 (lt_toP d e a1 e1 e2).1 (alk_none a1 e1) (by have := Nat.min_le_left p1.depth p2.depth; omega) ⟨.bl _, H, I, rfl, ?_⟩
      rw [fact]
      exact q.val (.inl rfl) (.bl _)
    · cases ho
theorem o_ge (hu : X.A.units + 65 < cLine) : OpR X (compareOp .GtE) (rD2 (cn X P) dGe) := by
  intro pins s σ H x y v u Q I rx ry ⟨F, d, e, w, tr, h1, h2, ho, q⟩
  unfold dGe at ho
  split at ho
  · cases ho
    cases h1.int
    cases h2.int
    exact op_ge pins s σ H _ _ v u Q I rx ry ⟨_, _, rfl, rfl, q.val (.inl rfl) (.bl _)⟩
  · split at ho
    · rename_i hk
      cases ho
      obtain ⟨k12, k3⟩ := Bool.and_eq_true_iff.mp hk
      obtain ⟨k1, k2⟩ := Bool.and_eq_true_iff.mp k12
      obtain ⟨a1, a2⟩ := Bool.and_eq_true_iff.mp k3
      obtain ⟨p1, e1, _, d1⟩ := okD_sh 60 d k1
      obtain ⟨p2, e2, _, d2⟩ := okD_sh 60 e k2
      obtain ⟨as, r1⟩ := Dp.reads I p1 _ _ (h1.dp e1) rx
      obtain ⟨bs, r2⟩ := Dp.reads I p2 _ _ (h2.dp e2) ry
      have fact := (lt_toP d e a1 e1 e2).2
      refine PySem.W.ge_data r1 r2 (lt_toP d e a1 e1 e2).1 (alk_none a1 e1) (by have := Nat.min_le_left p1.depth p2.depth; omega) ⟨.bl _, H, I, rfl, ?_⟩
      rw [fact]
      exact q.val (.inl rfl) (.bl _)
    · cases ho
def dEq (d e : D) : Option Val := if (okD 64 d && okD 64 e) = true then vB (eqD d e) else none
def dNe (d e : D) : Option Val := if (okD 64 d && okD 64 e) = true then vB (!eqD d e) else none
theorem o_eq (hu : X.A.units + 65 < cLine) : OpR X (compareOp .Eq) (rD2 (cn X P) dEq) := by
  intro pins s σ H x y v u Q I rx ry ⟨F, d, e, w, tr, h1, h2, ho, q⟩
  unfold dEq at ho
  split at ho
  · rename_i hk
    cases ho
    obtain ⟨k1, k2⟩ := Bool.and_eq_true_iff.mp hk
    obtain ⟨p1, e1, _⟩ := okD_sh 64 d k1
    obtain ⟨p2, e2, _⟩ := okD_sh 64 e k2
    refine op_eqD (by omega) pins s σ H _ _ v u Q I rx ry ⟨p1, p2, h1.dp e1, h2.dp e2, shaped_of k1 e1, shaped_of k2 e2, ?_⟩
    rw [eqD_eqv d e e1 e2]
    exact q.val (.inl rfl) (.bl _)
  · cases ho
theorem o_ne (hu : X.A.units + 65 < cLine) : OpR X (compareOp .NotEq) (rD2 (cn X P) dNe) := by
  intro pins s σ H x y v u Q I rx ry ⟨F, d, e, w, tr, h1, h2, ho, q⟩
  unfold dNe at ho
  split at ho
  · rename_i hk
    cases ho
    obtain ⟨k1, k2⟩ := Bool.and_eq_true_iff.mp hk
    obtain ⟨p1, e1, _⟩ := okD_sh 64 d k1
    obtain ⟨p2, e2, _⟩ := okD_sh 64 e k2
    refine op_neD (by omega) pins s σ H _ _ v u Q I rx ry ⟨p1, p2, h1.dp e1, h2.dp e2, shaped_of k1 e1, shaped_of k2 e2, ?_⟩
    rw [eqD_eqv d e e1 e2]
    exact q.val (.inl rfl) (.bl _)
  · cases ho
def itemsOf : D → Option (List D)
  | .lst ds => some ds
  | .tup ds => some ds
  | _ => none
def memD (d : D) : List D → Bool
  | [] => false
  | z :: zs => eqD z d || memD d zs
def dIn (d e : D) : Option Val := match e with
  | .dct kvs => if fitK kvs d = true then vB (getD kvs d).isSome else none
  | e => match itemsOf e with
  | some ds => if (okD 64 d && okDs 63 ds) = true then vB (memD d ds) else none
  | none => none
def dNin (d e : D) : Option Val := match e with
  | .dct kvs => if fitK kvs d = true then vB (!(getD kvs d).isSome) else none
  | e => match itemsOf e with
  | some ds => if (okD 64 d && okDs 63 ds) = true then vB (!memD d ds) else none
  | none => none
theorem mem_any {d : D} {p : PyData} (e : toP d = some p) : ∀ {ds : List D} {ps : List PyData}, toPs ds = some ps → (ps.any fun z => PyData.eqv z p) = memD d ds
  | [], _, h => by cases h; rfl
  | z :: zs, ps, h => by
    unfold toPs at h
    split at h
    · rename_i p1 ps1 a1 a2
      cases h
      rw [List.any_cons, memD, eqD_eqv z d a1 e, mem_any e a2]
    · cases h
theorem o_in (hu : X.A.units + 65 < cLine) : OpR X (compareOp .In) (rD2 (cn X P) dIn) := by
  intro pins s σ H x y v u Q I rx ry ⟨F, d, e, w, tr, h1, h2, ho, q⟩
  unfold dIn at ho
  split at ho
  · split at ho
    · rename_i kvs hf
      cases ho
      obtain ⟨a, es, rfl, ha, ok, r⟩ := h2.dc
      cases (show u = Value.ref a from ry)
      exact dd_in hu I ha ok r (rt_key h1 ok hf) rx hf fun s' I' => ⟨.bl _, H, I', rfl, q.val (.inl rfl) (.bl _)⟩
    · cases ho
  split at ho
  · rename_i ds hds
    split at ho
    · rename_i hk
      cases ho
      obtain ⟨k1, k2⟩ := Bool.and_eq_true_iff.mp hk
      obtain ⟨p1, e1, _⟩ := okD_sh 64 d k1
      obtain ⟨p2, e2, c2, _⟩ := okDs_sh 63 ds k2
      have sh := shaped_of k1 e1
      obtain ⟨as, r1⟩ := Dp.reads I p1 x v (h1.dp e1) rx
      unfold itemsOf at hds
      split at hds
      · cases hds
        have t : toP (.lst ds) = some (.list p2) := by unfold toP; rw [e2]; rfl
        obtain ⟨bs, r2⟩ := Dp.reads I (.list p2) y u (h2.dp t) ry
        refine SeqAt.in_list_reads r2 r1 c2 (SeqAt.canLay_of_shaped sh) (PyProof.Rows.room_in_shaped sh hu) ⟨.bl _, H, I, rfl, ?_⟩
        rw [mem_any e1 e2]
        exact q.val (.inl rfl) (.bl _)
      · cases hds
        have t : toP (.tup ds) = some (.tuple p2) := by unfold toP; rw [e2]; rfl
        obtain ⟨bs, r2⟩ := Dp.reads I (.tuple p2) y u (h2.dp t) ry
        refine SeqAt.in_tuple_reads r2 r1 c2 (SeqAt.canLay_of_shaped sh) (PyProof.Rows.room_in_shaped sh hu) ⟨.bl _, H, I, rfl, ?_⟩
        rw [mem_any e1 e2]
        exact q.val (.inl rfl) (.bl _)
      · cases hds
    · cases ho
  · cases ho
theorem o_nin (hu : X.A.units + 65 < cLine) : OpR X (compareOp .NotIn) (rD2 (cn X P) dNin) := by
  intro pins s σ H x y v u Q I rx ry ⟨F, d, e, w, tr, h1, h2, ho, q⟩
  unfold dNin at ho
  split at ho
  · split at ho
    · rename_i kvs hf
      cases ho
      obtain ⟨a, es, rfl, ha, ok, r⟩ := h2.dc
      cases (show u = Value.ref a from ry)
      exact dd_notIn hu I ha ok r (rt_key h1 ok hf) rx hf fun s' I' => ⟨.bl _, H, I', rfl, q.val (.inl rfl) (.bl _)⟩
    · cases ho
  split at ho
  · rename_i ds hds
    split at ho
    · rename_i hk
      cases ho
      obtain ⟨k1, k2⟩ := Bool.and_eq_true_iff.mp hk
      obtain ⟨p1, e1, _⟩ := okD_sh 64 d k1
      obtain ⟨p2, e2, c2, _⟩ := okDs_sh 63 ds k2
      have sh := shaped_of k1 e1
      obtain ⟨as, r1⟩ := Dp.reads I p1 x v (h1.dp e1) rx
      unfold itemsOf at hds
      split at hds
      · cases hds
        have t : toP (.lst ds) = some (.list p2) := by unfold toP; rw [e2]; rfl
        obtain ⟨bs, r2⟩ := Dp.reads I (.list p2) y u (h2.dp t) ry
        refine SeqAt.notIn_list_reads r2 r1 c2 (SeqAt.canLay_of_shaped sh) (PyProof.Rows.room_in_shaped sh hu) ⟨.bl _, H, I, rfl, ?_⟩
        rw [mem_any e1 e2]
        exact q.val (.inl rfl) (.bl _)
      · cases hds
        have t : toP (.tup ds) = some (.tuple p2) := by unfold toP; rw [e2]; rfl
        obtain ⟨bs, r2⟩ := Dp.reads I (.tuple p2) y u (h2.dp t) ry
        refine SeqAt.notIn_tuple_reads r2 r1 c2 (SeqAt.canLay_of_shaped sh) (PyProof.Rows.room_in_shaped sh hu) ⟨.bl _, H, I, rfl, ?_⟩
        rw [mem_any e1 e2]
        exact q.val (.inl rfl) (.bl _)
      · cases hds
    · cases ho
  · cases ho
def isNon : D → Bool
  | .non => true
  | _ => false
def dIs : D → D → Option Val
  | d, .non => vB (isNon d)
  | .bl a, .bl b => vB (a == b)
  | _, _ => none
def dIsNot : D → D → Option Val
  | d, .non => vB (!isNon d)
  | .bl a, .bl b => vB (!(a == b))
  | _, _ => none
theorem rt_non {c : Cn} {H : Hp} {F : Fz} {x : V} {d : D} (h : Rt c H F x d) : decide (x = .non) = isNon d := by
  cases h with
  | of r => cases r <;> rfl
  | lst _ _ => rfl
  | dct _ _ _ => rfl
theorem o_is : OpR X (compareOp .Is) (rD2 (cn X P) dIs) := by
  intro pins s σ H x y v u Q I rx ry ⟨F, d, e, w, tr, h1, h2, ho, q⟩
  unfold dIs at ho
  split at ho
  · cases ho
    cases h2.non
    refine op_isN pins s σ H _ _ v u Q I rx ry ⟨rfl, ?_⟩
    rw [rt_non h1]
    exact q.val (.inl rfl) (.bl _)
  · cases ho
    cases h1.bl
    cases h2.bl
    exact op_is_bl pins s σ H _ _ v u Q I rx ry ⟨_, _, rfl, rfl, q.val (.inl rfl) (.bl _)⟩
  · cases ho
theorem o_isnot : OpR X (compareOp .IsNot) (rD2 (cn X P) dIsNot) := by
  intro pins s σ H x y v u Q I rx ry ⟨F, d, e, w, tr, h1, h2, ho, q⟩
  unfold dIsNot at ho
  split at ho
  · cases ho
    cases h2.non
    refine op_notN pins s σ H _ _ v u Q I rx ry ⟨rfl, ?_⟩
    rw [rt_non h1]
    exact q.val (.inl rfl) (.bl _)
  · cases ho
    cases h1.bl
    cases h2.bl
    exact op_isnot_bl pins s σ H _ _ v u Q I rx ry ⟨_, _, rfl, rfl, q.val (.inl rfl) (.bl _)⟩
  · cases ho

/-! ### isinstance -/
def tyD : D → String
  | .non => "NoneType"
  | .bl _ => "bool"
  | .int _ => "int"
  | .str _ => "str"
  | .tup _ => "tuple"
  | .lst _ => "list"
  | .dct _ => "dict"
  | .fn _ => "function"
  | .src _ => "list"
def plainD : D → Prop
  | .dct _ => False
  | .fn _ => False
  | .src _ => False
  | _ => True
theorem rt_ty {H : Hp} {F : Fz} {x : V} {d : D} (h : Rt (cn X P) H F x d) : plainD d → TyX X.K H x (.type (tyD d)) := by
  have lst : ∀ {a : Addr} {vs : List V}, Rd H a (.lst vs) → TyX X.K H (.ref a) (.type "list") := fun h => by
    rcases h with h | ⟨o, h⟩
    · exact .base (.lst h)
    · exact .base (.frz h)
  intro hd
  cases h with
  | of r =>
    cases r with
    | non => exact .base .non
    | bl b => exact .base (.bl b)
    | int i => exact .base (.int i)
    | str i => exact .base (.str i)
    | @tup a vs ds h r =>
      rcases h with (h | ⟨o, h⟩) | ⟨o, its, m, hk, hc, _⟩
      · exact .base (.tup h)
      · exact .fTuple h
      · exact .kTuple hk hc
    | lst f h r => exact lst h
    | dct _ _ _ _ => exact hd.elim
    | fn _ => exact hd.elim
    | src _ => exact hd.elim
  | lst h r => exact lst (.of h)
  | dct _ _ _ => exact hd.elim
def isiT (t T : String) : Bool := t == T || (t == "bool" && T == "int")
def dIsi (T : String) (d : D) : Option Val := match d with
  | .dct _ => none
  | .fn _ => none
  | .src _ => none
  | d => vB (isiT (tyD d) T)
theorem kit_tys (K : PySem.W.Frag) {T : String} (hT : T = "int" ∨ T = "bool" ∨ T = "str" ∨ T = "tuple" ∨ T = "list") {t : String} (ht : t = "NoneType" ∨ t = "bool" ∨ t = "int" ∨ t = "str" ∨ t = "tuple" ∨ t = "list") :
    PySem.W.kitOne K (.type t) (.type T) = some (isiT t T) := by
  rcases hT with rfl | rfl | rfl | rfl | rfl <;> rcases ht with rfl | rfl | rfl | rfl | rfl | rfl <;> rfl
theorem s_isi {x T : Str} {n : String} {p p2 pos : Pos} {e : Expr} {a : Opd} (hT : n = "int" ∨ n = "bool" ∨ n = "str" ∨ n = "tuple" ∨ n = "list") (hx : x = "isinstance") (hg : Gl X x) (hm : X.mg x = none) (hg2 : Gl X T) (hm2 : X.mg T = none) (hv2 : bootBuiltins T = some (.type n)) (ha : SO X P e a)
    (hn2 : T ≠ "__name__" := by decide) (hd2 : (T == ("__debug__" : Str)) = false := by decide)
    (he : starEach [e, .Name T p2] X.env = (false, eval e X.env) :: starEach [.Name T p2] X.env := by rfl) (he2 : starEach [.Name T p2] X.env = (false, eval (.Name T p2) X.env) :: starEach [] X.env := by rfl) (hpl : (backTo pos (starEach [.Name T p2] X.env)).any (·.1) = false := by rfl) :
    SE X P (.Call (.Name x p) [e, .Name T p2] [] pos) (e1 (dIsi n) a) := by
  subst hx
  refine ⟨pe_imp (pe_callB (r := rIsi X.K) call_isi hg hm (by rfl) (pa_cons ha.pe (pa_cons (pe_bltn (v := .ty n) hg2 hm2 hv2 rfl hn2 hd2) pa_nil he2) he) (by decide) (by decide) he hpl) fun σ H Q h => ?_⟩
  refine tO_mono (core1 h) fun x1 H1 ⟨F, d, w, tr, hx, ho, q⟩ => ?_
  unfold dIsi at ho
  have fin : ∀ (h1 : w = ⟨.bl (isiT (tyD d) n), 0⟩), plainD d → rIsi X.K [x1, .ty n] H1 Q := fun h1 hd => by
    subst h1
    refine ⟨x1, .ty n, _, _, _, rfl, .ty n, rt_ty hx hd, kit_tys X.K hT ?_, q.val (.inl rfl) (.bl _)⟩
    cases d with
    | dct _ => exact hd.elim
    | fn _ => exact hd.elim
    | src _ => exact hd.elim
    | non => exact .inl rfl
    | bl _ => exact .inr (.inl rfl)
    | int _ => exact .inr (.inr (.inl rfl))
    | str _ => exact .inr (.inr (.inr (.inl rfl)))
    | tup _ => exact .inr (.inr (.inr (.inr (.inl rfl))))
    | lst _ => exact .inr (.inr (.inr (.inr (.inr rfl))))
  cases d with
  | dct _ => cases ho
  | fn _ => cases ho
  | src _ => cases ho
  | non => cases ho; exact fin rfl trivial
  | bl _ => cases ho; exact fin rfl trivial
  | int _ => cases ho; exact fin rfl trivial
  | str _ => cases ho; exact fin rfl trivial
  | tup _ => cases ho; exact fin rfl trivial
  | lst _ => cases ho; exact fin rfl trivial

/-! ### calls of the library's functions -/
theorem RtA.one {c : Cn} {H : Hp} {F : Fz} {xs : List V} {d : D} (h : RtA c H F xs [d]) : ∃ x, xs = [x] ∧ Rt c H F x d := by
  cases h with
  | cons h1 h2 => cases h2; exact ⟨_, rfl, h1⟩
theorem RtA.two {c : Cn} {H : Hp} {F : Fz} {xs : List V} {d e : D} (h : RtA c H F xs [d, e]) : ∃ x y, xs = [x, y] ∧ Rt c H F x d ∧ Rt c H F y e := by
  cases h with
  | cons h1 h2 => cases h2 with
    | cons h3 h4 => cases h4; exact ⟨_, _, rfl, h1, h3⟩
theorem RtA.three {c : Cn} {H : Hp} {F : Fz} {xs : List V} {d e f : D} (h : RtA c H F xs [d, e, f]) : ∃ x y z, xs = [x, y, z] ∧ Rt c H F x d ∧ Rt c H F y e ∧ Rt c H F z f := by
  cases h with
  | cons h1 h2 => cases h2 with
    | cons h3 h4 => cases h4 with
      | cons h5 h6 => cases h6; exact ⟨_, _, _, rfl, h1, h3, h5⟩
def oLen : List D → Option Val
  | [.lst ds] => vI ds.length
  | [.tup ds] => vI ds.length
  | [.str x] => if x.length ≤ big then vI x.length else none
  | [.dct kvs] => vI kvs.length
  | _ => none
theorem c_len : CallR X (.builtin "len") (rDn (cn X P) oLen) := by
  intro pins s σ H xs us Q I r ⟨F, ds, w, tr, hx, ho, q⟩
  unfold oLen at ho
  split at ho
  · cases ho
    obtain ⟨x, rfl, h1⟩ := hx.one
    obtain ⟨a, vs, rfl, hl, rv⟩ := h1.li
    refine call_len_seq pins s σ H _ us Q I r ⟨a, vs, rfl, .inl (rd_sqL (c := cn X P) hl), ?_⟩
    rw [rv.length]
    exact q.val (.inl rfl) (.int _)
  · cases ho
    obtain ⟨x, rfl, h1⟩ := hx.one
    obtain ⟨a, vs, rfl, hl, rv⟩ := h1.tup
    refine call_len_seq pins s σ H _ us Q I r ⟨a, vs, rfl, .inr hl, ?_⟩
    rw [rv.length]
    exact q.val (.inl rfl) (.int _)
  · split at ho
    · rename_i hl
      cases ho
      obtain ⟨x, rfl, h1⟩ := hx.one
      cases h1.str
      exact call_len_str pins s σ H _ us Q I r ⟨_, rfl, big_le hl, q.val (.inl rfl) (.int _)⟩
    · cases ho
  · cases ho
    obtain ⟨x, rfl, h1⟩ := hx.one
    obtain ⟨a, es, rfl, ha, ok, re⟩ := h1.dc
    obtain ⟨u, rfl, rx⟩ := r.one
    cases (show u = Value.ref a from rx)
    exact dd_len I ha re fun t s' I' => ⟨.int _, H, I', ⟨t, rfl⟩, q.val (.inl rfl) (.int _)⟩
  · cases ho
def oAbs : List D → Option Val
  | [.int i] => vI (if i < 0 then -i else i)
  | _ => none
theorem c_abs : CallR X (.builtin "abs") (rDn (cn X P) oAbs) := by
  intro pins s σ H xs us Q I r ⟨F, ds, w, tr, hx, ho, q⟩
  unfold oAbs at ho
  split at ho
  · cases ho
    obtain ⟨x, rfl, h1⟩ := hx.one
    cases h1.int
    exact call_abs pins s σ H _ us Q I r ⟨_, rfl, q.val (.inl rfl) (.int _)⟩
  · cases ho
def oInt : List D → Option Val
  | [.int i] => vI i
  | [.bl b] => vI (if b then 1 else 0)
  | _ => none
theorem c_int : CallR X (.type "int") (rDn (cn X P) oInt) := by
  intro pins s σ H xs us Q I r ⟨F, ds, w, tr, hx, ho, q⟩
  unfold oInt at ho
  split at ho
  · cases ho
    obtain ⟨x, rfl, h1⟩ := hx.one
    cases h1.int
    exact call_int1 pins s σ H _ us Q I r (.inl ⟨_, rfl, q.val (.inl rfl) (.int _)⟩)
  · cases ho
    obtain ⟨x, rfl, h1⟩ := hx.one
    cases h1.bl
    exact call_int1 pins s σ H _ us Q I r (.inr ⟨_, rfl, q.val (.inl rfl) (.int _)⟩)
  · cases ho
def oTuple : List D → Option Val
  | [.lst ds] => some ⟨.tup ds, 0⟩
  | [.tup ds] => some ⟨.tup ds, 0⟩
  | _ => none
theorem c_tuple : CallR X (.type "tuple") (rDn (cn X P) oTuple) := by
  intro pins s σ H xs us Q I r ⟨F, ds, w, tr, hx, ho, q⟩
  unfold oTuple at ho
  split at ho
  · cases ho
    obtain ⟨x, rfl, h1⟩ := hx.one
    obtain ⟨a, vs, rfl, hl, rv⟩ := h1.li
    exact call_tuple_of pins s σ H _ us Q I r ⟨a, vs, rfl, .inl ⟨rd_sqL (c := cn X P) hl, fun l hl => q.tup hl rv⟩⟩
  · cases ho
    obtain ⟨x, rfl, h1⟩ := hx.one
    obtain ⟨a, vs, rfl, hl, rv⟩ := h1.tup
    exact call_tuple_of pins s σ H _ us Q I r ⟨a, vs, rfl, .inr ⟨hl, q.val (.inl rfl) (.tup hl rv)⟩⟩
  · cases ho
theorem rp_ints {c : Cn} {H : Hp} {F : Fz} : ∀ is : List Int, RpA c H F (is.map V.int) (is.map .int)
  | [] => .nil
  | i :: is => .cons (.int i) (rp_ints is)
def oList : List D → Option Val
  | [.lst ds] => some ⟨.lst ds, 1⟩
  | [.tup ds] => some ⟨.lst ds, 1⟩
  | [.src is] => some ⟨.lst (is.map .int), 1⟩
  | [.dct kvs] => some ⟨.lst (kvs.map (·.1)), 1⟩
  | _ => none
theorem c_list (hc : X.calm = true) : CallR X (.type "list") (rDn (cn X P) oList) := by
  intro pins s σ H xs us Q I r ⟨F, ds, w, tr, hx, ho, q⟩
  unfold oList at ho
  split at ho
  · cases ho
    obtain ⟨x, rfl, h1⟩ := hx.one
    obtain ⟨a, vs, rfl, hl, rv⟩ := h1.li
    exact call_list_of pins s σ H _ us Q I r ⟨a, vs, rfl, .inl (rd_sqL (c := cn X P) hl), fun l hl => q.lst hl rv⟩
  · cases ho
    obtain ⟨x, rfl, h1⟩ := hx.one
    obtain ⟨a, vs, rfl, hl, rv⟩ := h1.tup
    exact call_list_of pins s σ H _ us Q I r ⟨a, vs, rfl, .inr hl, fun l hl => q.lst hl rv⟩
  · cases ho
    obtain ⟨x, rfl, h1⟩ := hx.one
    cases h1 with
    | of h1 => cases h1 with
      | src h => exact call_list_of pins s σ H _ us Q I r ⟨_, _, rfl, .inl (src_sq h), fun l hl => q.lst hl (rp_ints _)⟩
  · cases ho
    obtain ⟨x, rfl, h1⟩ := hx.one
    obtain ⟨a, es, rfl, ha, ok, re⟩ := h1.dc
    obtain ⟨u, rfl, rx⟩ := r.one
    cases (show u = Value.ref a from rx)
    exact dd_list hc I ha re fun p vs s' hp rp I' => ⟨.ref p, _, I', rfl, q.lst hp rp⟩
  · cases ho
def oAny : List D → Option Val
  | [.lst ds] => match allB ds with
    | some bs => vB (bs.any id)
    | none => none
  | _ => none
def oAll : List D → Option Val
  | [.lst ds] => match allB ds with
    | some bs => vB (bs.all id)
    | none => none
  | _ => none
theorem c_any (hc : X.calm = true) : CallR X (.builtin "any") (rDn (cn X P) oAny) := by
  intro pins s σ H xs us Q I r ⟨F, ds, w, tr, hx, ho, q⟩
  unfold oAny at ho
  split at ho
  · split at ho
    · rename_i bs hb
      cases ho
      obtain ⟨x, rfl, h1⟩ := hx.one
      obtain ⟨a, vs, rfl, hl, rv⟩ := h1.li
      rw [allB_eq hb] at rv
      cases rv.bls
      exact cr_any hc pins s σ H _ us Q I r ⟨a, bs, rfl, rd_sqL (c := cn X P) hl, q.val (.inl rfl) (.bl _)⟩
    · cases ho
  · cases ho
theorem c_all (hc : X.calm = true) : CallR X (.builtin "all") (rDn (cn X P) oAll) := by
  intro pins s σ H xs us Q I r ⟨F, ds, w, tr, hx, ho, q⟩
  unfold oAll at ho
  split at ho
  · split at ho
    · rename_i bs hb
      cases ho
      obtain ⟨x, rfl, h1⟩ := hx.one
      obtain ⟨a, vs, rfl, hl, rv⟩ := h1.li
      rw [allB_eq hb] at rv
      cases rv.bls
      exact cr_all hc pins s σ H _ us Q I r ⟨a, bs, rfl, rd_sqL (c := cn X P) hl, q.val (.inl rfl) (.bl _)⟩
    · cases ho
  · cases ho
def sumI : List Int → Int
  | [] => 0
  | i :: is => i + sumI is
theorem sumI_eq : ∀ is : List Int, is.sum = sumI is
  | [] => rfl
  | i :: is => by rw [List.sum_cons, sumI, sumI_eq is]
def oSum : List D → Option Val
  | [.lst ds] => match allI ds with
    | some is => vI (sumI is)
    | none => none
  | [.tup ds] => match allI ds with
    | some is => vI (sumI is)
    | none => none
  | _ => none
end
end PL

/-! PL15: sum, max, min, x[i], slices, a, b = x, y, x += e. -/
namespace PL
open PySem PySem.Spec PySem.Calls L2

section
variable {X : Cx} {P : Par}
theorem RpA.ints2 {c : Cn} {H : Hp} {F : Fz} {vs : List V} {ds : List D} {is : List Int} (r : RpA c H F vs ds) (e : allI ds = some is) : vs = is.map V.int := by
  rw [allI_eq e] at r
  exact r.ints
theorem tup_ints {pins : List (Addr × Obj)} {σ : St} {H : Hp} {s : Shared} {a : Addr} {is : List Int} (I : Inv X pins σ H s) (h : SqT X.K H a (is.map V.int)) : ∃ xs : Array (Int × Tok), s.heap.IsTuple a (intItems xs) ∧ (xs.toList.map (·.1)) = is := by
  obtain ⟨us, r, ht, _⟩ := I.tuple h
  have hi := r.ints
  obtain ⟨xs, e⟩ := hi.allInts.items
  refine ⟨xs, by rw [← e]; exact ht, ?_⟩
  have k := hi.numsOf
  rw [← k, show us = us.toArray.toList by simp, e]
  exact (PySem.nums_intItems xs).symm
theorem c_sum (hc : X.calm = true) : CallR X (.builtin "sum") (rDn (cn X P) oSum) := by
  intro pins s σ H xs us Q I r ⟨F, ds, w, tr, hx, ho, q⟩
  unfold oSum at ho
  split at ho
  · split at ho
    · rename_i is hi
      cases ho
      obtain ⟨x, rfl, h1⟩ := hx.one
      obtain ⟨a, vs, rfl, hl, rv⟩ := h1.li
      cases rv.ints2 hi
      refine cr_sum hc pins s σ H _ us Q I r ⟨a, is, rfl, rd_sqL (c := cn X P) hl, ?_⟩
      rw [sumI_eq]
      exact q.val (.inl rfl) (.int _)
    · cases ho
  · split at ho
    · rename_i is hi
      cases ho
      obtain ⟨x, rfl, h1⟩ := hx.one
      obtain ⟨a, vs, rfl, hl, rv⟩ := h1.tup
      cases rv.ints2 hi
      obtain ⟨xs, ht, e⟩ := tup_ints I hl
      rw [Vals.ref1 r]
      refine PySem.W.ktm_sumG (I.ok.hd hc) ht fun h' tk t' hk => ⟨.int _, H, I.kept hk, ⟨_, rfl⟩, ?_⟩
      have e2 : preSum (numAt xs) xs.size = sumI is := by
        rw [preSum_eq, List.take_of_length_le (by simp), ← sumI_eq, e]
      rw [e2]
      exact q.val (.inl rfl) (.int _)
    · cases ho
  · cases ho
def maxI : Int → List Int → Int
  | a, [] => a
  | a, b :: bs => maxI (if b > a then b else a) bs
def minI : Int → List Int → Int
  | a, [] => a
  | a, b :: bs => minI (if b < a then b else a) bs
theorem maxI_spec : ∀ (a : Int) (bs : List Int), maxI a bs ∈ a :: bs ∧ ∀ y ∈ a :: bs, y ≤ maxI a bs
  | a, [] => ⟨List.mem_cons_self, fun y h => by simp at h; subst h; exact Int.le_refl _⟩
  | a, b :: bs => by
    obtain ⟨h1, h2⟩ := maxI_spec (if b > a then b else a) bs
    refine ⟨?_, fun y hy => ?_⟩
    · show maxI (if b > a then b else a) bs ∈ _
      rcases List.mem_cons.mp h1 with h | h
      · rw [h]
        split
        · exact List.mem_cons_of_mem _ List.mem_cons_self
        · exact List.mem_cons_self
      · exact List.mem_cons_of_mem _ (List.mem_cons_of_mem _ h)
    · show y ≤ maxI (if b > a then b else a) bs
      have k := h2 _ List.mem_cons_self
      rcases List.mem_cons.mp hy with h | h
      · subst h; split at k <;> split <;> omega
      · rcases List.mem_cons.mp h with h | h
        · subst h; split at k <;> split <;> omega
        · exact h2 y (List.mem_cons_of_mem _ h)
theorem minI_spec : ∀ (a : Int) (bs : List Int), minI a bs ∈ a :: bs ∧ ∀ y ∈ a :: bs, minI a bs ≤ y
  | a, [] => ⟨List.mem_cons_self, fun y h => by simp at h; subst h; exact Int.le_refl _⟩
  | a, b :: bs => by
    obtain ⟨h1, h2⟩ := minI_spec (if b < a then b else a) bs
    refine ⟨?_, fun y hy => ?_⟩
    · show minI (if b < a then b else a) bs ∈ _
      rcases List.mem_cons.mp h1 with h | h
      · rw [h]
        split
        · exact List.mem_cons_of_mem _ List.mem_cons_self
        · exact List.mem_cons_self
      · exact List.mem_cons_of_mem _ (List.mem_cons_of_mem _ h)
    · show minI (if b < a then b else a) bs ≤ y
      have k := h2 _ List.mem_cons_self
      rcases List.mem_cons.mp hy with h | h
      · subst h; split at k <;> split <;> omega
      · rcases List.mem_cons.mp h with h | h
        · subst h; split at k <;> split <;> omega
        · exact h2 y (List.mem_cons_of_mem _ h)
def oMax : List D → Option Val
  | [.lst ds] => match allI ds with
    | some (i :: is) => vI (maxI i is)
    | _ => none
  | [.int i, .int j] => vI (if j > i then j else i)
  | _ => none
def oMin : List D → Option Val
  | [.lst ds] => match allI ds with
    | some (i :: is) => vI (minI i is)
    | _ => none
  | [.int i, .int j] => vI (if j < i then j else i)
  | _ => none
theorem c_max (hc : X.calm = true) : CallR X (.builtin "max") (rDn (cn X P) oMax) := by
  intro pins s σ H xs us Q I r ⟨F, ds, w, tr, hx, ho, q⟩
  unfold oMax at ho
  split at ho
  · split at ho
    · rename_i i is hi
      cases ho
      obtain ⟨x, rfl, h1⟩ := hx.one
      obtain ⟨a, vs, rfl, hl, rv⟩ := h1.li
      cases rv.ints2 hi
      refine cr_max hc pins s σ H _ us Q I r ⟨a, i :: is, rfl, rd_sqL (c := cn X P) hl, by simp, fun m hm hle => ?_⟩
      obtain ⟨k1, k2⟩ := maxI_spec i is
      have e : m = maxI i is := Int.le_antisymm (k2 m hm) (hle _ k1)
      rw [e]
      exact q.val (.inl rfl) (.int _)
    · cases ho
  · cases ho
    obtain ⟨x, y, rfl, h1, h2⟩ := hx.two
    cases h1.int
    cases h2.int
    exact call_max2 hc pins s σ H _ us Q I r ⟨_, _, rfl, q.val (.inl rfl) (.int _)⟩
  · cases ho
theorem c_min (hc : X.calm = true) : CallR X (.builtin "min") (rDn (cn X P) oMin) := by
  intro pins s σ H xs us Q I r ⟨F, ds, w, tr, hx, ho, q⟩
  unfold oMin at ho
  split at ho
  · split at ho
    · rename_i i is hi
      cases ho
      obtain ⟨x, rfl, h1⟩ := hx.one
      obtain ⟨a, vs, rfl, hl, rv⟩ := h1.li
      cases rv.ints2 hi
      refine cr_min hc pins s σ H _ us Q I r ⟨a, i :: is, rfl, rd_sqL (c := cn X P) hl, by simp, fun m hm hle => ?_⟩
      obtain ⟨k1, k2⟩ := minI_spec i is
      have e : m = minI i is := Int.le_antisymm (hle _ k1) (k2 m hm)
      rw [e]
      exact q.val (.inl rfl) (.int _)
    · cases ho
  · cases ho
    obtain ⟨x, y, rfl, h1, h2⟩ := hx.two
    cases h1.int
    cases h2.int
    exact call_min2 hc pins s σ H _ us Q I r ⟨_, _, rfl, q.val (.inl rfl) (.int _)⟩
  · cases ho

/-! ### x[i] -/
def dIx : D → D → Option Val
  | .lst ds, .int i => match atI ds i with
    | some d => some ⟨d, 0⟩
    | none => none
  | .tup ds, .int i => match atI ds i with
    | some d => some ⟨d, 0⟩
    | none => none
  | .str z, .int i => if z.length ≤ big then (match atI z.cps.toList i with
    | some c => some ⟨.str ⟨#[c]⟩, 0⟩
    | none => none) else none
  | .dct kvs, k => if fitK kvs k = true then (match getD kvs k with
    | some d => some ⟨d, 0⟩
    | none => none) else none
  | _, _ => none
theorem RpA.at {c : Cn} {H : Hp} {F : Fz} {vs : List V} {ds : List D} {i : Int} {d : D} (r : RpA c H F vs ds) (e : atI ds i = some d) : ∃ v, atI vs i = some v ∧ Rp c H F v d := by
  unfold atI at e ⊢
  rw [r.length]
  cases h : ixN ds.length i with
  | none => rw [h] at e; cases e
  | some j =>
    rw [h] at e
    exact r.get' e
theorem x_ix (hu : X.A.units + 65 < cLine) : IxR X (rD2 (cn X P) dIx) := by
  intro value slice pins s σ H x y v u Q I rx ry ⟨F, d, e, w, tr, h1, h2, ho, q⟩ hs
  unfold dIx at ho
  split at ho
  · split at ho
    · rename_i d hd
      cases ho
      obtain ⟨a, vs, rfl, hl, rv⟩ := h1.li
      cases h2.int
      obtain ⟨z, hz, rz⟩ := rv.at hd
      exact ix_seq value slice pins s σ H _ _ v u Q I rx ry (.inl ⟨a, vs, _, z, rfl, rfl, rd_sqL (c := cn X P) hl, hz, q.val (.inl rfl) rz⟩) hs
    · cases ho
  · split at ho
    · rename_i d hd
      cases ho
      obtain ⟨a, vs, rfl, hl, rv⟩ := h1.tup
      cases h2.int
      obtain ⟨z, hz, rz⟩ := rv.at hd
      exact ix_seq value slice pins s σ H _ _ v u Q I rx ry (.inr (.inl ⟨a, vs, _, z, rfl, rfl, hl, hz, q.val (.inl rfl) rz⟩)) hs
    · cases ho
  · split at ho
    · rename_i hb
      split at ho
      · rename_i c hd
        cases ho
        cases h1.str
        cases h2.int
        exact ix_seq value slice pins s σ H _ _ v u Q I rx ry (.inr (.inr ⟨_, _, c, rfl, rfl, big_le hb, hd, q.val (.inl rfl) (.str _)⟩)) hs
      · cases ho
    · cases ho
  · split at ho
    · rename_i kvs k hf
      split at ho
      · rename_i d hd
        cases ho
        obtain ⟨a, es, rfl, ha, ok, r⟩ := h1.dc
        cases (show v = Value.ref a from rx)
        exact PyProof.Rows.tail_any (dict_ty (es := es) I ha) PySem.F.slot_dict_getitem.lookup (dd_get hu I ha ok r (rt_key h2 ok hf) ry hf hd fun vv w s' I' rw' rp => ⟨vv, H, I', rw', q.val (.inl rfl) rp⟩) hs
      · cases ho
    · cases ho
  · cases ho

/-! ### slices -/
def cutD (xs : List D) (lo hi : Option Int) : List D := (xs.drop (HT.sIx xs.length 0 lo)).take (HT.sIx xs.length xs.length hi - HT.sIx xs.length 0 lo)
def dSl (d : D) (lo hi : Option Int) : Option Val := match d with
  | .lst ds => some ⟨.lst (cutD ds lo hi), 1⟩
  | .tup ds => some ⟨.tup (cutD ds lo hi), 0⟩
  | _ => none
theorem RpA.drop {c : Cn} {H : Hp} {F : Fz} : ∀ {n : Nat} {vs : List V} {ds : List D}, RpA c H F vs ds → RpA c H F (vs.drop n) (ds.drop n)
  | 0, _, _, r => r
  | n + 1, _, _, .nil => .nil
  | n + 1, _, _, .cons _ r => RpA.drop (n := n) r
theorem RpA.take {c : Cn} {H : Hp} {F : Fz} : ∀ {n : Nat} {vs : List V} {ds : List D}, RpA c H F vs ds → RpA c H F (vs.take n) (ds.take n)
  | 0, _, _, _ => .nil
  | n + 1, _, _, .nil => .nil
  | n + 1, _, _, .cons h r => .cons h (RpA.take (n := n) r)
theorem RpA.cut {c : Cn} {H : Hp} {F : Fz} {vs : List V} {ds : List D} (r : RpA c H F vs ds) (lo hi : Option Int) : RpA c H F (cutV vs lo hi) (cutD ds lo hi) := by
  unfold cutV cutD
  rw [r.length]
  exact r.drop.take
def rSlD (c : Cn) : V → Option Int → Option Int → Hp → VK → Prop := fun x lo hi H Q => ∃ F d v, Trk F H ∧ Rt c H F x d ∧ dSl d lo hi = some v ∧ Ends2 c F H v Q
theorem sl_D : SlR X (rSlD (cn X P)) := by
  intro pins s σ H x v vl vu lo hi sl Q I rx hs pl pu ⟨F, d, w, tr, h1, ho, q⟩
  unfold dSl at ho
  split at ho
  · cases ho
    obtain ⟨a, vs, rfl, hl, rv⟩ := h1.li
    exact sl_list pins s σ H _ v vl vu lo hi sl Q I rx hs pl pu ⟨a, vs, rfl, rd_sqL (c := cn X P) hl, fun p hp => q.lst hp (rv.cut lo hi)⟩
  · cases ho
    obtain ⟨a, vs, rfl, hl, rv⟩ := h1.tup
    have rc := rv.cut lo hi
    refine sl_tupA pins s σ H _ v vl vu lo hi sl Q I rx hs pl pu ⟨a, vs, rfl, hl, fun hw => ?_, fun _ p hp => q.tup hp rc⟩
    refine q.val (.inl rfl) (.tup hl ?_)
    have e : cutV vs lo hi = vs := by
      unfold cutV
      rw [hw.1, hw.2]
      simp
    rw [e] at rc
    exact rc
  · cases ho
def oSl (l h : Bool) : List D → Option Val
  | [d] => if l = false ∧ h = false then dSl d none none else none
  | [d, .int i] => if l = true ∧ h = false then dSl d (some i) none else if l = false ∧ h = true then dSl d none (some i) else none
  | [d, .int i, .int j] => if l = true ∧ h = true then dSl d (some i) (some j) else none
  | _ => none
variable {e el eh : Expr} {a b c : Opd} {pos p2 : Pos}
theorem s_slLo (ha : SO X P e a) (hl : SO X P el b) : SE X P (.Subscript e (.Slice (some el) none none p2) pos) (en (oSl true false) [a, b]) := by
  refine ⟨pe_imp (pe_slice (sl_D (P := P)) ha.pe (po_some hl.pe) po_none) fun σ H Q h => ?_⟩
  refine tO_mono (coreN (as := [a, b]) h) fun x H1 h1 => ?_
  refine tO_mono (show tO X P b σ H1 fun y H2 => rDn (cn X P) (oSl true false) [x, y] H2 Q from h1) fun y H2 ⟨F, ds, w, tr, hx, ho, q⟩ => ?_
  cases hx with
  | cons g1 g2 => cases g2 with
    | cons g2 g3 =>
      cases g3
      unfold oSl at ho
      split at ho
      · rename_i heq; cases heq
      · rename_i i heq
        cases heq
        cases g2.int
        exact ⟨i, rfl, F, _, w, tr, g1, by simpa using ho, q⟩
      · rename_i heq; cases heq
      · cases ho
theorem s_slHi (ha : SO X P e a) (hl : SO X P eh b) : SE X P (.Subscript e (.Slice none (some eh) none p2) pos) (en (oSl false true) [a, b]) := by
  refine ⟨pe_imp (pe_slice (sl_D (P := P)) ha.pe po_none (po_some hl.pe)) fun σ H Q h => ?_⟩
  refine tO_mono (coreN (as := [a, b]) h) fun x H1 h1 => ?_
  refine tO_mono (show tO X P b σ H1 fun y H2 => rDn (cn X P) (oSl false true) [x, y] H2 Q from h1) fun y H2 ⟨F, ds, w, tr, hx, ho, q⟩ => ?_
  cases hx with
  | cons g1 g2 => cases g2 with
    | cons g2 g3 =>
      cases g3
      unfold oSl at ho
      split at ho
      · rename_i heq; cases heq
      · rename_i i heq
        cases heq
        cases g2.int
        exact ⟨i, rfl, F, _, w, tr, g1, by simpa using ho, q⟩
      · rename_i heq; cases heq
      · cases ho
def eSl2 (a b c : Opd) : Ex := fun g => a.go (fun ra g1 => b.go (fun rb g2 => match rb g2 with
  | some (.int _) => c.go (fun rc g3 => finN (oSl true true) (allS [ra, rb, rc] g3) g3) g2
  | _ => .bad) g1) g
theorem s_slLH (ha : SO X P e a) (hl : SO X P el b) (hh : SO X P eh c) : SE X P (.Subscript e (.Slice (some el) (some eh) none p2) pos) (eSl2 a b c) := by
  refine ⟨pe_imp (pe_slice (sl_D (P := P)) ha.pe (po_some hl.pe) (po_some hh.pe)) fun σ H Q h => ?_⟩
  refine tO_mono (mid_opd (mid_of h)) fun x H1 ⟨ts1, ra, hx, _, m1⟩ => ?_
  refine tO_mono (mid_opd m1) fun y H2 ⟨ts2, rb, hy, up, F0, H0, own0, F1, g1, own1, m2, q⟩ => ?_
  simp only at q
  split at q
  · rename_i i hi
    cases (hy.rt m2 hi).int
    refine ⟨i, rfl, ?_⟩
    have mm : Mid X P σ ts2 (fun F0 H0 own0 g => PostK X P F0 H0 own0 σ (End X P F0 H0 own0 σ Q) (c.go (fun rc g3 => finN (oSl true true) (allS [ra, rb, rc] g3) g3) g)) H2 := ⟨F0, H0, own0, F1, g1, own1, m2, q⟩
    refine tO_mono (mid_opd mm) fun z H3 ⟨ts3, rc, hz, up3, m3⟩ => ?_
    obtain ⟨ds, w, F0, H0, own0, F1, g1, own1, m, hx, ho, q⟩ := finN_end (.cons (up3 _ _ (up _ _ hx)) (.cons (up3 _ _ hy) (.cons hz .nil))) m3
    cases hx with
    | cons g1 g2 => cases g2 with
      | cons g2 g3 => cases g3 with
        | cons g3 g4 =>
          cases g4
          unfold oSl at ho
          split at ho
          · rename_i heq; cases heq
          · rename_i heq; cases heq
          · rename_i i j heq
            cases heq
            cases g2.int
            cases g3.int
            exact ⟨j, rfl, F1, _, w, m.g.frz, g1, by simpa using ho, mid_end2 m q⟩
          · cases ho
  · exact False.elim q

/-! ### x += e -/
def dAddI : D → D → Option Val
  | .int i, .int j => vI (i + j)
  | _, _ => none
theorem i_add : PIp X .Add (rD2 (cn X P) dAddI) := by
  intro pins s σ H x y v u Q I rx ry ⟨F, d, e, w, tr, h1, h2, ho, q⟩
  unfold dAddI at ho
  split at ho
  · cases ho
    cases h1.int
    cases h2.int
    exact iop_add pins s σ H _ _ v u Q I rx ry ⟨_, _, rfl, rfl, q.val (.inl rfl) (.int _)⟩
  · cases ho
theorem i_sub : PIp X .Sub (rD2 (cn X P) dSub) := by
  intro pins s σ H x y v u Q I rx ry ⟨F, d, e, w, tr, h1, h2, ho, q⟩
  unfold dSub at ho
  split at ho
  · cases ho
    cases h1.int
    cases h2.int
    exact iop_sub pins s σ H _ _ v u Q I rx ry ⟨_, _, rfl, rfl, q.val (.inl rfl) (.int _)⟩
  · cases ho
theorem s_aug {i : Nat} {x : Str} {op : Operator} {o : D → D → Option Val} {pos' : Pos} (hN : X.N.Nodup) (hi : X.N[i]? = some x) (hx : Loc X.env.scope x) (ho : PIp X op (rD2 (cn X P) o)) (hb : SO X P e b) (hp : i ∉ P.pz.map (·.1))
    (hf : X.fn x = true ∨ X.env.scope.names.lookup x = some .local := by first | exact .inl rfl | exact .inr rfl | assumption) : SS X P (.AugAssign (.Name x pos') op e pos) (sSet i false (e2 o (.pk i) b)) :=
  ⟨ps_imp (ps_aug hN hi hx hb.pe ho hf) fun D σ H q => core2 (core_set (List.getElem?_eq_some_iff.mp hi).1 hp q)⟩

/-! ### a, b = x, y -/
def goV : List Ex → (List Val → Env → SOut) → Env → SOut
  | [], k, g => k [] g
  | f :: fs, k, g => bindE (f g) fun v g1 => goV fs (fun vs g2 => k (v :: vs) g2) g1
def setAll : List (Nat × Bool) → List Val → Env → Env
  | (i, k) :: is, v :: vs, g => setAll is vs (g.set i (some (keepV k v)))
  | _, _, g => g
def sPar (is : List (Nat × Bool)) (fs : List Ex) : Sx := goV fs fun vs g => .nx (setAll is vs g)
theorem mid_keepAt {σ : St} {H : Hp} {t : Tmp} {ts : List Tmp} {F0 : Fz} {H0 : Hp} {own0 : Ow} {F1 : Fz} {g1 : Env} {own1 : Ow} {k : Bool} (m : MidAt X P σ (t :: ts) H F0 H0 own0 F1 g1 own1) : ∃ L F2, MidAt X P σ (⟨t.x, keepV k t.v, L⟩ :: ts) H F0 H0 own0 F2 g1 own1 := by
  cases k with
  | true => exact ⟨t.L, F1, m⟩
  | false => exact ⟨[], _, mid_freezeAt m⟩
variable {D : Ends} {σ : St} {H : Hp}
/-- the third temporary to the front -/
theorem mid_rot {t u v : Tmp} {ts : List Tmp} {F0 : Fz} {H0 : Hp} {own0 : Ow} {F1 : Fz} {g1 : Env} {own1 : Ow} (m : MidAt X P σ (t :: u :: v :: ts) H F0 H0 own0 F1 g1 own1) : MidAt X P σ (v :: t :: u :: ts) H F0 H0 own0 F1 g1 own1 := by
  have sw : ∀ z, z ∈ v :: t :: u :: ts → z ∈ t :: u :: v :: ts := fun z hz => by
    simp only [List.mem_cons] at hz ⊢
    rcases hz with h | h | h | h
    · exact .inr (.inr (.inl h))
    · exact .inl h
    · exact .inr (.inl h)
    · exact .inr (.inr (.inr h))
  refine ⟨m.g, m.st, fun z hz => m.own z (sw z hz), ?_, fun z hz => m.sep z (sw z hz)⟩
  have nd := m.nd
  refine nd.perm ?_
  simp only [List.flatMap_cons]
  have p1 : (t.L ++ (u.L ++ (v.L ++ ts.flatMap (·.L)))).Perm (v.L ++ (t.L ++ (u.L ++ ts.flatMap (·.L)))) := by
    simp only [← List.append_assoc]
    refine List.Perm.append_right _ ?_
    rw [List.append_assoc, List.append_assoc]
    have := List.perm_append_comm (l₁ := t.L ++ u.L) (l₂ := v.L)
    rw [List.append_assoc] at this
    exact this
  exact p1
theorem core_par2 {i j : Nat} {ki kj : Bool} {fa fb : Ex} (hij : i ≠ j) (hi : i < X.N.length) (hj : j < X.N.length) (pi : i ∉ P.pz.map (·.1)) (pj : j ∉ P.pz.map (·.1)) (q : tS X P (sPar [(i, ki), (j, kj)] [fa, fb]) D σ H) : tPar i j (tEs X P [fa, fb]) D σ H := by
  have q : tS X P (fun g => bindE (fa g) fun v g1 => bindE (fb g1) fun w g2 => .nx ((g2.set i (some (keepV ki v))).set j (some (keepV kj w)))) D σ H := q
  refine tE_mono (mid_ofS q) fun x H1 ⟨v, L, m1⟩ => ?_
  refine tE_mono (mid_evalS m1) fun y H2 ⟨w, M, F0, H0, own0, F1, g1, own1, m2, q⟩ => ?_
  refine ⟨x, y, rfl, ?_⟩
  obtain ⟨M', F2, m2⟩ := mid_keepAt (k := kj) m2
  obtain ⟨L', F3, m3⟩ := mid_keepAt (k := ki) (mid_swap m2)
  obtain ⟨own4, m4⟩ := mid_store m3 hi pi
  obtain ⟨own5, m5⟩ := mid_store m4 hj pj
  exact q F3 H2 own5 _ m5.st m5.g
theorem core_par3 {i j l : Nat} {ki kj kl : Bool} {fa fb fc : Ex} (hi : i < X.N.length) (hj : j < X.N.length) (hl : l < X.N.length) (pi : i ∉ P.pz.map (·.1)) (pj : j ∉ P.pz.map (·.1)) (pl : l ∉ P.pz.map (·.1))
    (q : tS X P (sPar [(i, ki), (j, kj), (l, kl)] [fa, fb, fc]) D σ H) : tPar3 i j l (tEs X P [fa, fb, fc]) D σ H := by
  have q : tS X P (fun g => bindE (fa g) fun v g1 => bindE (fb g1) fun w g2 => bindE (fc g2) fun u g3 => .nx (((g3.set i (some (keepV ki v))).set j (some (keepV kj w))).set l (some (keepV kl u)))) D σ H := q
  refine tE_mono (mid_ofS q) fun x H1 ⟨v, L, m1⟩ => ?_
  refine tE_mono (mid_evalS m1) fun y H2 ⟨w, M, m2⟩ => ?_
  refine tE_mono (mid_evalS m2) fun z H3 ⟨u, K, F0, H0, own0, F1, g1, own1, m3, q⟩ => ?_
  refine ⟨x, y, z, rfl, ?_⟩
  -- z :: y :: x
  obtain ⟨K', F2, m4⟩ := mid_keepAt (k := kl) m3
  obtain ⟨M', F3, m5⟩ := mid_keepAt (k := kj) (mid_swap m4)
  -- y :: z :: x, x to the front
  have m6 := mid_rot m5
  obtain ⟨L', F4, m6⟩ := mid_keepAt (k := ki) m6
  obtain ⟨own4, m7⟩ := mid_store m6 hi pi
  obtain ⟨own5, m8⟩ := mid_store m7 hj pj
  obtain ⟨own6, m9⟩ := mid_store m8 hl pl
  exact q F4 H3 own6 _ m9.st m9.g
variable {i j l : Nat} {ki kj kl : Bool} {fa fb fc : Ex} {x y z : Str} {px py pz pt pt2 : Pos} {kt k2 : Nat} {ea eb ec : Expr}
theorem s_par2 (hc : X.calm = true) (hN : X.N.Nodup) (hi : X.N[i]? = some x) (hj : X.N[j]? = some y) (hij : i ≠ j) (hx : X.env.scope.names.lookup x = some .local) (hy : X.env.scope.names.lookup y = some .local) (ha : SL X P [ea, eb] [fa, fb])
    (pi : i ∉ P.pz.map (·.1)) (pj : j ∉ P.pz.map (·.1)) (hw : swappedStores [.Tuple [.Name x px, .Name y py] kt pt] (.Tuple [ea, eb] k2 pt2) X.env = pure (some [x, y]))
    (hs : swapsWithSole [.Tuple [.Name x px, .Name y py] kt pt] (.Tuple [ea, eb] k2 pt2) pos.line X.env = pure false := by rfl) :
    SS X P (.Assign [.Tuple [.Name x px, .Name y py] kt pt] (.Tuple [ea, eb] k2 pt2) pos) (sPar [(i, ki), (j, kj)] [fa, fb]) :=
  ⟨ps_imp (ps_par hc hN hi hj hij hx hy ha.pa hw hs) fun D σ H q => core_par2 hij (List.getElem?_eq_some_iff.mp hi).1 (List.getElem?_eq_some_iff.mp hj).1 pi pj q⟩
theorem s_par3 (hc : X.calm = true) (hN : X.N.Nodup) (hi : X.N[i]? = some x) (hj : X.N[j]? = some y) (hl : X.N[l]? = some z) (hij : i ≠ j) (hil : i ≠ l) (hjl : j ≠ l) (hx : X.env.scope.names.lookup x = some .local) (hy : X.env.scope.names.lookup y = some .local) (hz : X.env.scope.names.lookup z = some .local)
    (ha : SL X P [ea, eb, ec] [fa, fb, fc]) (pi : i ∉ P.pz.map (·.1)) (pj : j ∉ P.pz.map (·.1)) (pl : l ∉ P.pz.map (·.1)) (hw : swappedStores [.Tuple [.Name x px, .Name y py, .Name z pz] kt pt] (.Tuple [ea, eb, ec] k2 pt2) X.env = pure (some [x, y, z]))
    (hs : swapsWithSole [.Tuple [.Name x px, .Name y py, .Name z pz] kt pt] (.Tuple [ea, eb, ec] k2 pt2) pos.line X.env = pure false := by rfl) :
    SS X P (.Assign [.Tuple [.Name x px, .Name y py, .Name z pz] kt pt] (.Tuple [ea, eb, ec] k2 pt2) pos) (sPar [(i, ki), (j, kj), (l, kl)] [fa, fb, fc]) :=
  ⟨ps_imp (ps_par3 hc hN hi hj hl hij hil hjl hx hy hz ha.pa hw hs) fun D σ H q => core_par3 (List.getElem?_eq_some_iff.mp hi).1 (List.getElem?_eq_some_iff.mp hj).1 (List.getElem?_eq_some_iff.mp hl).1 pi pj pl q⟩
end
end PL

/-! PL16: list comprehensions with two for-parts. -/
namespace PL
open PySem PySem.Spec PySem.Calls L2

def lcO (M : Nat) (t : Tg) (c : Option Ex) (s1 : Src) (t1 : Tg) (c1 : Option Ex) (e : Ex) (dp : Bool) (vs vs1 : List Nat) : List PL.D → Env → IOut
  | [], g => .ok [] g
  | d :: ds, g => match t.asg d g with
    | none => .bad
    | some g1 => match testO c g1 with
      | none => .bad
      | some (false, g2) => lcO M t c s1 t1 c1 e dp vs vs1 ds (killG vs g2)
      | some (true, g2) => match s1 g2 with
        | .ok ds1 g3 => if ds1.length ≤ M then (match lcL t1 c1 e dp vs1 ds1 (killG vs1 g3) with
          | .ok o1 g4 => match lcO M t c s1 t1 c1 e dp vs vs1 ds (killG vs g4) with
            | .ok o2 g5 => .ok (o1 ++ o2) g5
            | _ => .bad
          | _ => .bad) else .bad
        | _ => .bad
def eLc2 (s : Src) (t : Tg) (c : Option Ex) (s1 : Src) (t1 : Tg) (c1 : Option Ex) (e : Ex) (dp : Bool) (vs vs1 rs : List Nat) : Ex := fun g => match s g with
  | .ok ds g1 => match lcO (big / ds.length) t c s1 t1 c1 e dp vs vs1 ds (killG vs g1) with
    | .ok out g2 => .ok ⟨.lst out, lv dp + 1⟩ (restG g1 rs g2)
    | _ => .bad
  | .exc x g1 => .exc x g1
  | .bad => .bad
section
variable {X : Cx} {P : Par} {σ : St} {H : Hp} {Q : VK} {s s1 : Src} {t t1 : Tg} {c c1 : Option Ex} {e : Ex} {dp : Bool} {vs vs1 rs : List Nat}
/-- behind one inner item and the rest -/
def LcIn (X : Cx) (P : Par) (σ : St) (Q : VK) (dp : Bool) (gs : Env) (rs : List Nat) (F0 : Fz) (H0 : Hp) (own0 : Ow) (rest : Env → IOut) (acc : List PL.D) : IOut → Prop
  | .ok o1 g4 => LcGoal X P σ Q dp gs rs F0 H0 own0 (acc ++ o1) (rest g4)
  | _ => False
theorem core_lc2 (hsl : ∀ i ∈ t.sl, i ∈ vs) (hsl1 : ∀ i ∈ t1.sl, i ∈ vs1) (hv1 : ∀ i ∈ vs1, i ∈ vs) (hpv : ∀ p ∈ P.pz, p.1 ∉ vs) (q : tE X P (eLc2 s t c s1 t1 c1 e dp vs vs1 rs) σ H Q) :
    tLc2 (tI X P s) (tG X P.calm t) (tC? X P.calm c) (tI X P.calm s1) (tG X P.calm t1) (tC? X P.calm c1) (tE X P.calm e) vs vs1 σ H Q := by
  have hpv1 : ∀ p ∈ P.pz, p.1 ∉ vs1 := fun p hp h => hpv p hp (hv1 _ h)
  obtain ⟨F, g, own, I, q⟩ := q
  refine ⟨F, g, own, I, ?_⟩
  unfold eLc2 at q
  cases es : s g with
  | bad => rw [es] at q; exact q
  | exc x g1 => rw [es] at q; exact q
  | ok ds gs =>
    rw [es] at q
    intro F' H' own' J st I' it hz D hD
    simp only at q
    generalize hM : big / ds.length = M at q
    have hMb : ds.length * M ≤ sizeLine := by rw [← big_line, ← hM]; exact Nat.mul_div_le big ds.length
    have q0 : LcGoal X P σ Q dp gs rs F H own [] (lcO M t c s1 t1 c1 e dp vs vs1 ds (killG vs gs)) := by
      cases el : lcO M t c s1 t1 c1 e dp vs vs1 ds (killG vs gs) with
      | ok out g2 => rw [el] at q; exact q
      | exc x g2 => rw [el] at q; exact q
      | bad => rw [el] at q; exact q
    have gr0 : Grow H' (upd H' D (.lst [])) := .upd hD
    have noD : ∀ i, D ∉ own' i := fun i hi => by
      obtain ⟨_, sh, e⟩ := I'.sep i D hi
      rw [hD] at e; cases e
    have m00 : MidAt X P σ [⟨.ref D, ⟨.lst [], lv dp + 1⟩, [D]⟩] (upd H' D (.lst [])) F H own F' gs own' := by
      refine ⟨I'.grow gr0, st.trans gr0.step, fun u hu => ?_, by simp, fun u hu a ha => ?_⟩
      · rw [List.mem_singleton.mp hu]
        exact .lst upd_same .nil
      · rw [List.mem_singleton.mp hu] at ha
        have e : a = D := by simpa using ha
        subst e
        refine ⟨fun f => ?_, noD, ⟨.lst [], upd_same⟩, young st (.inr hD)⟩
        obtain ⟨o, e⟩ := I'.frz _ f
        rw [hD] at e; cases e
    obtain ⟨ownB, m0⟩ := blk_mid (vs := vs) (σ := σ) hpv (fun _ _ => rfl) m00 I'.slen
    have hw : ∀ {σ2 : St}, (∀ j, j ∉ t.sl → σ2[j]? = (wipe σ vs)[j]?) → ∀ j, j ∉ vs → σ2[j]? = σ[j]? := fun {σ2} h j hj => by rw [h j fun z => hj (hsl j z), wipe_get hj]
    let NX : Nat → Hp → Prop := fun i H2 => ∃ F1 g1 own1 acc L, MidAt X P (wipe σ vs) [⟨.ref D, ⟨.lst acc, lv dp + 1⟩, L⟩] H2 F H own F1 g1 own1 ∧ acc.length ≤ i * M ∧ Keep (c := cn X P) F' F1 H' H2 ∧ (∀ j ∈ vs, ∀ v : Val, g1[j]? ≠ some (some v)) ∧
        LcGoal X P σ Q dp gs rs F H own acc (lcO M t c s1 t1 c1 e dp vs vs1 (ds.drop i) g1)
    refine ⟨fun i m σ1 => m = ds.length - i ∧ i ≤ ds.length ∧ NX i σ1, ⟨_, rfl, Nat.zero_le _, F', _, ownB, [], _, m0, Nat.zero_le _, gr0.keep, fun j hj v h => (kill_none h).2 hj, q0⟩, ?_⟩
    rintro i m H1 ⟨rfl, hi, F1, g1, own1, acc, L, m1, ha, kp, hn, q1⟩
    obtain ⟨j1, j2, j3⟩ := it F1 H1 kp m1.g.frz i
    by_cases hlt : i < ds.length
    · refine .inr ⟨j1 hlt, NX (i + 1), fun H2 h => ⟨_, by omega, rfl, hlt, h⟩, fun x H2 y => ?_⟩
      obtain ⟨d, ed, gr, rp⟩ := j3 x H2 hlt y
      have hd : ds.drop i = d :: ds.drop (i + 1) := by
        rw [List.drop_eq_getElem_cons hlt]
        rw [List.getElem?_eq_getElem hlt] at ed
        cases ed; rfl
      have hM1 : (i + 1) * M ≤ sizeLine := Nat.le_trans (Nat.mul_le_mul_right M hlt) hMb
      rw [hd] at q1
      unfold lcO at q1
      cases ea : t.asg d g1 with
      | none => rw [ea] at q1; exact False.elim q1
      | some g2 =>
        rw [ea] at q1
        simp only at q1
        have m2 : MidAt X P (wipe σ vs) [⟨.ref D, ⟨.lst acc, lv dp + 1⟩, L⟩] H2 F H own F1 g1 own1 := mid_step m1 gr.step (m1.g.grow gr)
        refine ⟨F1, g1, own1, d, g2, m2.g, rp, ea, fun σ2 own3 ag s3 I3 => ?_⟩
        have m3 : MidAt X P σ2 [⟨.ref D, ⟨.lst acc, lv dp + 1⟩, L⟩] H2 F H own F1 g2 own3 := mid_step m2 s3 I3
        have kp2 : Keep (c := cn X P) F' F1 H' H2 := kp.trans gr.keep
        have hσ := hw ag
        have hs2 : σ2.length = σ.length := by
          have h1 : σ2.length = X.N.length := I3.slen
          have h2 : σ.length = X.N.length := I'.slen
          rw [h1, h2]
        refine ⟨?_, ?_⟩
        · rw [wipe_eq hσ hs2]
        · have fin : ∀ (b : Bool) (g3 : Env) (H3 : Hp) (F3 : Fz) (own4 : Ow), MidAt X P σ2 [⟨.ref D, ⟨.lst acc, lv dp + 1⟩, L⟩] H3 F H own F3 g3 own4 → Keep (c := cn X P) F' F3 H' H3 →
              LcGoal X P σ Q dp gs rs F H own acc (match b with
                | false => lcO M t c s1 t1 c1 e dp vs vs1 (ds.drop (i + 1)) (killG vs g3)
                | true => match s1 g3 with
                  | .ok ds1 g4 => if ds1.length ≤ M then (match lcL t1 c1 e dp vs1 ds1 (killG vs1 g4) with
                    | .ok o1 g5 => match lcO M t c s1 t1 c1 e dp vs vs1 (ds.drop (i + 1)) (killG vs g5) with
                      | .ok o2 g6 => .ok (o1 ++ o2) g6
                      | _ => .bad
                    | _ => .bad) else .bad
                  | _ => .bad) →
              if b = true then tI X P.calm s1 σ2 H3 fun J1 H4 => ∃ W1 : Nat → Nat → Hp → Prop, (∃ m, W1 0 m H4) ∧ ∀ j k H, W1 j k H →
                (J1.stop j H ∧ NX (i + 1) H) ∨ (J1.go j H ∧ ∃ Nx1 : Hp → Prop, (∀ H', Nx1 H' → ∃ k', k' < k ∧ W1 (j + 1) k' H') ∧ ∀ x H', J1.yld j H x H' → tG X P.calm t1 x (wipe σ2 vs1) H' fun σ3 H5 => wipe σ3 vs1 = wipe σ2 vs1 ∧ tC? X P.calm c1 σ3 H5 fun b H6 =>
                  if b = true then tE X P.calm e σ3 H6 fun y H7 => ∃ acc, H7 D = some (.lst acc) ∧ acc.length < sizeLine ∧ Nx1 (upd H7 D (.lst (acc ++ [y]))) else Nx1 H6)
              else NX (i + 1) H3 := by
            intro b g3 H3 F3 own4 m4 kp3 q2
            cases b with
            | false =>
              obtain ⟨own5, m5⟩ := blk_mid (vs := vs) hpv hσ m4 I'.slen
              exact itff ⟨F3, _, own5, acc, L, m5, Nat.le_trans ha (Nat.mul_le_mul_right M (Nat.le_succ i)), kp3, fun j hj v h => (kill_none h).2 hj, q2⟩
            | true =>
              refine ittt ⟨F3, g3, own4, (mid_calm m4).g, ?_⟩
              simp only at q2
              cases ev : s1 g3 with
              | bad => rw [ev] at q2; exact False.elim q2
              | exc x g4 => rw [ev] at q2; exact False.elim q2
              | ok ds1 g4 =>
                rw [ev] at q2
                simp only at q2
                split at q2
                · rename_i hlen1
                  intro F5 H5 own5 J1 st5 I5 it1 hz1
                  have m5 : MidAt X P σ2 [⟨.ref D, ⟨.lst acc, lv dp + 1⟩, L⟩] H5 F H own F5 g4 own5 := mid_step m4 st5 I5
                  have kp5 : Keep (c := cn X P) F' F5 H' H5 := kp3.trans (st5.keeps m4.g)
                  obtain ⟨own6, m6⟩ := blk_mid (vs := vs1) (σ := σ2) hpv1 (fun _ _ => rfl) m5 I5.slen
                  let rest : Env → IOut := fun g5 => lcO M t c s1 t1 c1 e dp vs vs1 (ds.drop (i + 1)) (killG vs g5)
                  have q3 : LcIn X P σ Q dp gs rs F H own rest acc (lcL t1 c1 e dp vs1 ds1 (killG vs1 g4)) := by
                    cases el : lcL t1 c1 e dp vs1 ds1 (killG vs1 g4) with
                    | bad => rw [el] at q2; exact False.elim q2
                    | exc x g5 => rw [el] at q2; exact False.elim q2
                    | ok o1 g5 =>
                      rw [el] at q2
                      simp only at q2
                      show LcGoal X P σ Q dp gs rs F H own (acc ++ o1) (lcO M t c s1 t1 c1 e dp vs vs1 (ds.drop (i + 1)) (killG vs g5))
                      cases eo : lcO M t c s1 t1 c1 e dp vs vs1 (ds.drop (i + 1)) (killG vs g5) with
                      | bad => rw [eo] at q2; exact False.elim q2
                      | exc x g6 => rw [eo] at q2; exact False.elim q2
                      | ok o2 g6 =>
                        rw [eo] at q2
                        have q2 : End X P F H own σ Q ⟨.lst (acc ++ (o1 ++ o2)), lv dp + 1⟩ (restG gs rs g6) := q2
                        rw [← List.append_assoc] at q2
                        exact q2
                  let N1 : Nat → Hp → Prop := fun j H2 => ∃ F1 g1 own1 acc L, MidAt X P (wipe σ2 vs1) [⟨.ref D, ⟨.lst acc, lv dp + 1⟩, L⟩] H2 F H own F1 g1 own1 ∧ acc.length ≤ i * M + j ∧ Keep (c := cn X P) F' F1 H' H2 ∧ Keep (c := cn X P) F5 F1 H5 H2 ∧
                    LcIn X P σ Q dp gs rs F H own rest acc (lcL t1 c1 e dp vs1 (ds1.drop j) g1)
                  refine ⟨fun j k H2 => k = ds1.length - j ∧ j ≤ ds1.length ∧ N1 j H2, ⟨_, rfl, Nat.zero_le _, F5, _, own6, acc, L, m6, ha, kp5, .refl, q3⟩, ?_⟩
                  rintro j k H6 ⟨rfl, hj, F6, g6, own7, acc6, L6, m7, ha6, kp6, kq6, q6⟩
                  obtain ⟨i1, i2, i3⟩ := it1 F6 H6 kq6 m7.g.frz j
                  by_cases hjl : j < ds1.length
                  · refine .inr ⟨i1 hjl, N1 (j + 1), fun H7 h => ⟨_, by omega, rfl, hjl, h⟩, fun x1 H7 y1 => ?_⟩
                    obtain ⟨d1, ed1, gr1, rp1⟩ := i3 x1 H7 hjl y1
                    have hd1 : ds1.drop j = d1 :: ds1.drop (j + 1) := by
                      rw [List.drop_eq_getElem_cons hjl]
                      rw [List.getElem?_eq_getElem hjl] at ed1
                      cases ed1; rfl
                    rw [hd1] at q6
                    unfold lcL at q6
                    cases ea1 : t1.asg d1 g6 with
                    | none => rw [ea1] at q6; exact False.elim q6
                    | some g7 =>
                      rw [ea1] at q6
                      simp only at q6
                      have m8 : MidAt X P (wipe σ2 vs1) [⟨.ref D, ⟨.lst acc6, lv dp + 1⟩, L6⟩] H7 F H own F6 g6 own7 := mid_step m7 gr1.step (m7.g.grow gr1)
                      refine ⟨F6, g6, own7, d1, g7, m8.g, rp1, ea1, fun σ3 own8 ag1 s8 I8 => ?_⟩
                      have m9 : MidAt X P σ3 [⟨.ref D, ⟨.lst acc6, lv dp + 1⟩, L6⟩] H7 F H own F6 g7 own8 := mid_step m8 s8 I8
                      have kp7 : Keep (c := cn X P) F' F6 H' H7 := kp6.trans gr1.keep
                      have kq7 : Keep (c := cn X P) F5 F6 H5 H7 := kq6.trans gr1.keep
                      have hσ3 : ∀ j, j ∉ vs1 → σ3[j]? = σ2[j]? := fun j hj => by rw [ag1 j fun z => hj (hsl1 j z), wipe_get hj]
                      have hs3 : σ3.length = σ2.length := by
                        have h1 : σ3.length = X.N.length := I8.slen
                        have h2 : σ2.length = X.N.length := I3.slen
                        rw [h1, h2]
                      refine ⟨wipe_eq hσ3 hs3, ?_⟩
                      have fin1 : ∀ (b : Bool) (g8 : Env) (H8 : Hp) (F8 : Fz) (own9 : Ow), MidAt X P σ3 [⟨.ref D, ⟨.lst acc6, lv dp + 1⟩, L6⟩] H8 F H own F8 g8 own9 → Keep (c := cn X P) F' F8 H' H8 → Keep (c := cn X P) F5 F8 H5 H8 →
                          LcIn X P σ Q dp gs rs F H own rest acc6 (match b with
                            | false => lcL t1 c1 e dp vs1 (ds1.drop (j + 1)) (killG vs1 g8)
                            | true => match e g8 with
                              | .ok v g4 => if dp = true ∧ v.o ≠ 1 then .bad else match lcL t1 c1 e dp vs1 (ds1.drop (j + 1)) (killG vs1 g4) with
                                | .ok rest g5 => .ok (v.d :: rest) g5
                                | _ => .bad
                              | _ => .bad) →
                          if b = true then tE X P.calm e σ3 H8 fun y H9 => ∃ av, H9 D = some (.lst av) ∧ av.length < sizeLine ∧ N1 (j + 1) (upd H9 D (.lst (av ++ [y]))) else N1 (j + 1) H8 := by
                        intro b g8 H8 F8 own9 mA kpA kqA qA
                        cases b with
                        | false =>
                          obtain ⟨ownC, mC⟩ := blk_mid (vs := vs1) hpv1 hσ3 mA I3.slen
                          exact itff ⟨F8, _, ownC, acc6, L6, mC, by omega, kpA, kqA, qA⟩
                        | true =>
                          refine ittt ?_
                          simp only at qA
                          cases ee : e g8 with
                          | bad => rw [ee] at qA; exact False.elim qA
                          | exc x g4 => rw [ee] at qA; exact False.elim qA
                          | ok v g9 =>
                            rw [ee] at qA
                            simp only at qA
                            split at qA
                            · exact False.elim qA
                            · rename_i hdp
                              refine mid_eval1 (P := P.calm) (X := X) (mid_calm mA) ee fun y Ly H9 F9 ownC mC kC => ?_
                              have mC := mid_uncalm mC
                              have qC : LcIn X P σ Q dp gs rs F H own rest (acc6 ++ [v.d]) (lcL t1 c1 e dp vs1 (ds1.drop (j + 1)) (killG vs1 g9)) := by
                                cases el : lcL t1 c1 e dp vs1 (ds1.drop (j + 1)) (killG vs1 g9) with
                                | ok o1 gA =>
                                  rw [el] at qA
                                  have qA : LcGoal X P σ Q dp gs rs F H own (acc6 ++ v.d :: o1) (rest gA) := qA
                                  have e1 : acc6 ++ v.d :: o1 = (acc6 ++ [v.d]) ++ o1 := by simp
                                  rw [e1] at qA
                                  exact qA
                                | exc x g5 => rw [el] at qA; exact False.elim qA
                                | bad => rw [el] at qA; exact False.elim qA
                              have mk : ∃ FD LD, MidAt X P σ3 (⟨y, ⟨v.d, lv dp⟩, LD⟩ :: [⟨.ref D, ⟨.lst acc6, lv dp + 1⟩, L6⟩]) H9 F H own FD g9 ownC ∧ Keep (c := cn X P) F' FD H' H9 ∧ Keep (c := cn X P) F5 FD H5 H9 := by
                                cases dp with
                                | true =>
                                  have hv : v.o = 1 := by
                                    by_cases h : v.o = 1
                                    · exact h
                                    · exact absurd ⟨rfl, h⟩ hdp
                                  obtain ⟨vd, vn⟩ := v
                                  simp only at hv
                                  subst hv
                                  exact ⟨F9, Ly, mC, kpA.trans kC, kqA.trans kC⟩
                                | false => exact ⟨_, [], mid_freezeAt mC, (kpA.trans kC).trans (.more fun _ h => .inl h), (kqA.trans kC).trans (.more fun _ h => .inl h)⟩
                              obtain ⟨FD, LD, mD, kD, kE⟩ := mk
                              obtain ⟨av, LE, eD, hlen, mE⟩ := mid_push mD
                              have hjM : i * M + j < sizeLine := by
                                have : (i + 1) * M = i * M + M := Nat.succ_mul i M
                                omega
                              refine ⟨av, eD, by omega, ?_⟩
                              obtain ⟨ownF, mF⟩ := blk_mid (vs := vs1) hpv1 hσ3 mE I3.slen
                              have hDF : ¬ FD D := (mD.sep _ (List.mem_cons_of_mem _ List.mem_cons_self) D (own_lst_len (mD.own _ (List.mem_cons_of_mem _ List.mem_cons_self)))).1
                              have kw := wr_keep (c := cn X P) (sh := .lst av) (sh' := .lst (av ++ [y])) eD hDF
                              exact ⟨FD, _, ownF, acc6 ++ [v.d], LE, mF, by simp; omega, kD.trans kw, kE.trans kw, qC⟩
                      cases c1 with
                      | none => exact fin1 true g7 H7 F6 own8 m9 kp7 kq7 q6
                      | some f =>
                        unfold testO at q6
                        simp only at q6
                        cases ef : f g7 with
                        | bad => rw [ef] at q6; exact False.elim q6
                        | exc x g3 => rw [ef] at q6; exact False.elim q6
                        | ok v g8 =>
                          rw [ef] at q6
                          simp only at q6
                          cases hv : v.d with
                          | bl b =>
                            rw [hv] at q6
                            refine mid_bool1 (P := P.calm) (X := X) (b := b) (mid_calm m9) ef hv fun H8 F8 own9 mA kA => ⟨b, rfl, ?_⟩
                            have mA := mid_uncalm mA
                            refine fin1 b g8 H8 F8 own9 mA (kp7.trans kA) (kq7.trans kA) ?_
                            cases b <;> exact q6
                          | _ => rw [hv] at q6; exact False.elim q6
                  · have e1 : j = ds1.length := by omega
                    subst e1
                    rw [List.drop_length] at q6
                    have q6 : LcGoal X P σ Q dp gs rs F H own (acc6 ++ []) (lcO M t c s1 t1 c1 e dp vs vs1 (ds.drop (i + 1)) (killG vs g6)) := q6
                    rw [List.append_nil] at q6
                    refine .inl ⟨i2 rfl, ?_⟩
                    have hσ2 : ∀ j, j ∉ vs → (wipe σ2 vs1)[j]? = σ[j]? := fun j hj => by rw [wipe_get fun z => hj (hv1 _ z), hσ j hj]
                    obtain ⟨ownC, mC⟩ := blk_mid (vs := vs) hpv hσ2 m7 I'.slen
                    refine ⟨F6, _, ownC, acc6, L6, mC, ?_, kp6, fun j hj v h => (kill_none h).2 hj, q6⟩
                    have : (i + 1) * M = i * M + M := Nat.succ_mul i M
                    omega
                · exact False.elim q2
          cases c with
          | none => exact fin true g2 H2 F1 own3 m3 kp2 q1
          | some f =>
            unfold testO at q1
            simp only at q1
            cases ef : f g2 with
            | bad => rw [ef] at q1; exact False.elim q1
            | exc x g3 => rw [ef] at q1; exact False.elim q1
            | ok v g3 =>
              rw [ef] at q1
              simp only at q1
              cases hv : v.d with
              | bl b =>
                rw [hv] at q1
                refine mid_bool1 (P := P.calm) (X := X) (b := b) (mid_calm m3) ef hv fun H3 F3 own4 m4 k4 => ⟨b, rfl, ?_⟩
                have m4 := mid_uncalm m4
                refine fin b g3 H3 F3 own4 m4 (kp2.trans k4) ?_
                cases b <;> exact q1
              | _ => rw [hv] at q1; exact False.elim q1
    · have e1 : i = ds.length := by omega
      subst e1
      rw [List.drop_length] at q1
      refine .inl ⟨j2 rfl, ?_⟩
      have q2 : End X P F H own σ Q ⟨.lst (acc ++ []), lv dp + 1⟩ (restG gs rs g1) := q1
      rw [List.append_nil] at q2
      have I2 : GX X P F1 H1 σ g1 own1 := m1.g.resig (fun j v h => by
        rw [wipe_get fun z => hn j z v h]) I'.slen fun p hp => by rw [wipe_get (hpv p hp)]
      obtain ⟨own2, I3, hle⟩ := I2.rest (g0 := gs) (rs := rs) fun j v h hz => by
        obtain ⟨x, hx, o⟩ := I'.slot j v h
        rw [hz] at o
        exact ⟨x, hx, o.zero.1.keep kp⟩
      have m2 : MidAt X P σ [⟨.ref D, ⟨.lst acc, lv dp + 1⟩, L⟩] H1 F H own F1 (restG gs rs g1) own2 := mid_step m1 (.less hle) I3
      have h0 := List.mem_singleton.mpr (rfl : (⟨.ref D, ⟨.lst acc, lv dp + 1⟩, L⟩ : Tmp) = _)
      exact q2 F1 H1 own2 _ L m2.st m2.g (m2.own _ h0) ⟨by have := m2.nd; simpa using this, m2.sep _ h0⟩
variable {elt tg iter tg1 iter1 : Expr} {ifs ifs1 : List Expr} {scope : Scope} {pos : Pos} {nm : List (Str × Nat)}
theorem s_lc2 (hc : X.calm = true) (hN : X.N.Nodup) (hi : SI X P tg iter s) (ok : BlkOk X.N X.env.scope scope nm) (hv : nm.map (·.2) = vs) (hsl : ∀ i ∈ t.sl, i ∈ vs) (hsl1 : ∀ i ∈ t1.sl, i ∈ vs1) (hv1 : ∀ i ∈ vs1, i ∈ vs) (hpv : ∀ p ∈ P.pz, p.1 ∉ vs)
    (hg : ∀ (s : Shared) (H : Hp) (C : Addr) (cl : List (Str × Addr)) (fp : List Addr), SG (X.blk s H scope (compEnvC scope cl C X.env) fp) P.calm tg t)
    (ht : ∀ (s : Shared) (H : Hp) (C : Addr) (cl : List (Str × Addr)) (fp : List Addr), SC (X.blk s H scope (compEnvC scope cl C X.env) fp) P.calm ifs c)
    (hi1 : ∀ (s : Shared) (H : Hp) (C : Addr) (cl : List (Str × Addr)) (fp : List Addr), SI (X.blk s H scope (compEnvC scope cl C X.env) fp) P.calm tg1 iter1 s1)
    (hg1 : ∀ (s : Shared) (H : Hp) (C : Addr) (cl : List (Str × Addr)) (fp : List Addr), SG (X.blk s H scope (compEnvC scope cl C X.env) fp) P.calm tg1 t1)
    (ht1 : ∀ (s : Shared) (H : Hp) (C : Addr) (cl : List (Str × Addr)) (fp : List Addr), SC (X.blk s H scope (compEnvC scope cl C X.env) fp) P.calm ifs1 c1)
    (he : ∀ (s : Shared) (H : Hp) (C : Addr) (cl : List (Str × Addr)) (fp : List Addr), SE (X.blk s H scope (compEnvC scope cl C X.env) fp) P.calm elt e)
    (hs : ∀ x, foldedSetIterable iter X.env x = pure x := by intro _; rfl) (hs1 : ∀ env x, foldedSetIterable iter1 env x = pure x := by intro _ _; rfl) :
    SE X P (.ListComp elt [⟨tg, iter, ifs, 0⟩, ⟨tg1, iter1, ifs1, 0⟩] scope pos) (eLc2 s t c s1 t1 c1 e dp vs vs1 rs) := by
  subst hv
  exact ⟨pe_imp (pe_lc2 (vs1 := vs1) hc hN hi.pi ok hv1 (g := tG X P.calm t) (tt := tC? X P.calm c) (wi1 := tI X P.calm s1) (g1 := tG X P.calm t1) (tt1 := tC? X P.calm c1) (te := tE X P.calm e) (fun s H C cl fp => (hg s H C cl fp).pg) (fun s H C cl fp => (ht s H C cl fp).pts)
    (fun s H C cl fp => (hi1 s H C cl fp).pi) (fun s H C cl fp => (hg1 s H C cl fp).pg) (fun s H C cl fp => (ht1 s H C cl fp).pts) (fun s H C cl fp => (he s H C cl fp).pe) hs hs1) fun σ H Q q => core_lc2 hsl hsl1 hv1 hpv q⟩
theorem s_setLc2 {i : Nat} {y : Str} {py spos : Pos} {k : Bool} (hc : X.calm = true) (hN : X.N.Nodup) (hy : X.N[i]? = some y) (hyl : X.env.scope.names.lookup y = some .local)
    (hsw : swapsWith (.ListComp elt [⟨tg, iter, ifs, 0⟩, ⟨tg1, iter1, ifs1, 0⟩] scope pos) (some (.Name y py)) spos.line X.env = pure true) (hpz : i ∉ P.pz.map (·.1))
    (hi : SI X P tg iter s) (ok : BlkOk X.N X.env.scope scope nm) (hv : nm.map (·.2) = vs) (hsl : ∀ i ∈ t.sl, i ∈ vs) (hsl1 : ∀ i ∈ t1.sl, i ∈ vs1) (hv1 : ∀ i ∈ vs1, i ∈ vs) (hpv : ∀ p ∈ P.pz, p.1 ∉ vs)
    (hg : ∀ (s : Shared) (H : Hp) (C : Addr) (cl : List (Str × Addr)) (fp : List Addr), SG (X.blk s H scope (compEnvC scope cl C X.env) fp) P.calm tg t)
    (ht : ∀ (s : Shared) (H : Hp) (C : Addr) (cl : List (Str × Addr)) (fp : List Addr), SC (X.blk s H scope (compEnvC scope cl C X.env) fp) P.calm ifs c)
    (hi1 : ∀ (s : Shared) (H : Hp) (C : Addr) (cl : List (Str × Addr)) (fp : List Addr), SI (X.blk s H scope (compEnvC scope cl C X.env) fp) P.calm tg1 iter1 s1)
    (hg1 : ∀ (s : Shared) (H : Hp) (C : Addr) (cl : List (Str × Addr)) (fp : List Addr), SG (X.blk s H scope (compEnvC scope cl C X.env) fp) P.calm tg1 t1)
    (ht1 : ∀ (s : Shared) (H : Hp) (C : Addr) (cl : List (Str × Addr)) (fp : List Addr), SC (X.blk s H scope (compEnvC scope cl C X.env) fp) P.calm ifs1 c1)
    (he : ∀ (s : Shared) (H : Hp) (C : Addr) (cl : List (Str × Addr)) (fp : List Addr), SE (X.blk s H scope (compEnvC scope cl C X.env) fp) P.calm elt e)
    (hs : ∀ x, foldedSetIterable iter X.env x = pure x := by intro _; rfl) (hs1 : ∀ env x, foldedSetIterable iter1 env x = pure x := by intro _ _; rfl) :
    SS X P (.Assign [.Name y py] (.ListComp elt [⟨tg, iter, ifs, 0⟩, ⟨tg1, iter1, ifs1, 0⟩] scope pos) spos) (sSet i k (eLc2 s t c s1 t1 c1 e dp vs vs1 rs)) := by
  subst hv
  exact ⟨ps_imp (ps_setLc2 (vs1 := vs1) hc hN hy hyl hsw hi.pi ok hv1 (g := tG X P.calm t) (tt := tC? X P.calm c) (wi1 := tI X P.calm s1) (g1 := tG X P.calm t1) (tt1 := tC? X P.calm c1) (te := tE X P.calm e) (fun s H C cl fp => (hg s H C cl fp).pg) (fun s H C cl fp => (ht s H C cl fp).pts)
    (fun s H C cl fp => (hi1 s H C cl fp).pi) (fun s H C cl fp => (hg1 s H C cl fp).pg) (fun s H C cl fp => (ht1 s H C cl fp).pts) (fun s H C cl fp => (he s H C cl fp).pe) hs hs1) fun D σ H q => core_lc2 hsl hsl1 hv1 hpv (core_set (List.getElem?_eq_some_iff.mp hy).1 hpz q)⟩
end
end PL

/-! PD3: dicts changed in place: d[k] = v, d.pop(k). -/
namespace PL
open PySem PySem.Spec L2

section
variable {X : Cx} {P : Par} {pins : List (Addr × Obj)} {σ : St} {H : Hp} {s : Shared} {F : Fz} {a : Addr} {es : Ent} {kvs : List (PL.D × PL.D)} {k d : PL.D} {y x : V} {u r : Value} {A : Around} {E : Value → Shared → Prop}
theorem dict_new {P : Program} {w : World} {H' : Hp} {h' : Heap} (hl : es.1.length ≤ sizeLine) (hs : (a == sysModules) = false) (hd : h'.DictRaw a es.1.toArray es.2) : ObjOk P w H' h' a (shO a (.dct es)) :=
  ⟨⟨hl, hs, hd⟩, let ⟨o, ho, _⟩ := hd; ⟨o, ho⟩, fun h1 h2 ⟨a1, a2, a3⟩ k => ⟨a1, a2, a3.at k⟩⟩
theorem any_find {vs : List (Key × Value)} {k : Key} : (vs.any fun kv => decide (kv.1 = k)) = (vs.find? fun x => decide (x.1 = k)).isSome := by
  induction vs with
  | nil => rfl
  | cons v vs ih =>
    rw [List.any_cons, List.find?_cons]
    cases decide (v.1 = k) with
    | true => rfl
    | false => simpa using ih
theorem put_flat {vs : List (Key × Value)} {vv : V} {w : Value} (px : Paired (FR (cn X P) H F) vs kvs) (fk : flatK k = true) (e3 : RelV vv w) (e4 : Rp (cn X P) H F vv d) : Paired (FR (cn X P) H F) (stored vs (kV' k) w) (putD kvs k d) := by
  have f := pair_find (g := fun x : Key × Value => nkK x.1) (fun x p h => h.key) (flat_nk fk) px
  rw [find_nk] at f
  have e : (vs.find? fun x => decide (x.1 = kV' k)).isSome = (kvs.find? fun p => eqD p.1 k).isSome := by
    split at f
    · rename_i e1 e2; rw [e1, e2]; rfl
    · rename_i e1 e2; rw [e1, e2]; rfl
    · exact f.elim
  unfold stored putD
  rw [any_find, e]
  split
  · have m := pair_map (R := FR (cn X P) H F) (g := fun x : Key × Value => nkK x.1) (fun x p h => h.key) (flat_nk fk) (f := fun kv => (kv.1, w)) (f2 := fun p => (p.1, d)) (fun x p h _ => ⟨h.1, h.2.1, vv, e3, e4⟩) px
    have ee : (fun x : Key × Value => if nkK x.1 = nkK (kV' k) then (x.1, w) else x) = fun kv => if kv.1 = kV' k then (kv.1, w) else kv := by
      funext x
      by_cases q : x.1 = kV' k
      · rw [if_pos q, if_pos (by rw [q])]
      · rw [if_neg q, if_neg fun z => q (nk_inj z)]
    rw [ee] at m
    exact m
  · exact pair_snoc ⟨fk, rfl, vv, e3, e4⟩ px
theorem put_tup {xs : List (NestedKey × Addr × Value)} {nk : NestedKey} {b : Addr} {vv : V} {w : Value} (px : Paired (TR (cn X P) H F) xs kvs) (hk : keyD k = some nk) (rb : Rp (cn X P) H F (.ref b) k) (e3 : RelV vv w) (e4 : Rp (cn X P) H F vv d) :
    Paired (TR (cn X P) H F) (storedH xs nk b w) (putD kvs k d) := by
  have f := pair_find (g := fun x : NestedKey × Addr × Value => x.1) (fun x p h => h.1) hk px
  have e : (atKey xs nk).isSome = (kvs.find? fun p => eqD p.1 k).isSome := by
    unfold atKey
    rw [Option.isSome_map]
    split at f
    · rename_i e1 e2; rw [e1, e2]; rfl
    · rename_i e1 e2; rw [e1, e2]; rfl
    · exact f.elim
  unfold storedH putD
  rw [e]
  split
  · exact pair_map (R := TR (cn X P) H F) (g := fun x : NestedKey × Addr × Value => x.1) (fun x p h => h.1) hk (f := fun x => (x.1, x.2.1, w)) (f2 := fun p => (p.1, d)) (fun x p h _ => ⟨h.1, h.2.1, vv, e3, e4⟩) px
  · exact pair_snoc ⟨hk, rb, vv, e3, e4⟩ px
theorem raw_of {h : Heap} {o : Obj} {es : Array DictEntry} {ep : Nat} (ho : h.get? a = some o) (hc : o.ExactDict) (hd : o.data = .dict es ep) : h.DictRaw a es.toList.toArray ep := ⟨o, ho, hc, by rw [Array.toArray_toList]; exact hd⟩
theorem pairs_len {α β : Type} {R : α → β → Prop} {xs : List α} {ys : List β} (h : Paired R xs ys) : xs.length = ys.length := by
  induction h with
  | nil => rfl
  | cons _ _ ih => simp [ih]
theorem mutSh {sh : Sh} (h : H a = some (shO a sh)) : Mut (H a) := by
  rw [h]
  cases sh <;> trivial
/-- d[k] = v -/
theorem dd_put {Q : Unit → Shared → Prop} (hu : A.units + 65 < cLine) (I : Inv X pins σ H s) (ha : H a = some (shO a (.dct es))) (ok : KOk kvs) (re : RpE (cn X P) H F es.1 kvs) (hk : Rp (cn X P) H F y k) (ry : RelV y u) (fit : fitK kvs k = true)
    (hv : Rp (cn X P) H F x d) (rx : RelV x r) (hl : kvs.length < sizeLine) (h : ∀ es' s', RpE (cn X P) H F es'.1 (putD kvs k d) → Inv X pins σ (upd H a (shO a (.dct es'))) s' → Q () s') : wpAny (model X.prog X.w) A (setItem (.ref a) u r) Q E s := by
  obtain ⟨hz, hs, _⟩ := dict_at I ha
  have hl2 : (putD kvs k d).length ≤ sizeLine := by have := length_putD kvs k d; omega
  rcases fit_kind ok fit with ⟨ft, fk⟩ | ⟨ft, fk⟩
  · obtain ⟨vs, px, dd⟩ := dict_F I ha ok re ft
    refine wpAny_setItem_pairs (hsz := by rw [pairs_len px]; omega) (flat_is hk ry fk) dd fun h' dd' hsb => ?_
    obtain ⟨o, es', ep, ho, hc, hd, hks, hps, hn⟩ := dd'
    have rp : RpE (cn X P) H F es'.toList (putD kvs k d) := flat_ent (c := cn X P) rfl (fun e he => hks e (by simpa using he)) hps (put_flat px fk rx hv)
    exact h (es'.toList, ep) _ rp (d_write I (mutSh ha) hsb ⟨o, ho⟩ (dict_new (by rw [ent_len rp]; exact hl2) hs (raw_of ho hc hd)))
  · obtain ⟨xs, ex, px, dd⟩ := dict_H I ha ok re ft
    obtain ⟨nk, b, k1, rfl, rfl, k2⟩ := tup_is I hk ry fk
    refine wpAny_setItem_heap (hsz := by rw [pairs_len px]; omega) (room9 hu) k2 dd fun h' dd' hsb => ?_
    obtain ⟨o, es', ep, ho, hc, hd, he, hks, hn⟩ := dd'
    have rp : RpE (cn X P) H F es'.toList (putD kvs k d) := by
      rw [he]
      exact tup_ent (c := cn X P) rfl (put_tup px k1 hk rx hv)
    exact h (es'.toList, ep) _ rp (d_write I (mutSh ha) hsb ⟨o, ho⟩ (dict_new (by rw [ent_len rp]; exact hl2) hs (raw_of ho hc hd)))
/-- the same, as a comprehension stores -/
theorem dd_set {Q : Unit → Shared → Prop} (hu : A.units + 65 < cLine) (I : Inv X pins σ H s) (ha : H a = some (shO a (.dct es))) (ok : KOk kvs) (re : RpE (cn X P) H F es.1 kvs) (hk : Rp (cn X P) H F y k) (ry : RelV y u) (fit : fitK kvs k = true)
    (hv : Rp (cn X P) H F x d) (rx : RelV x r) (hl : kvs.length < sizeLine) (h : ∀ es' s', RpE (cn X P) H F es'.1 (putD kvs k d) → Inv X pins σ (upd H a (shO a (.dct es'))) s' → Q () s') : wpAny (model X.prog X.w) A (dictSet a u r) Q E s := by
  obtain ⟨hz, hs, _⟩ := dict_at I ha
  have hl2 : (putD kvs k d).length ≤ sizeLine := by have := length_putD kvs k d; omega
  rcases fit_kind ok fit with ⟨ft, fk⟩ | ⟨ft, fk⟩
  · obtain ⟨vs, px, dd⟩ := dict_F I ha ok re ft
    refine wpAny_dictSet_pairs (hsz := by rw [pairs_len px]; omega) (flat_is hk ry fk) dd fun h' dd' hsb => ?_
    obtain ⟨o, es', ep, ho, hc, hd, hks, hps, hn⟩ := dd'
    have rp : RpE (cn X P) H F es'.toList (putD kvs k d) := flat_ent (c := cn X P) rfl (fun e he => hks e (by simpa using he)) hps (put_flat px fk rx hv)
    exact h (es'.toList, ep) _ rp (d_write I (mutSh ha) hsb ⟨o, ho⟩ (dict_new (by rw [ent_len rp]; exact hl2) hs (raw_of ho hc hd)))
  · obtain ⟨xs, ex, px, dd⟩ := dict_H I ha ok re ft
    obtain ⟨nk, b, k1, rfl, rfl, k2⟩ := tup_is I hk ry fk
    refine wpAny_dictSet_heap (hsz := by rw [pairs_len px]; omega) (show A.units + 8 < cLine by omega) k2 dd fun h' dd' hsb => ?_
    obtain ⟨o, es', ep, ho, hc, hd, he, hks, hn⟩ := dd'
    have rp : RpE (cn X P) H F es'.toList (putD kvs k d) := by
      rw [he]
      exact tup_ent (c := cn X P) rfl (put_tup px k1 hk rx hv)
    exact h (es'.toList, ep) _ rp (d_write I (mutSh ha) hsb ⟨o, ho⟩ (dict_new (by rw [ent_len rp]; exact hl2) hs (raw_of ho hc hd)))
theorem del_flat {vs : List (Key × Value)} (px : Paired (FR (cn X P) H F) vs kvs) (fk : flatK k = true) : Paired (FR (cn X P) H F) (without vs (kV' k)) (delD kvs k) := by
  have m := pair_filter (R := FR (cn X P) H F) (g := fun x : Key × Value => nkK x.1) (fun x p h => h.key) (flat_nk fk) px
  have ee : (fun x : Key × Value => decide (nkK x.1 ≠ nkK (kV' k))) = fun kv => decide (kv.1 ≠ kV' k) := by
    funext x
    exact decide_eq_decide.mpr ⟨fun z q => z (by rw [q]), fun z q => z (nk_inj q)⟩
  rw [ee] at m
  exact m
/-- d.pop(k) -/
theorem dd_pop {Q : Value → Shared → Prop} {v : PL.D} (hu : A.units + 65 < cLine) (I : Inv X pins σ H s) (ha : H a = some (shO a (.dct es))) (ok : KOk kvs) (re : RpE (cn X P) H F es.1 kvs) (hk : Rp (cn X P) H F y k) (ry : RelV y u) (fit : fitK kvs k = true)
    (hv : getD kvs k = some v) (h : ∀ es' vv w s', RpE (cn X P) H F es'.1 (delD kvs k) → RelV vv w → Rp (cn X P) H F vv v → Inv X pins σ (upd H a (shO a (.dct es'))) s' → Q w s') : wpAny (model X.prog X.w) A (call (.builtin "dict.pop") [.ref a, u]) Q E s := by
  obtain ⟨hz, hs, _⟩ := dict_at I ha
  have hz := hz
  rw [ent_len re] at hz
  have hl2 : (delD kvs k).length ≤ sizeLine := Nat.le_trans (List.length_filter_le _ _) hz
  rcases fit_kind ok fit with ⟨ft, fk⟩ | ⟨ft, fk⟩
  · obtain ⟨vs, px, dd⟩ := dict_F I ha ok re ft
    rcases at_flat (k := k) px fk with ⟨w, v', vv, e1, e2, e3, e4⟩ | ⟨_, e2⟩
    · rw [hv] at e2
      cases e2
      have hp : (keyPart u).isSome = true := by
        cases k with
        | int i =>
          cases hk
          obtain ⟨t, rfl⟩ := (show ∃ t, u = Value.int i t from ry)
          rfl
        | str i =>
          cases hk
          obtain ⟨t, rfl⟩ := (show ∃ t, u = Value.str i t from ry)
          rfl
        | _ => cases fk
      refine call_meetsIn PySem.F.slot_dict_pop dd.typeIs PySem.F.entry_dict_pop (PySem.F.args_dict_pop_2 _ _) (meets_dict_pop_there (mixKind X.prog X.w) a (flat_is hk ry fk) [] (.inl rfl) hp) ⟨vs, w, dd, by rw [pairs_len px]; exact hz, e1, fun h' dd' hsb => ?_⟩
      obtain ⟨o, es', ep, ho, hc, hd, hks, hps, hn⟩ := dd'
      have rp : RpE (cn X P) H F es'.toList (delD kvs k) := flat_ent (c := cn X P) rfl (fun e he => hks e (by simpa using he)) hps (del_flat px fk)
      exact h (es'.toList, ep) vv w _ rp e3 e4 (d_write I (mutSh ha) hsb ⟨o, ho⟩ (dict_new (by rw [ent_len rp]; exact hl2) hs (raw_of ho hc hd)))
    · rw [hv] at e2
      cases e2
  · obtain ⟨xs, ex, px, dd⟩ := dict_H I ha ok re ft
    obtain ⟨nk, b, k1, rfl, rfl, k2⟩ := tup_is I hk ry fk
    rcases at_tup (k := k) px k1 with ⟨p, v', vv, e1, e2, e3, e4⟩ | ⟨_, e2⟩
    · rw [hv] at e2
      cases e2
      refine call_pop_heap (hsz := by rw [pairs_len px]; exact hz) (.inl rfl) (PySem.F.args_dict_pop_2 _ _) (room9 hu) k2 hs dd e1 fun h' dd' hsb => ?_
      obtain ⟨o, es', ep, ho, hc, hd, he, hks, hn⟩ := dd'
      have rp : RpE (cn X P) H F es'.toList (delD kvs k) := by
        rw [he]
        exact tup_ent (c := cn X P) rfl (pair_filter (R := TR (cn X P) H F) (g := fun x : NestedKey × Addr × Value => x.1) (fun x p h => h.1) k1 px)
      exact h (es'.toList, ep) vv p.2 _ rp e3 e4 (d_write I (mutSh ha) hsb ⟨o, ho⟩ (dict_new (by rw [ent_len rp]; exact hl2) hs (raw_of ho hc hd)))
    · rw [hv] at e2
      cases e2
end

section
variable {X : Cx} {P : Par} {σ : St} {H : Hp} {Q : VK} {D : Ends} {ts : List Tmp} {F0 F1 : Fz} {H0 : Hp} {own0 own1 : Ow} {g1 : Env}
/-- a slot's dict, one level own -/
theorem take_dct {x : V} {kvs : List (PL.D × PL.D)} {L : List Addr} {c : Cn} {F : Fz} (o : Own c H F 1 x (.dct kvs) L) : ∃ a es, x = .ref a ∧ H a = some (shO a (.dct es)) ∧ KOk kvs ∧ RpE c H F es.1 kvs ∧ L = [a] := by
  cases o with
  | frz z r =>
    rcases z with z | z
    · cases z
    · cases z
  | @dct _ a es _ L1 e ok r =>
    obtain ⟨r1, r2⟩ := r.zero
    exact ⟨a, es, rfl, e, ok, r1, by rw [r2]⟩
theorem OwnE.of {c : Cn} {F : Fz} : ∀ {es : List DictEntry} {kvs : List (PL.D × PL.D)}, RpE c H F es kvs → OwnE c H F 0 es kvs []
  | _, _, .nil => .nil
  | _, _, .cons a b r1 r2 e1 e2 t => by
    have := OwnE.cons a b r1 (Own.of r2) e1 e2 (OwnE.of t)
    exact this
theorem mid_wrSlotD {i : Nat} {kvs kvs' : List (PL.D × PL.D)} {es es' : Ent} {a : Addr} (m : MidAt X P σ ts H F0 H0 own0 F1 g1 own1) (e : g1[i]? = some (some ⟨.dct kvs, 1⟩)) (hx : σ[i]? = some (some (.ref a))) (ha : H a = some (shO a (.dct es)))
    (ok : KOk kvs') (r : RpE (cn X P) H F1 es'.1 kvs') : ∃ own2, MidAt X P σ ts (upd H a (shO a (.dct es'))) F0 H0 own0 F1 (g1.set i (some ⟨.dct kvs', 1⟩)) own2 := by
  obtain ⟨x, own2, hx2, m2⟩ := mid_take m e
  rw [hx] at hx2
  cases hx2
  have o := m2.own _ List.mem_cons_self
  obtain ⟨a', es0, ea, e0, _, _, eL⟩ := take_dct o
  cases ea
  have hL : a ∈ own1 i := by
    have : own1 i = [a] := eL
    rw [this]; exact List.mem_singleton.mpr rfl
  obtain ⟨nf, no, _, yg⟩ := m2.sep _ List.mem_cons_self a hL
  have m3 := mid_wr (sh := .dct es') m2 hL
  have kp : Keep (c := cn X P) F1 F1 H (upd H a (shO a (.dct es'))) := wr_keep (sh := .dct es0) e0 nf
  have m4 : MidAt X P σ (⟨.ref a, ⟨.dct kvs', 1⟩, [a]⟩ :: ts) (upd H a (shO a (.dct es'))) F0 H0 own0 F1 (g1.set i none) own2 := by
    refine ⟨m3.g, m3.st, fun t ht => ?_, ?_, fun t ht b hb => ?_⟩
    · rcases List.mem_cons.mp ht with rfl | ht
      · exact .dct upd_same ok (.of (r.keep kp))
      · exact m3.own t ht
    · have q := m2.nd
      rw [List.flatMap_cons] at q ⊢
      have eL : own1 i = [a] := eL
      simp only [eL] at q
      exact q
    · rcases List.mem_cons.mp ht with rfl | ht
      · have e : b = a := by simpa using hb
        subst e
        exact ⟨nf, no, ⟨.dct es', upd_same⟩, yg⟩
      · exact m3.sep t ht b hb
  obtain ⟨own3, m5⟩ := mid_back (i := i) m4 hx
  rw [set_none_some] at m5
  exact ⟨own3, m5⟩
theorem slot_dct {i : Nat} {kvs : List (PL.D × PL.D)} (m : MidAt X P σ ts H F0 H0 own0 F1 g1 own1) (e : g1[i]? = some (some ⟨.dct kvs, 1⟩)) : ∃ a es, σ[i]? = some (some (.ref a)) ∧ H a = some (shO a (.dct es)) ∧ KOk kvs ∧ RpE (cn X P) H F1 es.1 kvs ∧ ¬ F1 a := by
  obtain ⟨x, hx, o⟩ := m.g.slot i _ e
  obtain ⟨a, es, ea, h, ok, r, eL⟩ := take_dct o
  subst ea
  exact ⟨a, es, hx, h, ok, r, (m.g.sep i a (by rw [eL]; exact List.mem_singleton.mpr rfl)).1⟩

/-! ### x[k] = e of a dict -/
def sSetD (i : Nat) (fk fv : Ex) : Sx := fun g => bindE (fv g) fun v g1 => match g1[i]? with
  | some (some ⟨.dct _, 1⟩) => bindE (fk g1) fun k g2 => match g2[i]? with
    | some (some ⟨.dct kvs, 1⟩) => if fitK kvs k.d = true ∧ kvs.length < big then .nx (g2.set i (some ⟨.dct (putD kvs k.d v.d), 1⟩)) else .bad
    | _ => .bad
  | _ => .bad
def rSetDc (c : Cn) : TSet := fun o i v H Q => ∃ (F : Fz) (a : Addr) (es : Ent) (kvs : List (PL.D × PL.D)) (k d : PL.D), o = .ref a ∧ H a = some (shO a (.dct es)) ∧ KOk kvs ∧ RpE c H F es.1 kvs ∧ Rp c H F i k ∧ Rp c H F v d ∧ fitK kvs k = true ∧ kvs.length < sizeLine ∧
  ∀ es', RpE c H F es'.1 (putD kvs k d) → Q (upd H a (shO a (.dct es')))
theorem set_dct (hu : X.A.units + 65 < cLine) : PSet X (rSetDc (cn X P)) := by
  intro pins s σ H o i v ov iv u Q I ro ri rv h
  obtain ⟨F, a, es, kvs, k, d, rfl, ha, ok, re, rk, rd, fit, hl, q⟩ := h
  cases (show ov = Value.ref a from ro)
  exact dd_put hu I ha ok re rk ri fit rd rv hl fun es' s' rp I' => ⟨_, I', q es' rp⟩
theorem core_setD {i : Nat} {fk fv : Ex} (q : tS X P (sSetD i fk fv) D σ H) : tE X P fv σ H fun x H1 => tVar i σ H1 fun o H2 => tE X P fk σ H2 fun k H3 => rSetDc (cn X P) o k x H3 (D.nx σ) := by
  refine tE_mono (mid_ofS q) fun x H1 ⟨v, L, m⟩ => ?_
  obtain ⟨F0, H0, own0, F1, g1, own1, m, q⟩ := mid_freeze m
  split at q
  · rename_i ds0 h0
    obtain ⟨a, es0, hx, ha, _⟩ := slot_dct m h0
    refine ⟨.ref a, hx, ?_⟩
    have mm : Mid X P σ [⟨x, ⟨v.d, 0⟩, []⟩] (fun F0 H0 own0 g => PostS X P F0 H0 own0 D (bindE (fk g) fun k g2 => match g2[i]? with
      | some (some ⟨.dct kvs, 1⟩) => if fitK kvs k.d = true ∧ kvs.length < big then .nx (g2.set i (some ⟨.dct (putD kvs k.d v.d), 1⟩)) else .bad
      | _ => .bad)) H1 := ⟨F0, H0, own0, F1, g1, own1, m, q⟩
    refine tE_mono (mid_evalS mm) fun k H2 ⟨kv, L2, m2⟩ => ?_
    obtain ⟨F0, H0, own0, F1, g1, own1, m, q⟩ := mid_freeze m2
    split at q
    · rename_i kvs h1
      obtain ⟨a', es2, hx2, ha2, ok, r2, nf⟩ := slot_dct m h1
      rw [hx] at hx2
      cases hx2
      split at q
      · rename_i hop
        have rk := (m.own _ List.mem_cons_self).zero.1
        have rv := (m.own _ (List.mem_cons_of_mem _ List.mem_cons_self)).zero.1
        refine ⟨F1, a, es2, kvs, kv.d, v.d, rfl, ha2, ok, r2, rk, rv, hop.1, by rw [← big_line]; exact hop.2, fun es' rp => ?_⟩
        obtain ⟨own2, m2⟩ := mid_wrSlotD m h1 hx ha2 (ok.put hop.1) rp
        exact q F1 _ own2 σ m2.st m2.g
      · exact False.elim q
    · exact False.elim q
  · exact False.elim q
variable {x : Str} {pos pos2 pos' : Pos} {ek ev e : Expr} {fk fv : Ex} {i : Nat} {es : List Expr} {fs : List Ex}
theorem s_setD (hu : X.A.units + 65 < cLine) (hN : X.N[i]? = some x) (hv : Vis X.env.scope x) (hk : SE X P ek fk) (he : SE X P ev fv) (hd : (x == ("__debug__" : Str)) = false := by decide) (hcd : (x == ("__classdict__" : Str)) = false := by decide)
    (hs : swapsWithSole [.Subscript (.Name x pos) ek pos'] ev pos2.line X.env = pure false := by rfl) (hw : swappedStores [.Subscript (.Name x pos) ek pos'] ev X.env = pure none := by rfl)
    (h1 : (assignEach [.Subscript (.Name x pos) ek pos'] X.env).map (·.2) = [assign (.Subscript (.Name x pos) ek pos') X.env] := by rfl)
    (ha : ∀ v, assign (.Subscript (.Name x pos) ek pos') X.env v = (do
      let ov ← holding [v] (eval (.Name x pos) X.env)
      let iv ← holding [v, ov] (eval ek X.env)
      standAt pos'
      holding [v, ov, iv] (setItem ov iv v)
      release [v, ov, iv] []) := by intro _; rfl) : SS X P (.Assign [.Subscript (.Name x pos) ek pos'] ev pos2) (sSetD i fk fv) :=
  ⟨ps_imp (ps_asg he.pe (pg_sub (pe_var hN hv hd hcd) hk.pe (set_dct (P := P) hu) ha) hs hw h1) fun D σ H q => core_setD q⟩
end
end PL

/-! PD4: methods: d.pop(k) of a slot's dict, methods that only read. -/
namespace PL
open PySem PySem.Spec L2

/-- a receiver of a builtin type -/
structure TyW (X : Cx) (T : String) (ty : V → Hp → Prop) : Prop where
  is : ∀ {pins : List (Addr × Obj)} {s : Shared} {σ : St} {H : Hp} {x : V} {v : Value}, Inv X pins σ H s → RelV x v → ty x H → s.TypeIs v T ∧ ∀ a, v = .ref a → ∃ ob, s.heap.get? a = some ob ∧ ob.dict = none
def tBMX (ty : V → Hp → Prop) (r : V → List V → Hp → VK → Prop) (to : TE) (t : TA) : TE := fun σ H Q => to σ H fun x H1 => ty x H1 ∧ t σ H1 fun xs H2 => r x xs H2 Q
section
variable {X : Cx} {T id : String} {name : Str} {ty : V → Hp → Prop} {r : V → List V → Hp → VK → Prop} {ob e : Expr} {es : List Expr} {to : TE} {t : TA} {apos cpos : Pos}
theorem pe_bmX (w : TyW X T ty) (pa : PlainAttrs T) (slot : Slot T name id) (hty : typeOf (.builtin id) = pure (.type "method_descriptor")) (hm : MtR X id r) (ho : PE X ob to) (ha : PA X (e :: es) t) (hbase : attributeBase ob name X.env (eval ob X.env) = eval ob X.env) (hfew : ((backTo cpos (starEach (e :: es) X.env)).all (fun x => !x.1) && (backToKw cpos (keywordEach [] X.env)).all (fun x => x.1.isSome) && decide ((e :: es).length + ([] : List Keyword).length + (if ([] : List Keyword).isEmpty then 0 else 1) < 30)) = true)
    (hline : (apos.endLine == cpos.line) = true) (hs : starEach (e :: es) X.env = (false, eval e X.env) :: starEach es X.env) (hplain : (backTo cpos (starEach es X.env)).any (·.1) = false) : PE X (.Call (.Attribute ob name apos) (e :: es) [] cpos) (tBMX ty r to t) := by
  refine ⟨fun pins s σ H Q I h => ?_⟩
  refine wpAny_Call_method_late hbase hfew hline rfl (thn (ho.run pins s σ H _ I h) fun v s1 ⟨x, H1, I1, r1, tx, q1⟩ => ?_)
  obtain ⟨h1, h2⟩ := w.is I1 r1 tx
  refine ⟨T, id, pa, slot, hty, h1, h2, ?_⟩
  have args := ha.run cpos pins s1 σ H1 _ I1 q1
  rw [hs] at args ⊢
  refine Calls.callWith_builtin (by show (false || (backTo cpos (starEach es X.env)).any (·.1)) = false; rw [hplain]; rfl) (Calls.evalArgs_plain (thn args fun us s2 ⟨vs, H2, I2, r2, q2⟩ => ?_))
  exact hm pins s2 σ H2 x vs v us Q I2 r1 r2 q2
theorem pe_bmX0 (w : TyW X T ty) (pa : PlainAttrs T) (slot : Slot T name id) (hty : typeOf (.builtin id) = pure (.type "method_descriptor")) (hm : MtR X id r) (ho : PE X ob to) (hbase : attributeBase ob name X.env (eval ob X.env) = eval ob X.env) (hline : (apos.endLine == cpos.line) = true) : PE X (.Call (.Attribute ob name apos) [] [] cpos) (tBMX ty r to tNil) := by
  refine ⟨fun pins s σ H Q I h => ?_⟩
  refine wpAny_Call_method0_late hbase hline (thn (ho.run pins s σ H _ I h) fun v s1 ⟨x, H1, I1, r1, tx, q1⟩ => ?_)
  obtain ⟨h1, h2⟩ := w.is I1 r1 tx
  exact ⟨T, id, pa, slot, hty, h1, h2, Calls.callWith_builtin rfl (PySem.evalArgs_none (hm pins s1 σ H1 x [] v [] Q I1 r1 .nil q1))⟩
end
def tyDc (x : V) (H : Hp) : Prop := ∃ a es, x = .ref a ∧ H a = some (shO a (.dct es))
theorem tyw_dict {X : Cx} : TyW X "dict" tyDc := ⟨fun I rx ⟨a, es, e, ha⟩ => by
  subst e
  cases rx
  obtain ⟨_, _, hd⟩ := dict_at I ha
  refine ⟨hd.typeIs, fun b e => ?_⟩
  cases e
  obtain ⟨o, ho, hc, _⟩ := hd
  exact ⟨o, ho, hc.2.1⟩⟩
theorem tyw_std {X : Cx} {T : String} : TyW X T (tyV X.K T) := ⟨fun I rx h => tyV_is I rx h⟩

section
variable {X : Cx} {P : Par} {σ : St} {H : Hp} {Q : VK} {D : Ends} {ts : List Tmp}
/-! ### d.m(..) that changes the dict in slot i -/
abbrev OpD := List (PL.D × PL.D) → List PL.D → Option (PL.D × List (PL.D × PL.D))
def mutD (i : Nat) (op : OpD) (as : List PL.D) (g : Env) : Out := match g[i]? with
  | some (some ⟨.dct kvs, 1⟩) => match op kvs as with
    | some (r, kvs') => .ok ⟨r, 0⟩ (g.set i (some ⟨.dct kvs', 1⟩))
    | none => .bad
  | _ => .bad
def eMutD (i : Nat) (fs : List Ex) (op : OpD) : Ex := fun g => match g[i]? with
  | some (some ⟨.dct _, 1⟩) => goE fs (mutD i op) g
  | _ => .bad
def rMutD (c : Cn) (op : OpD) : V → List V → Hp → VK → Prop := fun x as H Q => ∃ (F : Fz) (a : Addr) (es : Ent) (kvs : List (PL.D × PL.D)) (ds : List PL.D) (r : PL.D) (kvs' : List (PL.D × PL.D)), x = .ref a ∧ H a = some (shO a (.dct es)) ∧ ¬ F a ∧ KOk kvs ∧ RpE c H F es.1 kvs ∧ RpA c H F as ds ∧ op kvs ds = some (r, kvs') ∧
  ∀ z es', Rp c H F z r → KOk kvs' → RpE c H F es'.1 kvs' → Q z (upd H a (shO a (.dct es')))
theorem core_mutD {i : Nat} {fs : List Ex} {op : OpD} (q : tE X P (eMutD i fs op) σ H Q) : tVar i σ H fun x H1 => tyDc x H1 ∧ tEs X P fs σ H1 fun as H2 => rMutD (cn X P) op x as H2 Q := by
  obtain ⟨F0, H0, own0, F1, g1, own1, m, q⟩ := mid_of q
  have q : PostK X P F0 H0 own0 σ (End X P F0 H0 own0 σ Q) (eMutD i fs op g1) := q
  unfold eMutD at q
  split at q
  · rename_i ds0 h0
    obtain ⟨a, es0, hx, ha, _⟩ := slot_dct m h0
    refine ⟨.ref a, hx, ⟨a, es0, rfl, ha⟩, ?_⟩
    have mm : Mid X P σ ([] : List Tmp) (fun F0 H0 own0 g => PostK X P F0 H0 own0 σ (End X P F0 H0 own0 σ Q) (goE fs (mutD i op) g)) H := ⟨F0, H0, own0, F1, g1, own1, m, q⟩
    refine tEs_mono (mid_exs mm) fun as H2 ⟨ts2, ds, rc, _, _, F0, H0, own0, F1, g1, own1, m, q⟩ => ?_
    have q : PostK X P F0 H0 own0 σ (End X P F0 H0 own0 σ Q) (mutD i op ds g1) := q
    unfold mutD at q
    split at q
    · rename_i kvs h1
      obtain ⟨a', es2, hx2, ha2, ok, r2, nf⟩ := slot_dct m h1
      rw [hx] at hx2
      cases hx2
      split at q
      · rename_i r kvs' hop
        refine ⟨F1, a, es2, kvs, ds, r, kvs', rfl, ha2, nf, ok, r2, rc.rp m, hop, fun z es' rz ok' rv => ?_⟩
        obtain ⟨own2, m2⟩ := mid_wrSlotD m h1 hx ha2 ok' rv
        have kp : Keep (c := cn X P) F1 F1 H2 (upd H2 a (shO a (.dct es'))) := wr_keep (sh := .dct es2) ha2 nf
        exact q F1 _ own2 z [] m2.st m2.g (.of (rz.keep kp)) ⟨List.nodup_nil, fun _ h => nomatch h⟩
      · exact False.elim q
    · exact False.elim q
  · exact False.elim q
variable {x name : Str} {pos apos cpos : Pos} {e : Expr} {es : List Expr} {fs : List Ex} {id : String} {op : OpD} {i : Nat}
theorem s_mutD (slot : Slot "dict" name id) (hty : typeOf (.builtin id) = pure (.type "method_descriptor")) (hm : MtR X id (rMutD (cn X P) op)) (hN : X.N[i]? = some x) (hv : Vis X.env.scope x) (ha : SL X P (e :: es) fs)
    (hd : (x == ("__debug__" : Str)) = false := by decide) (hcd : (x == ("__classdict__" : Str)) = false := by decide) (hbase : attributeBase (.Name x pos) name X.env (eval (.Name x pos) X.env) = eval (.Name x pos) X.env := by rfl)
    (hfew : ((backTo cpos (starEach (e :: es) X.env)).all (fun x => !x.1) && (backToKw cpos (keywordEach [] X.env)).all (fun x => x.1.isSome) && decide ((e :: es).length + ([] : List Keyword).length + (if ([] : List Keyword).isEmpty then 0 else 1) < 30)) = true := by rfl)
    (hline : (apos.endLine == cpos.line) = true := by rfl) (hs : starEach (e :: es) X.env = (false, eval e X.env) :: starEach es X.env := by rfl) (hplain : (backTo cpos (starEach es X.env)).any (·.1) = false := by rfl) : SE X P (.Call (.Attribute (.Name x pos) name apos) (e :: es) [] cpos) (eMutD i fs op) :=
  ⟨pe_imp (pe_bmX tyw_dict PySem.F.plainAttrs_dict slot hty hm (pe_var hN hv hd hcd) ha.pa hbase hfew hline hs hplain) fun σ H Q q => core_mutD q⟩
def opPopD : OpD := fun kvs as => match as with
  | [k] => if fitK kvs k = true then (getD kvs k).map fun v => (v, delD kvs k) else none
  | _ => none
theorem m_popD (hu : X.A.units + 65 < cLine) : MtR X "dict.pop" (rMutD (cn X P) opPopD) := by
  intro pins s σ H x as v us Q I rx ra h
  obtain ⟨F, a, es, kvs, ds, r, kvs', rfl, ha, nf, ok, re, rd, hop, q⟩ := h
  cases (show v = Value.ref a from rx)
  unfold opPopD at hop
  split at hop
  · rename_i k
    cases rd with
    | cons rk r0 =>
      cases r0
      split at hop
      · rename_i hf
        cases hv : getD kvs k with
        | none => rw [hv] at hop; cases hop
        | some d =>
          rw [hv] at hop
          cases hop
          cases ra with
          | cons ry r0 =>
            cases r0
            exact dd_pop hu I ha ok re rk ry hf hv fun es' vv w s' rp rw' rv I' => ⟨vv, _, I', rw', q vv es' rv ok.del rp⟩
      · cases hop
  · cases hop

/-! ### methods that only read -/
def chkT (T : PL.D → Bool) (d : Option PL.D) (k : Out) : Out := match d with
  | some d => if T d = true then k else .bad
  | none => .bad
def eMeth (T : PL.D → Bool) (o : List PL.D → Option Val) (a : Opd) (as : List Opd) : Ex := fun g => a.go (fun ra g1 => chkT T (ra g1) (goN as (fun rs g2 => finN o (allS (ra :: rs) g2) g2) g1)) g
theorem core_meth {T : PL.D → Bool} {o : List PL.D → Option Val} {a : Opd} {as : List Opd} {ty : V → Hp → Prop} (ht : ∀ {H : Hp} {F : Fz} {x : V} {d : PL.D}, Rt (cn X P) H F x d → T d = true → ty x H) (q : tE X P (eMeth T o a as) σ H Q) :
    tO X P a σ H fun x H1 => ty x H1 ∧ tOs X P as σ H1 fun xs H2 => rDn (cn X P) o (x :: xs) H2 Q := by
  refine tO_mono (mid_opd (mid_of q)) fun x H1 ⟨ts1, ra, hx, _, F0, H0, own0, F1, g1, own1, m, q⟩ => ?_
  have q : PostK X P F0 H0 own0 σ (End X P F0 H0 own0 σ Q) (chkT T (ra g1) (goN as (fun rs g2 => finN o (allS (ra :: rs) g2) g2) g1)) := q
  unfold chkT at q
  split at q
  · rename_i d hd
    split at q
    · rename_i hT
      refine ⟨ht (hx.rt m hd) hT, ?_⟩
      have mm : Mid X P σ ts1 (fun F0 H0 own0 g => PostK X P F0 H0 own0 σ (End X P F0 H0 own0 σ Q) (goN as (fun rs g2 => finN o (allS (ra :: rs) g2) g2) g)) H1 := ⟨F0, H0, own0, F1, g1, own1, m, q⟩
      refine tOs_mono (mid_opds mm) fun xs H2 ⟨ts2, rs, hs, up, m2⟩ => ?_
      obtain ⟨ds, v, F0, H0, own0, F1, g1, own1, m, r1, e3, q⟩ := finN_end (ROs.cons (up _ _ hx) hs) m2
      exact ⟨F1, ds, v, m.g.frz, r1, e3, mid_end2 m q⟩
    · exact False.elim q
  · exact False.elim q
variable {ob : Expr} {a : Opd} {as : List Opd} {T : PL.D → Bool} {o : List PL.D → Option Val} {TT : String} {ty : V → Hp → Prop}
theorem s_meth (w : TyW X TT ty) (ht : ∀ {H : Hp} {F : Fz} {x : V} {d : PL.D}, Rt (cn X P) H F x d → T d = true → ty x H) (pa : PlainAttrs TT) (slot : Slot TT name id) (hty : typeOf (.builtin id) = pure (.type "method_descriptor")) (hm : MtR X id (fun x xs H Q => rDn (cn X P) o (x :: xs) H Q)) (ho : SO X P ob a) (ha : SA X P (e :: es) as)
    (hbase : attributeBase ob name X.env (eval ob X.env) = eval ob X.env := by rfl)
    (hfew : ((backTo cpos (starEach (e :: es) X.env)).all (fun x => !x.1) && (backToKw cpos (keywordEach [] X.env)).all (fun x => x.1.isSome) && decide ((e :: es).length + ([] : List Keyword).length + (if ([] : List Keyword).isEmpty then 0 else 1) < 30)) = true := by rfl)
    (hline : (apos.endLine == cpos.line) = true := by rfl) (hs : starEach (e :: es) X.env = (false, eval e X.env) :: starEach es X.env := by rfl) (hplain : (backTo cpos (starEach es X.env)).any (·.1) = false := by rfl) : SE X P (.Call (.Attribute ob name apos) (e :: es) [] cpos) (eMeth T o a as) :=
  ⟨pe_imp (pe_bmX w pa slot hty hm ho.pe ha.pa hbase hfew hline hs hplain) fun σ H Q q => core_meth ht q⟩
def isDct : PL.D → Bool
  | .dct _ => true
  | _ => false
def isLst : PL.D → Bool
  | .lst _ => true
  | _ => false
theorem ty_dct {H : Hp} {F : Fz} {x : V} {d : PL.D} (h : Rt (cn X P) H F x d) (e : isDct d = true) : tyDc x H := by
  cases d with
  | dct kvs =>
    obtain ⟨a, es, rfl, ha, _⟩ := h.dc
    exact ⟨a, es, rfl, ha⟩
  | _ => cases e
theorem ty_lst {H : Hp} {F : Fz} {x : V} {d : PL.D} (h : Rt (cn X P) H F x d) (e : isLst d = true) : tyV X.K "list" x H := by
  cases d with
  | lst kvs =>
    obtain ⟨a, es, rfl, ha, _⟩ := h.li
    exact .inl ⟨rfl, es, .inl ha⟩
  | _ => cases e
def oGet : List PL.D → Option Val
  | [.dct kvs, k, z] => if fitK kvs k = true ∧ isMut z = false then some ⟨(PL.getD kvs k).getD z, 0⟩ else none
  | _ => none
theorem rt_get {F : Fz} {y : V} {z : PL.D} {H : Hp} (h : Rt (cn X P) H F y z) (hm : isMut z = false) : Rp (cn X P) H F y z := by
  cases h with
  | of h => exact h
  | lst _ _ => cases hm
  | dct _ _ _ => cases hm
theorem m_get (hu : X.A.units + 65 < cLine) : MtR X "dict.get" (fun x xs H Q => rDn (cn X P) oGet (x :: xs) H Q) := by
  intro pins s σ H x xs v us Q I rx rxs ⟨F, ds, w, tr, hx, ho, q⟩
  unfold oGet at ho
  split at ho
  · rename_i kvs k z
    cases hx with
    | cons h1 h2 =>
      cases h2 with
      | cons h2 h3 =>
        cases h3 with
        | cons h3 h4 =>
          cases h4
          split at ho
          · rename_i hf
            cases ho
            obtain ⟨a, es, rfl, ha, ok, re⟩ := h1.dc
            cases (show v = Value.ref a from rx)
            cases rxs with
            | cons ry r0 =>
              cases r0 with
              | cons rz r0 =>
                cases r0
                refine dd_get2 hu I ha ok re (rt_key h2 ok hf.1) ry hf.1 (fun d vv w s' e I' rw' rp => ?_) fun s' e I' => ?_
                · rw [e] at q
                  exact ⟨vv, H, I', rw', q.val (.inl rfl) rp⟩
                · rw [e] at q
                  exact ⟨_, H, I', rz, q.val (.inl rfl) (rt_get h3 hf.2)⟩
          · cases ho
  · cases ho
end
end PL

/-! PD5: dict comprehensions of one and of two for-parts, at the machine's level. -/
namespace PLD
open PySem PySem.Spec PyProof.Rows
open L2 (upd TI TG TT TE It)

section
variable {prog : Program} {w : World} {A : Around} {R : Result → Shared → Prop} {s : Shared} {kx vx e : Expr} {it : Value} {D : Addr} {env : Env} {i : Nat} {t : Expr} {ifs : List Expr} {p pos : Pos} {gens : List Comprehension} {scope : Scope}
abbrev nb (prog : Program) (w : World) (A : Around) (env : Env) (R : Result → Shared → Prop) : Value → Shared → Prop := notedBy (model prog w) A env fun x s' => R (.error x) s'
abbrev testsOf (ifs : List Expr) (env : Env) : Sem Bool := forIn ifs true fun c r => if r = true then do let ok ← isTrue c env (eval c env); pure (ForInStep.yield ok) else pure (ForInStep.yield r)
/-- a turn of a loop: the next item, stored, tested, then K or the next turn -/
def TurnOf (prog : Program) (w : World) (A : Around) (R : Result → Shared → Prop) (it : Value) (t : Expr) (ifs : List Expr) (env : Env) (K N : Shared → Prop) (s : Shared) : Prop :=
  wpAny (model prog w) A (pyNext it) (fun r s₁ => match r with
    | none => R (.ok .next) s₁
    | some v => wpAny (model prog w) A (letOwnedTupleGo t it v) (fun _ s₂ => wpAny (model prog w) A (assign t env v) (fun _ s₃ => wpAny (model prog w) A (testsOf ifs env) (fun ok s₄ => if ok = true then K s₄ else N s₄) (nb prog w A env R) s₃) (nb prog w A env R) s₂) (nb prog w A env R) s₁) (nb prog w A env R) s
/-- the innermost loop of a dict comprehension -/
theorem loop_emit (he : compTurn (.DictComp kx vx gens scope pos) i it (.ref D) env = (do
      standAt p
      match ← pyNext it with
      | none => pure (.done .next)
      | some v =>
        letOwnedTupleGo t it v
        assign t env v
        let mut ok := true
        for c in ifs do
          if ok then ok ← isTrue c env (eval c env)
        if ok then
          (do
            let kv ← eval kx env
            let vv ← holding [kv] (eval vx env)
            standAt { kx.pos with endLine := vx.pos.endLine, endCol := vx.pos.endCol }
            holding [kv, vv] (dictSet D kv vv))
        again (.compLoop (.DictComp kx vx gens scope pos) i it (.ref D) env))) (I : Nat → Shared → Prop)
    (turn : ∀ n s, I n s → TurnOf prog w A R it t ifs env (fun s₄ => wpAny (model prog w) A (eval kx env) (fun kv s₅ => wpAny (model prog w) A (eval vx env) (fun vv s₆ => wpAny (model prog w) A (dictSet D kv vv) (fun _ s₇ => ∃ m, m < n ∧ I m s₇) (nb prog w A env R) s₆) (nb prog w A env R) s₅) (nb prog w A env R) s₄) (fun s₄ => ∃ m, m < n ∧ I m s₄) s)
    (n : Nat) (h : I n s) : codeAny (model prog w) A (.compLoop (.DictComp kx vx gens scope pos) i it (.ref D) env) R s := by
  refine codeAny_loop rfl I (fun n s hI => ?_) n h
  show wpAny _ A ((compTurn (.DictComp kx vx gens scope pos) i it (.ref D) env).onRaise (fun x => do noteFrame x env; theTreesLotGoes x)) _ _ s
  refine wpAny_noted ?_
  rw [he]
  have tn := turn n s hI
  refine wpAny_bind (wpAny_standAt (wpAny_bind (wpAny_mono tn (fun r s₁ q₁ => ?_) fun _ _ z => z)))
  rcases r with _ | v
  · exact wpAny_pure q₁
  refine wpAny_bind (wpAny_mono q₁ (fun _ s₂ q₂ => wpAny_bind (wpAny_mono q₂ (fun _ s₃ q₃ => wpAny_bind (wpAny_mono q₃ (fun ok s₄ q₄ => ?_) fun _ _ z => z)) fun _ _ z => z)) fun _ _ z => z)
  cases ok
  · exact wpAny_pure ⟨rfl, q₄⟩
  · refine wpAny_bind (wpAny_bind (wpAny_mono q₄ (fun kv s₅ q₅ => wpAny_bind (wpAny_holding (wpAny_mono q₅ (fun vv s₆ q₆ => ?_) fun _ _ z => z))) fun _ _ z => z))
    exact wpAny_bind (wpAny_standAt (wpAny_holding (wpAny_mono q₆ (fun _ s₇ q₇ => wpAny_pure ⟨rfl, q₇⟩) fun _ _ z => z)))
variable {t0 i0 t1 i1 : Expr} {ifs0 ifs1 : List Expr} {acc : Value}
abbrev dc2 (kx vx t0 i0 : Expr) (ifs0 : List Expr) (t1 i1 : Expr) (ifs1 : List Expr) (scope : Scope) (pos : Pos) : Expr := .DictComp kx vx [⟨t0, i0, ifs0, 0⟩, ⟨t1, i1, ifs1, 0⟩] scope pos
theorem dc2_outer : compTurn (dc2 kx vx t0 i0 ifs0 t1 i1 ifs1 scope pos) 0 it acc env = (do
      standAt i0.pos
      match ← pyNext it with
      | none => pure (.done .next)
      | some v =>
        letOwnedTupleGo t0 it v
        assign t0 env v
        let mut ok := true
        for c in ifs0 do
          if ok then ok ← isTrue c env (eval c env)
        if ok then
          let x ← eval i1 env
          standAt i1.pos
          let x ← foldedSetIterable i1 env x
          let _ ← runOwn (.compStart (dc2 kx vx t0 i0 ifs0 t1 i1 ifs1 scope pos) 1 (← holding [x] (pyIter x)) acc env) env
        again (.compLoop (dc2 kx vx t0 i0 ifs0 t1 i1 ifs1 scope pos) 0 it acc env)) := by rfl
theorem loop_outer (hs : ∀ x, foldedSetIterable i1 env x = pure x) (I : Nat → Shared → Prop)
    (turn : ∀ n s, I n s → TurnOf prog w A R it t0 ifs0 env (fun s₄ => wpAny (model prog w) A (eval i1 env) (fun x s₅ => wpAny (model prog w) A (pyIter x) (fun j s₆ => codeAny (model prog w) A (.compStart (dc2 kx vx t0 i0 ifs0 t1 i1 ifs1 scope pos) 1 j acc env) (fun r s' => match r with
      | .ok _ => ∃ m, m < n ∧ I m s'
      | .error _ => False) s₆) (nb prog w A env R) s₅) (nb prog w A env R) s₄) (fun s₄ => ∃ m, m < n ∧ I m s₄) s)
    (n : Nat) (h : I n s) : codeAny (model prog w) A (.compLoop (dc2 kx vx t0 i0 ifs0 t1 i1 ifs1 scope pos) 0 it acc env) R s := by
  refine codeAny_loop rfl I (fun n s hI => ?_) n h
  show wpAny _ A ((compTurn (dc2 kx vx t0 i0 ifs0 t1 i1 ifs1 scope pos) 0 it acc env).onRaise (fun x => do noteFrame x env; theTreesLotGoes x)) _ _ s
  refine wpAny_noted ?_
  rw [dc2_outer]
  have tn := turn n s hI
  refine wpAny_bind (wpAny_standAt (wpAny_bind (wpAny_mono tn (fun r s₁ q₁ => ?_) fun _ _ z => z)))
  rcases r with _ | v
  · exact wpAny_pure q₁
  refine wpAny_bind (wpAny_mono q₁ (fun _ s₂ q₂ => wpAny_bind (wpAny_mono q₂ (fun _ s₃ q₃ => wpAny_bind (wpAny_mono q₃ (fun ok s₄ q₄ => ?_) fun _ _ z => z)) fun _ _ z => z)) fun _ _ z => z)
  cases ok
  · exact wpAny_pure ⟨rfl, q₄⟩
  · refine wpAny_bind (wpAny_mono q₄ (fun x s₅ q₅ => wpAny_bind (wpAny_standAt (wpAny_bind (wpAny_of_eq (hs x) (wpAny_bind (wpAny_holding (wpAny_mono q₅ (fun j s₆ q₆ => ?_) fun _ _ z => z))))))) fun _ _ z => z)
    refine wpAny_bind (wpAny_runOwn ?_)
    rw [Around.mark_none]
    refine codeAny_mono q₆ fun r s' hr => ?_
    cases r with
    | error x => exact hr.elim
    | ok f => first | exact wpAny_pure ⟨rfl, hr⟩ | exact wpAny_bind (wpAny_pure (wpAny_pure ⟨rfl, hr⟩))
theorem start_inner (h0 : codeAny (model prog w) A (.compLoop (dc2 kx vx t0 i0 ifs0 t1 i1 ifs1 scope pos) 1 it acc env) R s)
    (h : wpAny (model prog w) A (pyIter it) (fun j s' => codeAny (model prog w) A (.compLoop (dc2 kx vx t0 i0 ifs0 t1 i1 ifs1 scope pos) 1 j acc env) R s') (nb prog w A env R) s) : codeAny (model prog w) A (.compStart (dc2 kx vx t0 i0 ifs0 t1 i1 ifs1 scope pos) 1 it acc env) R s := by
  refine codeAny_of_tree ?_
  show wpAny _ _ ((compStart (dc2 kx vx t0 i0 ifs0 t1 i1 ifs1 scope pos) 1 it acc env).onRaise (fun x => do noteFrame x env; standAt theWindowsPlace)) _ _ s
  refine wpAny_notedAt ?_
  unfold compStart
  show wpAny _ A (ask >>= fun _ => _) _ _ s
  refine wpAny_bind (wpAny_askSetting (wpAny_ite ?_))
  have h' : ∀ j s', codeAny (model prog w) A (.compLoop (dc2 kx vx t0 i0 ifs0 t1 i1 ifs1 scope pos) 1 j acc env) R s' → True ∧ codeAny (model prog w) A (.compLoop (dc2 kx vx t0 i0 ifs0 t1 i1 ifs1 scope pos) 1 j acc env) R s' := fun _ _ z => ⟨trivial, z⟩
  split
  · first | exact wpAny_bind (wpAny_pure (wpAny_pure (And.intro rfl h0))) | exact wpAny_pure (And.intro rfl h0)
  · first | exact wpAny_bind (wpAny_rule (wpAny_bind (wpAny_standAt (wpAny_bind (wpAny_mono h (fun j s' z => wpAny_pure (And.intro rfl z)) fun _ _ z => z))))) | (refine wpAny_bind (wpAny_rule ?_); show wpAny _ A (standAt i1.pos >>= fun _ => _) _ _ s; exact wpAny_bind (wpAny_standAt (wpAny_bind (wpAny_mono h (fun j s' z => wpAny_pure (And.intro rfl z)) fun _ _ z => z))))
end
end PLD

/-! PD6: dict comprehensions as readings. -/
namespace PLE
open PySem PySem.Spec PyProof.Rows
open L2 hiding compLoop2_out compLoop2_in

abbrev PutR := Addr → V → V → Hp → (Hp → Prop) → Prop
/-- what a dict display or comprehension lays and stores -/
def PutOk (X : Cx) (pr : PutR) : Prop := ∀ (X' : Cx), X'.prog = X.prog → X'.w = X.w → X'.K = X.K → X'.A = X.A → ∀ (pins : List (Addr × Obj)) (s : Shared) (σ : L2.St) (H : Hp) (D : Addr) (y z : V) (u r : Value) (Q : Hp → Prop), Inv X' pins σ H s → RelV y u → RelV z r → pr D y z H Q →
  wpAny (model X.prog X.w) X.A (dictSet D u r) (fun _ s' => ∃ H', Inv X' pins σ H' s' ∧ Q H') (fun _ _ => False) s
/-- one turn's reading -/
def tTurn (J : It) (g : TG) (tt : TT) (vs : List Nat) (stopQ : Hp → Prop) (go : L2.St → Hp → (Hp → Prop) → Prop) (W : Nat → Nat → Hp → Prop) (σ0 σ : L2.St) : Prop := ∀ i m H, W i m H →
  (J.stop i H ∧ stopQ H) ∨ (J.go i H ∧ ∃ Nx : Hp → Prop, (∀ H', Nx H' → ∃ m', m' < m ∧ W (i + 1) m' H') ∧ ∀ x H', J.yld i H x H' → g x (wipe σ vs) H' fun σ2 H2 => wipe σ2 vs = wipe σ vs ∧ tt σ2 H2 fun b H3 => if b = true then go σ2 H3 Nx else Nx H3)
def tDc1 (ob0 : Addr → HO) (pr : PutR) (wi : TI) (g : TG) (tt : TT) (tk tv : TE) (vs : List Nat) : TE := fun σ H Q => wi σ H fun J H1 => ∀ D, H1 D = none → ∃ W : Nat → Nat → Hp → Prop, (∃ m, W 0 m (upd H1 D (ob0 D))) ∧
  tTurn J g tt vs (Q (.ref D)) (fun σ2 H3 Nx => tk σ2 H3 fun y H4 => tv σ2 H4 fun z H5 => pr D y z H5 Nx) W σ σ
def tDc2 (ob0 : Addr → HO) (pr : PutR) (wi : TI) (g : TG) (tt : TT) (wi1 : TI) (g1 : TG) (tt1 : TT) (tk tv : TE) (vs vs1 : List Nat) : TE := fun σ H Q => wi σ H fun J H1 => ∀ D, H1 D = none → ∃ W : Nat → Nat → Hp → Prop, (∃ m, W 0 m (upd H1 D (ob0 D))) ∧
  tTurn J g tt vs (Q (.ref D)) (fun σ2 H3 Nx => wi1 σ2 H3 fun J1 H4 => ∃ W1 : Nat → Nat → Hp → Prop, (∃ m, W1 0 m H4) ∧ tTurn J1 g1 tt1 vs1 Nx (fun σ3 H6 Nx1 => tk σ3 H6 fun y H7 => tv σ3 H7 fun z H8 => pr D y z H8 Nx1) W1 σ σ2) W σ σ

section
variable {X : Cx} {ob0 : Addr → HO} {pr : PutR} {pins : List (Addr × Obj)} {s : Shared} {σ : L2.St} {H : Hp} {Q : VK} {kx vx tg iter tg1 iter1 : Expr} {ifs ifs1 : List Expr} {scope : Scope} {own : List (Str × Nat)} {vs1 : List Nat} {pos pos' : Pos} {wi wi1 : TI} {g g1 : TG} {tt tt1 : TT} {tk tv : TE} {Qf : Value → Shared → Prop}
theorem dcore1 (ob_new : ∀ (h : Heap) {H' : Hp}, sysModules < h.objs.size → ObjOk X.prog X.w H' (h.push { cls := .type "dict", data := .dict #[] }) h.objs.size (ob0 h.objs.size)) (put : PutOk X pr) (hc : X.calm = true) (hN : X.N.Nodup) (I : Inv X pins σ H s) (hi : PI X tg iter wi) (ok : BlkOk X.N X.env.scope scope own)
    (hg : ∀ (s : Shared) (H : Hp) (C : Addr) (cl : List (Str × Addr)) (fp : List Addr), PG (X.blk s H scope (compEnvC scope cl C X.env) fp) tg g) (ht : ∀ (s : Shared) (H : Hp) (C : Addr) (cl : List (Str × Addr)) (fp : List Addr), PTs (X.blk s H scope (compEnvC scope cl C X.env) fp) ifs tt) (hk : ∀ (s : Shared) (H : Hp) (C : Addr) (cl : List (Str × Addr)) (fp : List Addr), PE (X.blk s H scope (compEnvC scope cl C X.env) fp) kx tk) (he : ∀ (s : Shared) (H : Hp) (C : Addr) (cl : List (Str × Addr)) (fp : List Addr), PE (X.blk s H scope (compEnvC scope cl C X.env) fp) vx tv) (hs : ∀ x, foldedSetIterable iter X.env x = pure x) (h : tDc1 ob0 pr wi g tt tk tv (own.map (·.2)) σ H Q)
    (hRR : ∀ D C s' m H', Inv X pins σ H' s' → Q (.ref D) H' → s'.heap.Ns C m → FpOk X pins H' C → compPost (model X.prog X.w) X.A X.xe none Qf (.ref D) C (.ok .next) s') : wpAny (model X.prog X.w) X.A (comprehension (.DictComp kx vx [⟨tg, iter, ifs, 0⟩] scope pos) scope X.env pos' newDict false (eval iter X.env) none) Qf X.xe s := by
  have hfree : ∀ y ∈ scope.names, y.2 = .free → ∃ c, X.env.cells.lookup y.1 = some c := fun y hy e => (ok.free y hy e).elim (fun k => I.ok.has _ (.inl k)) fun k => I.ok.has _ (.inr k)
  refine wpAny_comprehension_free (use := none) rfl hs (closure_ok hfree) ok.kind (fun y hy e => by rw [ok.uniq y hy, e]) (thn (hi.run pins s σ H _ I h) fun xv t1s hx => thn hx fun itv t2s h2 => ?_)
  obtain ⟨it, fp, tn, J, K2, e, V2, T, w2, g2f, q⟩ := h2
  subst e
  refine wpAny_newObj_type (newEnv_comp ?_)
  generalize hDD : t2s.heap.objs.size = DD
  have hDDn : K2 DD = none := V2.hok.fresh (Nat.le_of_eq hDD)
  obtain ⟨WW, ⟨k0, wk0⟩, turn0⟩ := q DD hDDn
  generalize ht3s : ({ t2s with heap := t2s.heap.push { cls := .type "dict", data := .dict #[] } } : Shared) = t3s
  have V3 : Inv X pins σ (upd K2 DD (ob0 DD)) t3s := by
    rw [← ht3s]
    refine V2.laid (t' := t2s.toks) (fun b o e => Heap.get?_push_of_some _ e) (Nat.le_of_eq hDD) ?_
    rw [← hDD]
    exact ob_new t2s.heap V2.big
  have e3h : t3s.heap = t2s.heap.push { cls := .type "dict", data := .dict #[] } := by rw [← ht3s]
  have small : ∀ b ∈ fp, b < t2s.heap.objs.size := fun b hb => by
    obtain ⟨o, e, _⟩ := T.obj _ _ w2 b hb
    exact Heap.lt_size e
  have g3f : ∀ b ∈ fp, FpOk X pins (upd K2 DD (ob0 DD)) b ∧ b < t3s.heap.objs.size := fun b hb => by
    have lt0 := small b hb
    refine ⟨⟨?_, (g2f b hb).2⟩, by rw [e3h, Heap.size_push]; exact Nat.lt_succ_of_lt lt0⟩
    rw [upd_ne (by rw [← hDD]; exact Nat.ne_of_lt lt0)]
    exact (g2f b hb).1
  have w3 : tn 0 t3s.heap := T.keep _ _ _ w2 fun b _ o e => by rw [e3h]; exact Heap.get?_push_of_some _ e
  have V4 := block_start V3 ok hN g3f
  have pg0 := hg t3s (upd K2 DD (ob0 DD)) t3s.heap.objs.size (cellsFrom (t3s.heap.objs.size + 1) scope.names (cloFrom X.env.cells scope.names [])) fp
  have pt0 := ht t3s (upd K2 DD (ob0 DD)) t3s.heap.objs.size (cellsFrom (t3s.heap.objs.size + 1) scope.names (cloFrom X.env.cells scope.names [])) fp
  have pk0 := hk t3s (upd K2 DD (ob0 DD)) t3s.heap.objs.size (cellsFrom (t3s.heap.objs.size + 1) scope.names (cloFrom X.env.cells scope.names [])) fp
  have pe0 := he t3s (upd K2 DD (ob0 DD)) t3s.heap.objs.size (cellsFrom (t3s.heap.objs.size + 1) scope.names (cloFrom X.env.cells scope.names [])) fp
  show codeAny _ _ (.compStart (.DictComp kx vx [⟨tg, iter, ifs, 0⟩] scope pos) 0 (.ref it) (.ref DD) (compEnvC scope (cellsFrom (t3s.heap.objs.size + 1) scope.names (cloFrom X.env.cells scope.names [])) t3s.heap.objs.size X.env)) (compPost (model X.prog X.w) X.A X.xe none Qf (.ref DD) t3s.heap.objs.size) { t3s with heap := pushCells (t3s.heap.push { cls := .type "dict", data := .dict #[] }) scope.names }
  have free0 : ∀ b ∈ fp, (upd K2 DD (ob0 DD)) b = none := fun b hb => (g3f b hb).1.1
  generalize hcenv : compEnvC scope (cellsFrom (t3s.heap.objs.size + 1) scope.names (cloFrom X.env.cells scope.names [])) t3s.heap.objs.size X.env = cenv at V4 pg0 pt0 pk0 pe0 ⊢
  have cLoc : cenv.locals = t3s.heap.objs.size := by subst hcenv; rfl
  generalize hK3 : upd K2 DD (ob0 DD) = K3 at V3 V4 pg0 pt0 pk0 pe0 wk0 free0 g3f
  generalize ht4s : ({ t3s with heap := pushCells (t3s.heap.push { cls := .type "dict", data := .dict #[] }) scope.names } : Shared) = t4s at V4 ⊢
  have w4 : tn 0 t4s.heap := T.keep _ _ _ w3 fun b _ o e => by rw [← ht4s]; exact pushCells_keeps _ _ _ _ (Heap.get?_push_of_some _ e)
  have stat0 : ∀ {σ' : L2.St} {H' : Hp} {s' : Shared}, Inv (X.blk t3s K3 scope cenv fp) [] σ' H' s' → (∀ b ∈ fp, H' b = none) → ∀ b ∈ fp, FpOk (X.blk t3s K3 scope cenv fp) [] H' b := fun {σ' H' s'} I' hn b hb =>
    ⟨hn b hb, (I'.ok.exf b hb).1, I'.ok.exfs b hb, .inl hb, fun x c e => (I'.ok.exf b hb).2 x c e, fun p hp => absurd (show p ∈ ([] : List (Addr × Obj)) ++ [] from hp) (by simp)⟩
  have loopA : codeAny (model X.prog X.w) X.A (.compLoop (.DictComp kx vx [⟨tg, iter, ifs, 0⟩] scope pos) 0 (.ref it) (.ref DD) cenv) (compPost (model X.prog X.w) X.A X.xe none Qf (.ref DD) t3s.heap.objs.size) t4s := by
    refine PLD.loop_emit (p := iter.pos) (t := tg) (ifs := ifs) rfl (fun n s' => ∃ i H', Inv (X.blk t3s K3 scope cenv fp) [] (wipe σ (own.map (·.2))) H' s' ∧ tn i s'.heap ∧ (∀ b ∈ fp, H' b = none) ∧ WW i n H') ?_ k0 ⟨0, K3, V4, w4, free0, wk0⟩
    rintro n t5s ⟨i, K5, V5, w5t, nn5, wk5⟩
    rcases turn0 i n K5 wk5 with ⟨stopA, zz⟩ | ⟨goA, NxA, hNxA, stepA⟩
    · have tdn := T.done (X.blk t3s K3 scope cenv fp) rfl rfl rfl hc i [] t5s _ K5 (fun _ _ => False) V5 (stat0 V5 nn5) w5t stopA
      refine thnF tdn fun r t6s ⟨hr, V6⟩ => ?_
      subst hr
      have V7 : Inv X pins σ K5 t6s := V3.call' (ch := fp) V6.os V6.base V6.hok V6.bare fun b hb => ⟨(g3f b hb).1.2.2.2.1, (g3f b hb).1.2.1, (g3f b hb).1.2.2.2.2.1, (g3f b hb).1.2.2.2.2.2⟩
      have nC : K5 t3s.heap.objs.size = none := by
        have z : K5 cenv.locals = none := V6.free
        rw [cLoc] at z
        exact z
      obtain ⟨m, hn, _⟩ := V6.loc
      have hn : t6s.heap.Ns cenv.locals m := hn
      rw [cLoc] at hn
      exact hRR DD t3s.heap.objs.size t6s m K5 V7 zz hn (V3.fpOk (Nat.le_refl _) nC)
    · have tit := T.item (X.blk t3s K3 scope cenv fp) rfl rfl rfl hc i [] t5s _ K5 (fun _ _ => False) V5 (stat0 V5 nn5) w5t goA
      refine thnF tit fun r t6s ⟨u, hr, e6h⟩ => ?_
      subst hr
      refine thnF e6h fun _ t7s ⟨x, K7, V7, rr7, yy7, w7t, nn7⟩ => ?_
      have V7' := V7.pinned (stat0 V7 nn7) (T.obj _ _ w7t)
      refine thnF (pg0.run _ t7s _ K7 x u _ V7' rr7 (stepA x K7 yy7)) fun _ t8s ⟨σ8, K8, V8, wi8, z8⟩ => ?_
      refine thnF (pt0.run _ t8s σ8 K8 _ V8 z8) fun b t9s ⟨K9, V9, z9⟩ => ?_
      have finA : ∀ {σ9 : L2.St} {s' : Shared} {H' : Hp}, Inv (X.blk t3s K3 scope cenv fp) ([] ++ pinsAt fp t7s.heap) σ9 H' s' → (wipe σ (own.map (·.2))).length = σ9.length → (∀ (j : Nat) v, (wipe σ (own.map (·.2)))[j]? = some (some v) → σ9[j]? = some (some v)) → NxA H' →
          ∃ m, m < n ∧ ∃ i H', Inv (X.blk t3s K3 scope cenv fp) [] (wipe σ (own.map (·.2))) H' s' ∧ tn i s'.heap ∧ (∀ b ∈ fp, H' b = none) ∧ WW i m H' := fun {σ9 s' H'} I' hl hk nx => by
        obtain ⟨m', hm, w'⟩ := hNxA H' nx
        have pin' : ∀ b ∈ fp, ∀ o, t7s.heap.get? b = some o → s'.heap.get? b = some o ∧ H' b = none := fun b hb o e =>
          let z := I'.pin (b, o) (List.mem_append_right _ (List.mem_append_right _ (mem_pinsAt hb e)))
          ⟨z.1, z.2.1⟩
        refine ⟨m', hm, i + 1, H', (I'.unpinned (pins := [])).weak hl hk, T.keep _ _ _ w7t fun b hb o e => (pin' b hb o e).1, fun b hb => ?_, w'⟩
        obtain ⟨o, e, _⟩ := T.obj _ _ w7t b hb
        exact (pin' b hb o e).2
      have len8 : (wipe σ (own.map (·.2))).length = σ8.length := by rw [← wi8, wipe_length]
      have kn8 : ∀ (j : Nat) v, (wipe σ (own.map (·.2)))[j]? = some (some v) → σ8[j]? = some (some v) := fun j v e => by
        rw [← wi8] at e
        exact (wipe_some e).1
      cases b with
      | false =>
        simp only [Bool.false_eq_true, if_false] at z9 ⊢
        exact finA V9 len8 kn8 z9
      | true =>
        simp only [if_true] at z9 ⊢
        refine thnF (pk0.run _ t9s σ8 K9 _ V9 z9) fun zk u7s ⟨yk, K17, V17, rr17, q17⟩ => ?_
        refine thnF (pe0.run _ u7s σ8 K17 _ V17 q17) fun zv u8s ⟨yv, K18, V18, rr18, q18⟩ => ?_
        exact thnF (put (X.blk t3s K3 scope cenv fp) rfl rfl rfl rfl _ u8s σ8 K18 DD yk yv zk zv NxA V18 rr17 rr18 q18) fun _ u9s ⟨K19, V19, nxq⟩ => finA V19 len8 kn8 nxq
  exact codeAny_compStart_dict loopA (T.self X.A 0 _ _ _ w4 loopA)
theorem dcore2 (ob_new : ∀ (h : Heap) {H' : Hp}, sysModules < h.objs.size → ObjOk X.prog X.w H' (h.push { cls := .type "dict", data := .dict #[] }) h.objs.size (ob0 h.objs.size)) (put : PutOk X pr) (hc : X.calm = true) (hN : X.N.Nodup) (I : Inv X pins σ H s) (hi : PI X tg iter wi) (ok : BlkOk X.N X.env.scope scope own) (hv : ∀ i ∈ vs1, i ∈ own.map (·.2))
    (hg : ∀ (s : Shared) (H : Hp) (C : Addr) (cl : List (Str × Addr)) (fp : List Addr), PG (X.blk s H scope (compEnvC scope cl C X.env) fp) tg g) (ht : ∀ (s : Shared) (H : Hp) (C : Addr) (cl : List (Str × Addr)) (fp : List Addr), PTs (X.blk s H scope (compEnvC scope cl C X.env) fp) ifs tt) (hk : ∀ (s : Shared) (H : Hp) (C : Addr) (cl : List (Str × Addr)) (fp : List Addr), PE (X.blk s H scope (compEnvC scope cl C X.env) fp) kx tk) (he : ∀ (s : Shared) (H : Hp) (C : Addr) (cl : List (Str × Addr)) (fp : List Addr), PE (X.blk s H scope (compEnvC scope cl C X.env) fp) vx tv) (hi1 : ∀ (s : Shared) (H : Hp) (C : Addr) (cl : List (Str × Addr)) (fp : List Addr), PI (X.blk s H scope (compEnvC scope cl C X.env) fp) tg1 iter1 wi1) (hg1 : ∀ (s : Shared) (H : Hp) (C : Addr) (cl : List (Str × Addr)) (fp : List Addr), PG (X.blk s H scope (compEnvC scope cl C X.env) fp) tg1 g1) (ht1 : ∀ (s : Shared) (H : Hp) (C : Addr) (cl : List (Str × Addr)) (fp : List Addr), PTs (X.blk s H scope (compEnvC scope cl C X.env) fp) ifs1 tt1) (hs : ∀ x, foldedSetIterable iter X.env x = pure x) (hs1 : ∀ env x, foldedSetIterable iter1 env x = pure x) (h : tDc2 ob0 pr wi g tt wi1 g1 tt1 tk tv (own.map (·.2)) vs1 σ H Q)
    (hRR : ∀ D C s' m H', Inv X pins σ H' s' → Q (.ref D) H' → s'.heap.Ns C m → FpOk X pins H' C → compPost (model X.prog X.w) X.A X.xe none Qf (.ref D) C (.ok .next) s') : wpAny (model X.prog X.w) X.A (comprehension (PLD.dc2 kx vx tg iter ifs tg1 iter1 ifs1 scope pos) scope X.env pos' newDict false (eval iter X.env) none) Qf X.xe s := by
  have hfree : ∀ y ∈ scope.names, y.2 = .free → ∃ c, X.env.cells.lookup y.1 = some c := fun y hy e => (ok.free y hy e).elim (fun k => I.ok.has _ (.inl k)) fun k => I.ok.has _ (.inr k)
  refine wpAny_comprehension_free (use := none) rfl hs (closure_ok hfree) ok.kind (fun y hy e => by rw [ok.uniq y hy, e]) (thn (hi.run pins s σ H _ I h) fun xv t1s hx => thn hx fun itv t2s h2 => ?_)
  obtain ⟨it, fp, tn, J, K2, e, V2, T, w2, g2f, q⟩ := h2
  subst e
  refine wpAny_newObj_type (newEnv_comp ?_)
  generalize hDD : t2s.heap.objs.size = DD
  have hDDn : K2 DD = none := V2.hok.fresh (Nat.le_of_eq hDD)
  obtain ⟨WW, ⟨k0, wk0⟩, turn0⟩ := q DD hDDn
  generalize ht3s : ({ t2s with heap := t2s.heap.push { cls := .type "dict", data := .dict #[] } } : Shared) = t3s
  have V3 : Inv X pins σ (upd K2 DD (ob0 DD)) t3s := by
    rw [← ht3s]
    refine V2.laid (t' := t2s.toks) (fun b o e => Heap.get?_push_of_some _ e) (Nat.le_of_eq hDD) ?_
    rw [← hDD]
    exact ob_new t2s.heap V2.big
  have e3h : t3s.heap = t2s.heap.push { cls := .type "dict", data := .dict #[] } := by rw [← ht3s]
  have small : ∀ b ∈ fp, b < t2s.heap.objs.size := fun b hb => by
    obtain ⟨o, e, _⟩ := T.obj _ _ w2 b hb
    exact Heap.lt_size e
  have g3f : ∀ b ∈ fp, FpOk X pins (upd K2 DD (ob0 DD)) b ∧ b < t3s.heap.objs.size := fun b hb => by
    have lt0 := small b hb
    refine ⟨⟨?_, (g2f b hb).2⟩, by rw [e3h, Heap.size_push]; exact Nat.lt_succ_of_lt lt0⟩
    rw [upd_ne (by rw [← hDD]; exact Nat.ne_of_lt lt0)]
    exact (g2f b hb).1
  have w3 : tn 0 t3s.heap := T.keep _ _ _ w2 fun b _ o e => by rw [e3h]; exact Heap.get?_push_of_some _ e
  have V4 := block_start V3 ok hN g3f
  have pg0 := hg t3s (upd K2 DD (ob0 DD)) t3s.heap.objs.size (cellsFrom (t3s.heap.objs.size + 1) scope.names (cloFrom X.env.cells scope.names [])) fp
  have pt0 := ht t3s (upd K2 DD (ob0 DD)) t3s.heap.objs.size (cellsFrom (t3s.heap.objs.size + 1) scope.names (cloFrom X.env.cells scope.names [])) fp
  have pk0 := hk t3s (upd K2 DD (ob0 DD)) t3s.heap.objs.size (cellsFrom (t3s.heap.objs.size + 1) scope.names (cloFrom X.env.cells scope.names [])) fp
  have pe0 := he t3s (upd K2 DD (ob0 DD)) t3s.heap.objs.size (cellsFrom (t3s.heap.objs.size + 1) scope.names (cloFrom X.env.cells scope.names [])) fp
  have pin1 := hi1 t3s (upd K2 DD (ob0 DD)) t3s.heap.objs.size (cellsFrom (t3s.heap.objs.size + 1) scope.names (cloFrom X.env.cells scope.names [])) fp
  have pgn1 := hg1 t3s (upd K2 DD (ob0 DD)) t3s.heap.objs.size (cellsFrom (t3s.heap.objs.size + 1) scope.names (cloFrom X.env.cells scope.names [])) fp
  have ptn1 := ht1 t3s (upd K2 DD (ob0 DD)) t3s.heap.objs.size (cellsFrom (t3s.heap.objs.size + 1) scope.names (cloFrom X.env.cells scope.names [])) fp
  show codeAny _ _ (.compStart (PLD.dc2 kx vx tg iter ifs tg1 iter1 ifs1 scope pos) 0 (.ref it) (.ref DD) (compEnvC scope (cellsFrom (t3s.heap.objs.size + 1) scope.names (cloFrom X.env.cells scope.names [])) t3s.heap.objs.size X.env)) (compPost (model X.prog X.w) X.A X.xe none Qf (.ref DD) t3s.heap.objs.size) { t3s with heap := pushCells (t3s.heap.push { cls := .type "dict", data := .dict #[] }) scope.names }
  have free0 : ∀ b ∈ fp, (upd K2 DD (ob0 DD)) b = none := fun b hb => (g3f b hb).1.1
  generalize hcenv : compEnvC scope (cellsFrom (t3s.heap.objs.size + 1) scope.names (cloFrom X.env.cells scope.names [])) t3s.heap.objs.size X.env = cenv at V4 pg0 pt0 pk0 pe0 pin1 pgn1 ptn1 ⊢
  have cLoc : cenv.locals = t3s.heap.objs.size := by subst hcenv; rfl
  generalize hK3 : upd K2 DD (ob0 DD) = K3 at V3 V4 pg0 pt0 pk0 pe0 pin1 pgn1 ptn1 wk0 free0 g3f
  generalize ht4s : ({ t3s with heap := pushCells (t3s.heap.push { cls := .type "dict", data := .dict #[] }) scope.names } : Shared) = t4s at V4 ⊢
  have w4 : tn 0 t4s.heap := T.keep _ _ _ w3 fun b _ o e => by rw [← ht4s]; exact pushCells_keeps _ _ _ _ (Heap.get?_push_of_some _ e)
  have stat0 : ∀ {σ' : L2.St} {H' : Hp} {s' : Shared}, Inv (X.blk t3s K3 scope cenv fp) [] σ' H' s' → (∀ b ∈ fp, H' b = none) → ∀ b ∈ fp, FpOk (X.blk t3s K3 scope cenv fp) [] H' b := fun {σ' H' s'} I' hn b hb =>
    ⟨hn b hb, (I'.ok.exf b hb).1, I'.ok.exfs b hb, .inl hb, fun x c e => (I'.ok.exf b hb).2 x c e, fun p hp => absurd (show p ∈ ([] : List (Addr × Obj)) ++ [] from hp) (by simp)⟩
  have loopA : codeAny (model X.prog X.w) X.A (.compLoop (PLD.dc2 kx vx tg iter ifs tg1 iter1 ifs1 scope pos) 0 (.ref it) (.ref DD) cenv) (compPost (model X.prog X.w) X.A X.xe none Qf (.ref DD) t3s.heap.objs.size) t4s := by
    refine PLD.loop_outer (hs1 cenv) (fun n s' => ∃ i H', Inv (X.blk t3s K3 scope cenv fp) [] (wipe σ (own.map (·.2))) H' s' ∧ tn i s'.heap ∧ (∀ b ∈ fp, H' b = none) ∧ WW i n H') ?_ k0 ⟨0, K3, V4, w4, free0, wk0⟩
    rintro n t5s ⟨i, K5, V5, w5t, nn5, wk5⟩
    rcases turn0 i n K5 wk5 with ⟨stopA, zz⟩ | ⟨goA, NxA, hNxA, stepA⟩
    · have tdn := T.done (X.blk t3s K3 scope cenv fp) rfl rfl rfl hc i [] t5s _ K5 (fun _ _ => False) V5 (stat0 V5 nn5) w5t stopA
      refine thnF tdn fun r t6s ⟨hr, V6⟩ => ?_
      subst hr
      have V7 : Inv X pins σ K5 t6s := V3.call' (ch := fp) V6.os V6.base V6.hok V6.bare fun b hb => ⟨(g3f b hb).1.2.2.2.1, (g3f b hb).1.2.1, (g3f b hb).1.2.2.2.2.1, (g3f b hb).1.2.2.2.2.2⟩
      have nC : K5 t3s.heap.objs.size = none := by
        have z : K5 cenv.locals = none := V6.free
        rw [cLoc] at z
        exact z
      obtain ⟨m, hn, _⟩ := V6.loc
      have hn : t6s.heap.Ns cenv.locals m := hn
      rw [cLoc] at hn
      exact hRR DD t3s.heap.objs.size t6s m K5 V7 zz hn (V3.fpOk (Nat.le_refl _) nC)
    · have tit := T.item (X.blk t3s K3 scope cenv fp) rfl rfl rfl hc i [] t5s _ K5 (fun _ _ => False) V5 (stat0 V5 nn5) w5t goA
      refine thnF tit fun r t6s ⟨u, hr, e6h⟩ => ?_
      subst hr
      refine thnF e6h fun _ t7s ⟨x, K7, V7, rr7, yy7, w7t, nn7⟩ => ?_
      have V7' := V7.pinned (stat0 V7 nn7) (T.obj _ _ w7t)
      refine thnF (pg0.run _ t7s _ K7 x u _ V7' rr7 (stepA x K7 yy7)) fun _ t8s ⟨σ8, K8, V8, wi8, z8⟩ => ?_
      refine thnF (pt0.run _ t8s σ8 K8 _ V8 z8) fun b t9s ⟨K9, V9, z9⟩ => ?_
      have finA : ∀ {σ9 : L2.St} {s' : Shared} {H' : Hp}, Inv (X.blk t3s K3 scope cenv fp) ([] ++ pinsAt fp t7s.heap) σ9 H' s' → (wipe σ (own.map (·.2))).length = σ9.length → (∀ (j : Nat) v, (wipe σ (own.map (·.2)))[j]? = some (some v) → σ9[j]? = some (some v)) → NxA H' →
          ∃ m, m < n ∧ ∃ i H', Inv (X.blk t3s K3 scope cenv fp) [] (wipe σ (own.map (·.2))) H' s' ∧ tn i s'.heap ∧ (∀ b ∈ fp, H' b = none) ∧ WW i m H' := fun {σ9 s' H'} I' hl hk nx => by
        obtain ⟨m', hm, w'⟩ := hNxA H' nx
        have pin' : ∀ b ∈ fp, ∀ o, t7s.heap.get? b = some o → s'.heap.get? b = some o ∧ H' b = none := fun b hb o e =>
          let z := I'.pin (b, o) (List.mem_append_right _ (List.mem_append_right _ (mem_pinsAt hb e)))
          ⟨z.1, z.2.1⟩
        refine ⟨m', hm, i + 1, H', (I'.unpinned (pins := [])).weak hl hk, T.keep _ _ _ w7t fun b hb o e => (pin' b hb o e).1, fun b hb => ?_, w'⟩
        obtain ⟨o, e, _⟩ := T.obj _ _ w7t b hb
        exact (pin' b hb o e).2
      have len8 : (wipe σ (own.map (·.2))).length = σ8.length := by rw [← wi8, wipe_length]
      have kn8 : ∀ (j : Nat) v, (wipe σ (own.map (·.2)))[j]? = some (some v) → σ8[j]? = some (some v) := fun j v e => by
        rw [← wi8] at e
        exact (wipe_some e).1
      have kn9 : ∀ (j : Nat) v, (wipe σ (own.map (·.2)))[j]? = some (some v) → (wipe σ8 vs1)[j]? = some (some v) := fun j v e => by
        rw [← wi8] at e
        obtain ⟨eB, e2⟩ := wipe_some e
        rw [wipe_out fun z => e2 (hv j z)]
        exact eB
      cases b with
      | false =>
        simp only [Bool.false_eq_true, if_false] at z9 ⊢
        exact finA V9 len8 kn8 z9
      | true =>
        simp only [if_true] at z9 ⊢
        refine thnF (pin1.run _ t9s σ8 K9 _ V9 z9) fun xv u0s hx => thnF hx fun itv u1s e11h => ?_
        obtain ⟨itB, fpB, tnB, JB, K11, eB, V11, TB, wz11, g11f, WB, ⟨kB, wkB⟩, turnB⟩ := e11h
        subst eB
        -- the inner loopA
        have statB : ∀ {H' : Hp}, (∀ b ∈ fpB, H' b = none) → ∀ b ∈ fpB, FpOk (X.blk t3s K3 scope cenv fp) ([] ++ pinsAt fp t7s.heap) H' b := fun hn b hb => ⟨hn b hb, (g11f b hb).2⟩
        have loopB : codeAny (model X.prog X.w) X.A (.compLoop (PLD.dc2 kx vx tg iter ifs tg1 iter1 ifs1 scope pos) 1 (.ref itB) (.ref DD) cenv)
            (fun r s' => match r with
              | .ok _ => ∃ m, m < n ∧ ∃ i H', Inv (X.blk t3s K3 scope cenv fp) [] (wipe σ (own.map (·.2))) H' s' ∧ tn i s'.heap ∧ (∀ b ∈ fp, H' b = none) ∧ WW i m H'
              | .error _ => False) u1s := by
          refine PLD.loop_emit (p := iter1.pos) (t := tg1) (ifs := ifs1) rfl (fun k s' => ∃ j H', Inv (X.blk t3s K3 scope cenv fp) ([] ++ pinsAt fp t7s.heap) (wipe σ8 vs1) H' s' ∧ tnB j s'.heap ∧ (∀ b ∈ fpB, H' b = none) ∧ WB j k H') ?_ kB ⟨0, K11, V11.weak (wipe_length _ _) (fun j v e => (wipe_some e).1), wz11, fun b hb => (g11f b hb).1, wkB⟩
          rintro k u2s ⟨j, K12, V12, wz12, nn12, wk12⟩
          rcases turnB j k K12 wk12 with ⟨stopB, nxB⟩ | ⟨goB, NxB, hNxB, stepB⟩
          · refine thnF (TB.done (X.blk t3s K3 scope cenv fp) rfl rfl rfl hc j _ u2s (wipe σ8 vs1) K12 (fun _ _ => False) V12 (statB nn12) wz12 stopB) fun r u3s ⟨hr, V13⟩ => ?_
            subst hr
            exact finA V13 (len8.trans (wipe_length σ8 vs1).symm) kn9 nxB
          · refine thnF (TB.item (X.blk t3s K3 scope cenv fp) rfl rfl rfl hc j _ u2s (wipe σ8 vs1) K12 (fun _ _ => False) V12 (statB nn12) wz12 goB) fun r u3s ⟨uB, hr, e13h⟩ => ?_
            subst hr
            refine thnF e13h fun _ u4s ⟨xB, K14, V14, rr14, yy14, wz14, nn14⟩ => ?_
            have V14' := V14.pinned (statB nn14) (TB.obj _ _ wz14)
            refine thnF (pgn1.run _ u4s (wipe σ8 vs1) K14 xB uB _ V14' rr14 (stepB xB K14 yy14)) fun _ u5s ⟨σ15, K15, V15, wi15, z15⟩ => ?_
            refine thnF (ptn1.run _ u5s σ15 K15 _ V15 z15) fun bB u6s ⟨K16, V16, z16⟩ => ?_
            have finB : ∀ {s' : Shared} {H' : Hp}, Inv (X.blk t3s K3 scope cenv fp) (([] ++ pinsAt fp t7s.heap) ++ pinsAt fpB u4s.heap) σ15 H' s' → NxB H' → ∃ m, m < k ∧ ∃ j H', Inv (X.blk t3s K3 scope cenv fp) ([] ++ pinsAt fp t7s.heap) (wipe σ8 vs1) H' s' ∧ tnB j s'.heap ∧ (∀ b ∈ fpB, H' b = none) ∧ WB j m H' := fun {s' H'} I' nx => by
              obtain ⟨m', hm, w'⟩ := hNxB H' nx
              have pin' : ∀ b ∈ fpB, ∀ o, u4s.heap.get? b = some o → s'.heap.get? b = some o ∧ H' b = none := fun b hb o e =>
                let z := I'.pin (b, o) (List.mem_append_right _ (List.mem_append_right _ (mem_pinsAt hb e)))
                ⟨z.1, z.2.1⟩
              refine ⟨m', hm, j + 1, H', I'.unpinned.weak (by rw [← wi15, wipe_length]) (fun j v e => by rw [← wi15] at e; exact (wipe_some e).1), TB.keep _ _ _ wz14 fun b hb o e => (pin' b hb o e).1, fun b hb => ?_, w'⟩
              obtain ⟨o, e, _⟩ := TB.obj _ _ wz14 b hb
              exact (pin' b hb o e).2
            cases bB with
            | false =>
              simp only [Bool.false_eq_true, if_false] at z16 ⊢
              exact finB V16 z16
            | true =>
              simp only [if_true] at z16 ⊢
              refine thnF (pk0.run _ u6s σ15 K16 _ V16 z16) fun zk u7s ⟨yk, K17, V17, rr17, q17⟩ => ?_
              refine thnF (pe0.run _ u7s σ15 K17 _ V17 q17) fun zv u8s ⟨yv, K18, V18, rr18, q18⟩ => ?_
              exact thnF (put (X.blk t3s K3 scope cenv fp) rfl rfl rfl rfl _ u8s σ15 K18 DD yk yv zk zv NxB V18 rr17 rr18 q18) fun _ u9s ⟨K19, V19, nxq⟩ => finB V19 nxq
        exact PLD.start_inner loopB (TB.self X.A 0 _ _ _ wz11 loopB)
  exact codeAny_compStart_dict loopA (T.self X.A 0 _ _ _ w4 loopA)
theorem pe_dc1 (ob_new : ∀ (h : Heap) {H' : Hp}, sysModules < h.objs.size → ObjOk X.prog X.w H' (h.push { cls := .type "dict", data := .dict #[] }) h.objs.size (ob0 h.objs.size)) (put : PutOk X pr) (hc : X.calm = true) (hN : X.N.Nodup) (hi : PI X tg iter wi) (ok : BlkOk X.N X.env.scope scope own) (hg : ∀ (s : Shared) (H : Hp) (C : Addr) (cl : List (Str × Addr)) (fp : List Addr), PG (X.blk s H scope (compEnvC scope cl C X.env) fp) tg g) (ht : ∀ (s : Shared) (H : Hp) (C : Addr) (cl : List (Str × Addr)) (fp : List Addr), PTs (X.blk s H scope (compEnvC scope cl C X.env) fp) ifs tt) (hk : ∀ (s : Shared) (H : Hp) (C : Addr) (cl : List (Str × Addr)) (fp : List Addr), PE (X.blk s H scope (compEnvC scope cl C X.env) fp) kx tk) (he : ∀ (s : Shared) (H : Hp) (C : Addr) (cl : List (Str × Addr)) (fp : List Addr), PE (X.blk s H scope (compEnvC scope cl C X.env) fp) vx tv) (hs : ∀ x, foldedSetIterable iter X.env x = pure x) :
    PE X (.DictComp kx vx [⟨tg, iter, ifs, 0⟩] scope pos) (tDc1 ob0 pr wi g tt tk tv (own.map (·.2))) := by
  refine ⟨fun pins s σ H Q I h => ?_⟩
  rw [arm_eval_DictComp]
  refine dcore1 ob_new put hc hN I hi ok hg ht hk he hs h fun D C s' m H' I' q hn f => ⟨m, hn, fun h'' sb => ?_⟩
  have ⟨f0, f1, f2, f3, f4, f5⟩ := f
  exact ⟨.ref D, H', I'.turned (t' := s'.toks) (fun b o hb e => (sb.2 b hb).trans e) f0 f1 f3 f4 f5, rfl, q⟩
theorem pe_dc2 (ob_new : ∀ (h : Heap) {H' : Hp}, sysModules < h.objs.size → ObjOk X.prog X.w H' (h.push { cls := .type "dict", data := .dict #[] }) h.objs.size (ob0 h.objs.size)) (put : PutOk X pr) (hc : X.calm = true) (hN : X.N.Nodup) (hi : PI X tg iter wi) (ok : BlkOk X.N X.env.scope scope own) (hv : ∀ i ∈ vs1, i ∈ own.map (·.2)) (hg : ∀ (s : Shared) (H : Hp) (C : Addr) (cl : List (Str × Addr)) (fp : List Addr), PG (X.blk s H scope (compEnvC scope cl C X.env) fp) tg g) (ht : ∀ (s : Shared) (H : Hp) (C : Addr) (cl : List (Str × Addr)) (fp : List Addr), PTs (X.blk s H scope (compEnvC scope cl C X.env) fp) ifs tt) (hk : ∀ (s : Shared) (H : Hp) (C : Addr) (cl : List (Str × Addr)) (fp : List Addr), PE (X.blk s H scope (compEnvC scope cl C X.env) fp) kx tk) (he : ∀ (s : Shared) (H : Hp) (C : Addr) (cl : List (Str × Addr)) (fp : List Addr), PE (X.blk s H scope (compEnvC scope cl C X.env) fp) vx tv) (hi1 : ∀ (s : Shared) (H : Hp) (C : Addr) (cl : List (Str × Addr)) (fp : List Addr), PI (X.blk s H scope (compEnvC scope cl C X.env) fp) tg1 iter1 wi1) (hg1 : ∀ (s : Shared) (H : Hp) (C : Addr) (cl : List (Str × Addr)) (fp : List Addr), PG (X.blk s H scope (compEnvC scope cl C X.env) fp) tg1 g1) (ht1 : ∀ (s : Shared) (H : Hp) (C : Addr) (cl : List (Str × Addr)) (fp : List Addr), PTs (X.blk s H scope (compEnvC scope cl C X.env) fp) ifs1 tt1) (hs : ∀ x, foldedSetIterable iter X.env x = pure x) (hs1 : ∀ env x, foldedSetIterable iter1 env x = pure x) :
    PE X (PLD.dc2 kx vx tg iter ifs tg1 iter1 ifs1 scope pos) (tDc2 ob0 pr wi g tt wi1 g1 tt1 tk tv (own.map (·.2)) vs1) := by
  refine ⟨fun pins s σ H Q I h => ?_⟩
  rw [arm_eval_DictComp]
  refine dcore2 ob_new put hc hN I hi ok hv hg ht hk he hi1 hg1 ht1 hs hs1 h fun D C s' m H' I' q hn f => ⟨m, hn, fun h'' sb => ?_⟩
  have ⟨f0, f1, f2, f3, f4, f5⟩ := f
  exact ⟨.ref D, H', I'.turned (t' := s'.toks) (fun b o hb e => (sb.2 b hb).trans e) f0 f1 f3 f4 f5, rfl, q⟩
end
end PLE

/-! PD7: dict comprehensions and displays. -/
namespace PL
open PySem PySem.Spec PySem.Calls L2

/-- pairs are stored one after the other -/
def put1 (kvs : List (PL.D × PL.D)) : PL.D → Option (List (PL.D × PL.D))
  | .tup [k, v] => if fitK kvs k = true ∧ kvs.length < big then some (putD kvs k v) else none
  | _ => none
def putAll : List (PL.D × PL.D) → List PL.D → Option (List (PL.D × PL.D))
  | kvs, [] => some kvs
  | kvs, d :: r => (put1 kvs d).bind fun k => putAll k r
theorem putAll_app : ∀ {a b : List PL.D} {kvs : List (PL.D × PL.D)}, putAll kvs (a ++ b) = (putAll kvs a).bind fun k => putAll k b
  | [], _, _ => rfl
  | d :: a, b, kvs => by
    rw [List.cons_append, putAll, putAll]
    cases put1 kvs d with
    | none => rfl
    | some k => exact putAll_app
def endD (o : Option (List (PL.D × PL.D))) (g : Env) : Out := match o with
  | some kvs => .ok ⟨.dct kvs, 1⟩ g
  | none => .bad
def eDc (s : Src) (t : Tg) (c : Option Ex) (fk fv : Ex) (vs rs : List Nat) : Ex := fun g => match s g with
  | .ok ds g1 => match lcL t c (eTup [fk, fv]) false vs ds (killG vs g1) with
    | .ok out g2 => endD (putAll [] out) (restG g1 rs g2)
    | _ => .bad
  | .exc x g1 => .exc x g1
  | .bad => .bad
def eDc2 (s : Src) (t : Tg) (c : Option Ex) (s1 : Src) (t1 : Tg) (c1 : Option Ex) (fk fv : Ex) (vs vs1 rs : List Nat) : Ex := fun g => match s g with
  | .ok ds g1 => match lcO (big / ds.length) t c s1 t1 c1 (eTup [fk, fv]) false vs vs1 ds (killG vs g1) with
    | .ok out g2 => endD (putAll [] out) (restG g1 rs g2)
    | _ => .bad
  | .exc x g1 => .exc x g1
  | .bad => .bad
def rPutC (c : Cn) : PLE.PutR := fun D y z H Q => ∃ (F : Fz) (es : Ent) (kvs : List (PL.D × PL.D)) (k d : PL.D), H D = some (shO D (.dct es)) ∧ KOk kvs ∧ RpE c H F es.1 kvs ∧ Rp c H F y k ∧ Rp c H F z d ∧ fitK kvs k = true ∧ kvs.length < sizeLine ∧ ∀ es' : Ent, RpE c H F es'.1 (putD kvs k d) → Q (upd H D (shO D (.dct es')))
theorem ob_new {P : Program} {w : World} (h : Heap) {H' : Hp} (hb : sysModules < h.objs.size) : ObjOk P w H' (h.push { cls := .type "dict", data := .dict #[] }) h.objs.size (shO h.objs.size (.dct ([], 0))) :=
  dict_new (Nat.zero_le _) (beq_eq_false_iff_ne.mpr (Ne.symm (Nat.ne_of_lt hb))) ⟨_, Heap.get?_push_size _ rfl, ⟨rfl, rfl, rfl⟩, rfl⟩
section
variable {X : Cx} {P : Par} {σ : St} {H : Hp} {Q : VK} {s s1 : Src} {t t1 : Tg} {c c1 : Option Ex} {fk fv : Ex} {vs vs1 rs : List Nat} {gs : Env} {F0 : Fz} {H0 : Hp} {own0 : Ow} {acc : List (PL.D × PL.D)}
theorem put_ok (hu : X.A.units + 65 < cLine) : PLE.PutOk X (rPutC (cn X P)) := by
  intro X' e1 e2 e3 e4 pins s σ H D y z u r Q I ry rz ⟨F, es, kvs, k, d, hD, ok, re, rk, rd, fit, hl, q⟩
  have ec : cn X P = cn X' P := by unfold cn; rw [e2, e3]
  rw [ec] at re rk rd q
  rw [← e1, ← e2, ← e4]
  exact dd_set (by rw [e4]; exact hu) I hD ok re rk ry fit rd rz hl fun es' s' rp I' => ⟨_, I', q es' rp⟩
def DcGoal (X : Cx) (P : Par) (σ : St) (Q : VK) (gs : Env) (rs : List Nat) (F0 : Fz) (H0 : Hp) (own0 : Ow) (acc : List (PL.D × PL.D)) : IOut → Prop
  | .ok rest g => match putAll acc rest with
    | some kvs => End X P F0 H0 own0 σ Q ⟨.dct kvs, 1⟩ (restG gs rs g)
    | none => False
  | _ => False
def DcIn (X : Cx) (P : Par) (σ : St) (Q : VK) (gs : Env) (rs : List Nat) (F0 : Fz) (H0 : Hp) (own0 : Ow) (rest : Env → IOut) (acc : List (PL.D × PL.D)) : IOut → Prop
  | .ok o1 g4 => match putAll acc o1 with
    | some kvs => DcGoal X P σ Q gs rs F0 H0 own0 kvs (rest g4)
    | none => False
  | _ => False
theorem goal_end {out : List PL.D} {g2 : Env} (q : PostK X P F0 H0 own0 σ (End X P F0 H0 own0 σ Q) (endD (putAll [] out) (restG gs rs g2))) : DcGoal X P σ Q gs rs F0 H0 own0 [] (.ok out g2) := by
  unfold DcGoal
  unfold endD at q
  simp only
  cases h : putAll [] out with
  | none => rw [h] at q; exact q
  | some kvs => rw [h] at q; exact q
theorem goal_step {k v : PL.D} {rest : IOut} (q : DcGoal X P σ Q gs rs F0 H0 own0 acc (match rest with
    | .ok r g5 => .ok (.tup [k, v] :: r) g5
    | _ => .bad)) : (fitK acc k = true ∧ acc.length < big) ∧ DcGoal X P σ Q gs rs F0 H0 own0 (putD acc k v) rest := by
  cases rest with
  | ok r g5 =>
    have q : DcGoal X P σ Q gs rs F0 H0 own0 acc (.ok (.tup [k, v] :: r) g5) := q
    unfold DcGoal at q ⊢
    simp only [putAll, put1] at q
    by_cases h : fitK acc k = true ∧ acc.length < big
    · rw [if_pos h] at q
      exact ⟨h, q⟩
    · rw [if_neg h] at q
      exact False.elim q
  | exc x g => exact q.elim
  | bad => exact q.elim
theorem in_step {restF : Env → IOut} {k v : PL.D} {rest : IOut} (q : DcIn X P σ Q gs rs F0 H0 own0 restF acc (match rest with
    | .ok r g5 => .ok (.tup [k, v] :: r) g5
    | _ => .bad)) : (fitK acc k = true ∧ acc.length < big) ∧ DcIn X P σ Q gs rs F0 H0 own0 restF (putD acc k v) rest := by
  cases rest with
  | ok r g5 =>
    have q : DcIn X P σ Q gs rs F0 H0 own0 restF acc (.ok (.tup [k, v] :: r) g5) := q
    unfold DcIn at q ⊢
    simp only [putAll, put1] at q
    by_cases h : fitK acc k = true ∧ acc.length < big
    · rw [if_pos h] at q
      exact ⟨h, q⟩
    · rw [if_neg h] at q
      exact False.elim q
  | exc x g => exact q.elim
  | bad => exact q.elim
theorem goal_in {rest : Env → IOut} {o1 : List PL.D} {g5 : Env} (q : DcGoal X P σ Q gs rs F0 H0 own0 acc (match rest g5 with
    | .ok o2 g6 => .ok (o1 ++ o2) g6
    | _ => .bad)) : DcIn X P σ Q gs rs F0 H0 own0 rest acc (.ok o1 g5) := by
  unfold DcIn
  cases h : rest g5 with
  | ok o2 g6 =>
    rw [h] at q
    have q : DcGoal X P σ Q gs rs F0 H0 own0 acc (.ok (o1 ++ o2) g6) := q
    unfold DcGoal at q
    simp only at q ⊢
    rw [putAll_app] at q
    cases e : putAll acc o1 with
    | none => rw [e] at q; exact q
    | some kvs => rw [e] at q; rw [h]; exact q
  | exc x g => rw [h] at q; exact q.elim
  | bad => rw [h] at q; exact q.elim
/-- the element: a key, a value -/
theorem dc_open {g3 : Env} {nxt : Env → IOut} (G : IOut → Prop) (id' : G .bad → False) {Z : PL.D → PL.D → IOut → Prop} {fit : PL.D → Prop} (st : ∀ {k v : PL.D} {rest : IOut}, G (match rest with
    | .ok r g5 => .ok (.tup [k, v] :: r) g5
    | _ => .bad) → fit k ∧ Z k v rest)
    (q : G (match eTup [fk, fv] g3 with
      | .ok v g4 => if false = true ∧ v.o ≠ 1 then .bad else match nxt g4 with
        | .ok rest g5 => .ok (v.d :: rest) g5
        | _ => .bad
      | _ => .bad)) : ∃ vk ga vw gb, fk g3 = .ok vk ga ∧ fv ga = .ok vw gb ∧ fit vk.d ∧ Z vk.d vw.d (nxt gb) := by
  unfold eTup goE goE goE at q
  cases e1 : fk g3 with
  | ok vk ga =>
    rw [e1] at q
    simp only [bindO] at q
    cases e2 : fv ga with
    | ok vw gb =>
      rw [e2] at q
      simp only [Bool.false_eq_true, false_and, if_false] at q
      obtain ⟨a, b⟩ := st q
      exact ⟨vk, ga, vw, gb, rfl, e2, a, b⟩
    | exc x g => rw [e2] at q; exact (id' q).elim
    | bad => rw [e2] at q; exact (id' q).elim
  | exc x g => rw [e1] at q; exact (id' q).elim
  | bad => rw [e1] at q; exact (id' q).elim
/-- one temporary alone -/
theorem mid_one {σ : St} {ts : List Tmp} {H1 : Hp} {F0 : Fz} {H0 : Hp} {own0 : Ow} {F1 : Fz} {g1 : Env} {own1 : Ow} {u : Tmp} (m : MidAt X P σ ts H1 F0 H0 own0 F1 g1 own1) (hu : u ∈ ts) (nd : u.L.Nodup) : MidAt X P σ [u] H1 F0 H0 own0 F1 g1 own1 := by
  refine ⟨m.g, m.st, fun t ht => ?_, by simpa using nd, fun t ht => ?_⟩
  · rw [List.mem_singleton.mp ht]; exact m.own u hu
  · rw [List.mem_singleton.mp ht]; exact m.sep u hu
theorem mid_nd {σ : St} {ts : List Tmp} {H1 : Hp} {F0 : Fz} {H0 : Hp} {own0 : Ow} {F1 : Fz} {g1 : Env} {own1 : Ow} {u : Tmp} (m : MidAt X P σ ts H1 F0 H0 own0 F1 g1 own1) (hu : u ∈ ts) : u.L.Nodup := by
  have nd := m.nd
  clear m
  induction ts with
  | nil => cases hu
  | cons t ts ih =>
    rw [List.flatMap_cons, List.nodup_append] at nd
    rcases List.mem_cons.mp hu with rfl | hu
    · exact nd.1
    · exact ih hu nd.2.1
theorem upd_upd {H : Hp} {a : Addr} {o o' : HO} : upd (upd H a o) a o' = upd H a o' := by
  funext b
  by_cases h : b = a
  · subst h
    rw [upd_same, upd_same]
  · rw [upd_ne h, upd_ne h, upd_ne h]
/-- a dict that is being made takes a pair -/
theorem mid_putD {σ : St} {ts : List Tmp} {H1 : Hp} {F1 : Fz} {g1 : Env} {own1 : Ow} {a : Addr} {L : List Addr} {k w : PL.D} {y z : V} (m : MidAt X P σ ts H1 F0 H0 own0 F1 g1 own1) (ha : (⟨.ref a, ⟨.dct acc, 1⟩, L⟩ : Tmp) ∈ ts) (hk : (⟨y, ⟨k, 0⟩, []⟩ : Tmp) ∈ ts) (hw : (⟨z, ⟨w, 0⟩, []⟩ : Tmp) ∈ ts) (fit : fitK acc k = true) :
    ∃ es, H1 a = some (shO a (.dct es)) ∧ KOk acc ∧ RpE (cn X P) H1 F1 es.1 acc ∧ Rp (cn X P) H1 F1 y k ∧ Rp (cn X P) H1 F1 z w ∧ ∀ es' : Ent, RpE (cn X P) H1 F1 es'.1 (putD acc k w) → MidAt X P σ [⟨.ref a, ⟨.dct (putD acc k w), 1⟩, [a]⟩] (upd H1 a (shO a (.dct es'))) F0 H0 own0 F1 g1 own1 ∧ Keep (c := cn X P) F1 F1 H1 (upd H1 a (shO a (.dct es'))) := by
  obtain ⟨a', es, e1, e2, ok, re, eL⟩ := take_dct (m.own _ ha)
  cases e1
  have eL : L = [a] := eL
  subst eL
  obtain ⟨nf, no, _, yg⟩ := m.sep _ ha a List.mem_cons_self
  refine ⟨es, e2, ok, re, (m.own _ hk).zero.1, (m.own _ hw).zero.1, fun es' rp => ?_⟩
  have kp : Keep (c := cn X P) F1 F1 H1 (upd H1 a (shO a (.dct es'))) := wr_keep (sh := .dct es) e2 nf
  have m1 := mid_one m ha (mid_nd m ha)
  have m2 := mid_wr (sh := .dct es') m1 List.mem_cons_self
  refine ⟨⟨m2.g, m2.st, fun t ht => ?_, by simp, fun t ht b hb => ?_⟩, kp⟩
  · rw [List.mem_singleton.mp ht]
    exact .dct upd_same (ok.put fit) (.of (rp.keep kp))
  · rw [List.mem_singleton.mp ht] at hb
    have e : b = a := by simpa using hb
    subst e
    exact ⟨nf, no, ⟨.dct es', upd_same⟩, yg⟩
theorem dc_elem {σ2 : St} {H3 : Hp} {F3 : Fz} {g3 ga gb : Env} {own4 : Ow} {D : Addr} {L : List Addr} {vk vw : Val} {Nx : Hp → Prop} (m4 : MidAt X P σ2 [⟨.ref D, ⟨.dct acc, 1⟩, L⟩] H3 F0 H0 own0 F3 g3 own4) (e1 : fk g3 = .ok vk ga) (e2 : fv ga = .ok vw gb) (fit : fitK acc vk.d = true ∧ acc.length < big)
    (h : ∀ H5 es' F6 own6 L6, MidAt X P σ2 [⟨.ref D, ⟨.dct (putD acc vk.d vw.d), 1⟩, L6⟩] (upd H5 D (shO D (.dct es'))) F0 H0 own0 F6 gb own6 → Keep (c := cn X P) F3 F6 H3 (upd H5 D (shO D (.dct es'))) → Nx (upd H5 D (shO D (.dct es')))) :
    tE X P.calm fk σ2 H3 fun y H4 => tE X P.calm fv σ2 H4 fun z H5 => rPutC (cn X P) D y z H5 Nx := by
  refine mid_eval1 (P := P.calm) (X := X) (mid_calm m4) e1 fun y Ly H4 F4 own5 m5 k5 => ?_
  have m5' := mid_freezeAt m5
  refine mid_eval1 (P := P.calm) (X := X) m5' e2 fun z Lz H5 F5 own6 m6 k6 => ?_
  have m6' := mid_uncalm (mid_freezeAt m6)
  obtain ⟨es, hD, ok, re, rk, rw', q⟩ := mid_putD m6' (a := D) (k := vk.d) (w := vw.d) (y := y) (z := z) (List.mem_cons_of_mem _ (List.mem_cons_of_mem _ List.mem_cons_self)) (List.mem_cons_of_mem _ List.mem_cons_self) List.mem_cons_self fit.1
  refine ⟨_, es, acc, vk.d, vw.d, hD, ok, re, rk, rw', fit.1, by rw [← big_line]; exact fit.2, fun es' rp => ?_⟩
  obtain ⟨m7, k7⟩ := q es' rp
  exact h H5 es' _ own6 [D] m7 ((((k5.trans (.more fun _ h => .inl h)).trans k6).trans (.more fun _ h => .inl h)).trans k7)
theorem core_dc1 (hsl : ∀ i ∈ t.sl, i ∈ vs) (hpv : ∀ p ∈ P.pz, p.1 ∉ vs) (q : tE X P (eDc s t c fk fv vs rs) σ H Q) : PLE.tDc1 (fun D => shO D (.dct ([], 0))) (rPutC (cn X P)) (tI X P s) (tG X P.calm t) (tC? X P.calm c) (tE X P.calm fk) (tE X P.calm fv) vs σ H Q := by
  obtain ⟨F, g, own, I, q⟩ := q
  refine ⟨F, g, own, I, ?_⟩
  unfold eDc at q
  cases es : s g with
  | bad => rw [es] at q; exact q
  | exc x g1 => rw [es] at q; exact q
  | ok ds gs =>
    rw [es] at q
    intro F' H' own' J st I' it hz D hD
    have q0 : DcGoal X P σ Q gs rs F H own [] (lcL t c (eTup [fk, fv]) false vs ds (killG vs gs)) := by
      simp only at q
      cases el : lcL t c (eTup [fk, fv]) false vs ds (killG vs gs) with
      | ok out g2 =>
        rw [el] at q
        exact goal_end q
      | exc x g2 => rw [el] at q; exact q
      | bad => rw [el] at q; exact q
    have gr0 : Grow H' (upd H' D (shO D (.dct ([], 0)))) := .upd hD
    have noD : ∀ i, D ∉ own' i := fun i hi => by
      obtain ⟨_, sh, e⟩ := I'.sep i D hi
      rw [hD] at e; cases e
    have m00 : MidAt X P σ [⟨.ref D, ⟨.dct [], 1⟩, [D]⟩] (upd H' D (shO D (.dct ([], 0)))) F H own F' gs own' := by
      refine ⟨I'.grow gr0, st.trans gr0.step, fun u hu => ?_, by simp, fun u hu a ha => ?_⟩
      · rw [List.mem_singleton.mp hu]
        exact .dct upd_same KOk.nil .nil
      · rw [List.mem_singleton.mp hu] at ha
        have e : a = D := by simpa using ha
        subst e
        refine ⟨fun f => ?_, noD, ⟨.dct ([], 0), upd_same⟩, young st (.inr hD)⟩
        obtain ⟨o, e⟩ := I'.frz _ f
        rw [hD] at e; cases e
    obtain ⟨ownB, m0⟩ := blk_mid (vs := vs) (σ := σ) hpv (fun _ _ => rfl) m00 I'.slen
    have hw : ∀ {σ2 : St}, (∀ j, j ∉ t.sl → σ2[j]? = (wipe σ vs)[j]?) → ∀ j, j ∉ vs → σ2[j]? = σ[j]? := fun {σ2} h j hj => by rw [h j fun z => hj (hsl j z), wipe_get hj]
    refine ⟨fun i m σ1 => m = ds.length - i ∧ i ≤ ds.length ∧ ∃ F1 g1 own1 acc L, MidAt X P (wipe σ vs) [⟨.ref D, ⟨.dct acc, 1⟩, L⟩] σ1 F H own F1 g1 own1 ∧ Keep (c := cn X P) F' F1 H' σ1 ∧ (∀ j ∈ vs, ∀ v : Val, g1[j]? ≠ some (some v)) ∧
      DcGoal X P σ Q gs rs F H own acc (lcL t c (eTup [fk, fv]) false vs (ds.drop i) g1), ⟨_, rfl, Nat.zero_le _, F', _, ownB, [], _, m0, gr0.keep, fun j hj v h => (kill_none h).2 hj, q0⟩, ?_⟩
    rintro i m H1 ⟨rfl, hi, F1, g1, own1, acc, L, m1, kp, hn, q1⟩
    obtain ⟨j1, j2, j3⟩ := it F1 H1 kp m1.g.frz i
    by_cases hlt : i < ds.length
    · refine .inr ⟨j1 hlt, fun H2 => ∃ F1 g1 own1 acc L, MidAt X P (wipe σ vs) [⟨.ref D, ⟨.dct acc, 1⟩, L⟩] H2 F H own F1 g1 own1 ∧ Keep (c := cn X P) F' F1 H' H2 ∧ (∀ j ∈ vs, ∀ v : Val, g1[j]? ≠ some (some v)) ∧
        DcGoal X P σ Q gs rs F H own acc (lcL t c (eTup [fk, fv]) false vs (ds.drop (i + 1)) g1), fun H2 h => ⟨_, by omega, rfl, hlt, h⟩, fun x H2 y => ?_⟩
      obtain ⟨d, ed, gr, rp⟩ := j3 x H2 hlt y
      have hd : ds.drop i = d :: ds.drop (i + 1) := by
        rw [List.drop_eq_getElem_cons hlt]
        rw [List.getElem?_eq_getElem hlt] at ed
        cases ed; rfl
      rw [hd] at q1
      unfold lcL at q1
      cases ea : t.asg d g1 with
      | none => rw [ea] at q1; exact False.elim q1
      | some g2 =>
        rw [ea] at q1
        simp only at q1
        have m2 : MidAt X P (wipe σ vs) [⟨.ref D, ⟨.dct acc, 1⟩, L⟩] H2 F H own F1 g1 own1 := mid_step m1 gr.step (m1.g.grow gr)
        refine ⟨F1, g1, own1, d, g2, m2.g, rp, ea, fun σ2 own3 ag s3 I3 => ?_⟩
        have m3 : MidAt X P σ2 [⟨.ref D, ⟨.dct acc, 1⟩, L⟩] H2 F H own F1 g2 own3 := mid_step m2 s3 I3
        have kp2 : Keep (c := cn X P) F' F1 H' H2 := kp.trans gr.keep
        have hσ := hw ag
        have hs2 : σ2.length = σ.length := by
          have h1 : σ2.length = X.N.length := I3.slen
          have h2 : σ.length = X.N.length := I'.slen
          rw [h1, h2]
        refine ⟨?_, ?_⟩
        · rw [wipe_eq hσ hs2]
        · -- what follows the test
          have fin : ∀ (b : Bool) (g3 : Env) (H3 : Hp) (F3 : Fz) (own4 : Ow), MidAt X P σ2 [⟨.ref D, ⟨.dct acc, 1⟩, L⟩] H3 F H own F3 g3 own4 → Keep (c := cn X P) F' F3 H' H3 →
              DcGoal X P σ Q gs rs F H own acc (match b with
                | false => lcL t c (eTup [fk, fv]) false vs (ds.drop (i + 1)) (killG vs g3)
                | true => match eTup [fk, fv] g3 with
                  | .ok v g4 => if false = true ∧ v.o ≠ 1 then .bad else match lcL t c (eTup [fk, fv]) false vs (ds.drop (i + 1)) (killG vs g4) with
                    | .ok rest g5 => .ok (v.d :: rest) g5
                    | _ => .bad
                  | _ => .bad) →
              if b = true then tE X P.calm fk σ2 H3 fun y H4 => tE X P.calm fv σ2 H4 fun z H5 => rPutC (cn X P) D y z H5 (fun H9 => ∃ F1 g1 own1 acc L, MidAt X P (wipe σ vs) [⟨.ref D, ⟨.dct acc, 1⟩, L⟩] H9 F H own F1 g1 own1 ∧ Keep (c := cn X P) F' F1 H' H9 ∧ (∀ j ∈ vs, ∀ v : Val, g1[j]? ≠ some (some v)) ∧ DcGoal X P σ Q gs rs F H own acc (lcL t c (eTup [fk, fv]) false vs (ds.drop (i + 1)) g1))
              else (fun H9 => ∃ F1 g1 own1 acc L, MidAt X P (wipe σ vs) [⟨.ref D, ⟨.dct acc, 1⟩, L⟩] H9 F H own F1 g1 own1 ∧ Keep (c := cn X P) F' F1 H' H9 ∧ (∀ j ∈ vs, ∀ v : Val, g1[j]? ≠ some (some v)) ∧ DcGoal X P σ Q gs rs F H own acc (lcL t c (eTup [fk, fv]) false vs (ds.drop (i + 1)) g1)) H3 := by
            intro b g3 H3 F3 own4 m4 kp3 q2
            cases b with
            | false =>
              obtain ⟨own5, m5⟩ := blk_mid (vs := vs) hpv hσ m4 I'.slen
              exact itff ⟨F3, _, own5, acc, L, m5, kp3, fun j hj v h => (kill_none h).2 hj, q2⟩
            | true =>
              refine ittt ?_
              simp only at q2
              obtain ⟨vk, ga, vw, gb, e1, e2, fit, q3⟩ := dc_open (fun o => DcGoal X P σ Q gs rs F H own acc o) (fun z => z) goal_step q2
              refine dc_elem m4 e1 e2 fit fun H5 es' F6 own6 L6 m6 k6 => ?_
              obtain ⟨own8, m8⟩ := blk_mid (vs := vs) hpv hσ m6 I'.slen
              exact ⟨F6, _, own8, _, L6, m8, kp3.trans k6, fun j hj v h => (kill_none h).2 hj, q3⟩
          cases c with
          | none => exact fin true g2 H2 F1 own3 m3 kp2 q1
          | some f =>
            unfold testO at q1
            simp only at q1
            cases ef : f g2 with
            | bad => rw [ef] at q1; exact False.elim q1
            | exc x g3 => rw [ef] at q1; exact False.elim q1
            | ok v g3 =>
              rw [ef] at q1
              simp only at q1
              cases hv : v.d with
              | bl b =>
                rw [hv] at q1
                refine mid_bool1 (P := P.calm) (X := X) (b := b) (mid_calm m3) ef hv fun H3 F3 own4 m4 k4 => ⟨b, rfl, ?_⟩
                have m4 := mid_uncalm m4
                refine fin b g3 H3 F3 own4 m4 (kp2.trans k4) ?_
                cases b <;> exact q1
              | _ => rw [hv] at q1; exact False.elim q1
    · have e1 : i = ds.length := by omega
      subst e1
      rw [List.drop_length] at q1
      refine .inl ⟨j2 rfl, ?_⟩
      have q2 : End X P F H own σ Q ⟨.dct acc, 1⟩ (restG gs rs g1) := q1
      have I2 : GX X P F1 H1 σ g1 own1 := m1.g.resig (fun j v h => by
        rw [wipe_get fun z => hn j z v h]) I'.slen fun p hp => by rw [wipe_get (hpv p hp)]
      obtain ⟨own2, I3, hle⟩ := I2.rest (g0 := gs) (rs := rs) fun j v h hz => by
        obtain ⟨x, hx, o⟩ := I'.slot j v h
        rw [hz] at o
        exact ⟨x, hx, o.zero.1.keep kp⟩
      have m2 : MidAt X P σ [⟨.ref D, ⟨.dct acc, 1⟩, L⟩] H1 F H own F1 (restG gs rs g1) own2 := mid_step m1 (.less hle) I3
      have h0 := List.mem_singleton.mpr (rfl : (⟨.ref D, ⟨.dct acc, 1⟩, L⟩ : Tmp) = _)
      exact q2 F1 H1 own2 _ L m2.st m2.g (m2.own _ h0) ⟨by have := m2.nd; simpa using this, m2.sep _ h0⟩
theorem core_dc2 (hsl : ∀ i ∈ t.sl, i ∈ vs) (hsl1 : ∀ i ∈ t1.sl, i ∈ vs1) (hv1 : ∀ i ∈ vs1, i ∈ vs) (hpv : ∀ p ∈ P.pz, p.1 ∉ vs) (q : tE X P (eDc2 s t c s1 t1 c1 fk fv vs vs1 rs) σ H Q) :
    PLE.tDc2 (fun D => shO D (.dct ([], 0))) (rPutC (cn X P)) (tI X P s) (tG X P.calm t) (tC? X P.calm c) (tI X P.calm s1) (tG X P.calm t1) (tC? X P.calm c1) (tE X P.calm fk) (tE X P.calm fv) vs vs1 σ H Q := by
  have hpv1 : ∀ p ∈ P.pz, p.1 ∉ vs1 := fun p hp h => hpv p hp (hv1 _ h)
  obtain ⟨F, g, own, I, q⟩ := q
  refine ⟨F, g, own, I, ?_⟩
  unfold eDc2 at q
  cases es : s g with
  | bad => rw [es] at q; exact q
  | exc x g1 => rw [es] at q; exact q
  | ok ds gs =>
    rw [es] at q
    intro F' H' own' J st I' it hz D hD
    simp only at q
    generalize hM : big / ds.length = M at q
    have q0 : DcGoal X P σ Q gs rs F H own [] (lcO M t c s1 t1 c1 (eTup [fk, fv]) false vs vs1 ds (killG vs gs)) := by
      cases el : lcO M t c s1 t1 c1 (eTup [fk, fv]) false vs vs1 ds (killG vs gs) with
      | ok out g2 =>
        rw [el] at q
        exact goal_end q
      | exc x g2 => rw [el] at q; exact q
      | bad => rw [el] at q; exact q
    have gr0 : Grow H' (upd H' D (shO D (.dct ([], 0)))) := .upd hD
    have noD : ∀ i, D ∉ own' i := fun i hi => by
      obtain ⟨_, sh, e⟩ := I'.sep i D hi
      rw [hD] at e; cases e
    have m00 : MidAt X P σ [⟨.ref D, ⟨.dct [], 1⟩, [D]⟩] (upd H' D (shO D (.dct ([], 0)))) F H own F' gs own' := by
      refine ⟨I'.grow gr0, st.trans gr0.step, fun u hu => ?_, by simp, fun u hu a ha => ?_⟩
      · rw [List.mem_singleton.mp hu]
        exact .dct upd_same KOk.nil .nil
      · rw [List.mem_singleton.mp hu] at ha
        have e : a = D := by simpa using ha
        subst e
        refine ⟨fun f => ?_, noD, ⟨.dct ([], 0), upd_same⟩, young st (.inr hD)⟩
        obtain ⟨o, e⟩ := I'.frz _ f
        rw [hD] at e; cases e
    obtain ⟨ownB, m0⟩ := blk_mid (vs := vs) (σ := σ) hpv (fun _ _ => rfl) m00 I'.slen
    have hw : ∀ {σ2 : St}, (∀ j, j ∉ t.sl → σ2[j]? = (wipe σ vs)[j]?) → ∀ j, j ∉ vs → σ2[j]? = σ[j]? := fun {σ2} h j hj => by rw [h j fun z => hj (hsl j z), wipe_get hj]
    let NX : Nat → Hp → Prop := fun i H2 => ∃ F1 g1 own1 acc L, MidAt X P (wipe σ vs) [⟨.ref D, ⟨.dct acc, 1⟩, L⟩] H2 F H own F1 g1 own1 ∧ Keep (c := cn X P) F' F1 H' H2 ∧ (∀ j ∈ vs, ∀ v : Val, g1[j]? ≠ some (some v)) ∧
        DcGoal X P σ Q gs rs F H own acc (lcO M t c s1 t1 c1 (eTup [fk, fv]) false vs vs1 (ds.drop i) g1)
    refine ⟨fun i m σ1 => m = ds.length - i ∧ i ≤ ds.length ∧ NX i σ1, ⟨_, rfl, Nat.zero_le _, F', _, ownB, [], _, m0, gr0.keep, fun j hj v h => (kill_none h).2 hj, q0⟩, ?_⟩
    rintro i m H1 ⟨rfl, hi, F1, g1, own1, acc, L, m1, kp, hn, q1⟩
    obtain ⟨j1, j2, j3⟩ := it F1 H1 kp m1.g.frz i
    by_cases hlt : i < ds.length
    · refine .inr ⟨j1 hlt, NX (i + 1), fun H2 h => ⟨_, by omega, rfl, hlt, h⟩, fun x H2 y => ?_⟩
      obtain ⟨d, ed, gr, rp⟩ := j3 x H2 hlt y
      have hd : ds.drop i = d :: ds.drop (i + 1) := by
        rw [List.drop_eq_getElem_cons hlt]
        rw [List.getElem?_eq_getElem hlt] at ed
        cases ed; rfl
      rw [hd] at q1
      unfold lcO at q1
      cases ea : t.asg d g1 with
      | none => rw [ea] at q1; exact False.elim q1
      | some g2 =>
        rw [ea] at q1
        simp only at q1
        have m2 : MidAt X P (wipe σ vs) [⟨.ref D, ⟨.dct acc, 1⟩, L⟩] H2 F H own F1 g1 own1 := mid_step m1 gr.step (m1.g.grow gr)
        refine ⟨F1, g1, own1, d, g2, m2.g, rp, ea, fun σ2 own3 ag s3 I3 => ?_⟩
        have m3 : MidAt X P σ2 [⟨.ref D, ⟨.dct acc, 1⟩, L⟩] H2 F H own F1 g2 own3 := mid_step m2 s3 I3
        have kp2 : Keep (c := cn X P) F' F1 H' H2 := kp.trans gr.keep
        have hσ := hw ag
        have hs2 : σ2.length = σ.length := by
          have h1 : σ2.length = X.N.length := I3.slen
          have h2 : σ.length = X.N.length := I'.slen
          rw [h1, h2]
        refine ⟨?_, ?_⟩
        · rw [wipe_eq hσ hs2]
        · have fin : ∀ (b : Bool) (g3 : Env) (H3 : Hp) (F3 : Fz) (own4 : Ow), MidAt X P σ2 [⟨.ref D, ⟨.dct acc, 1⟩, L⟩] H3 F H own F3 g3 own4 → Keep (c := cn X P) F' F3 H' H3 →
              DcGoal X P σ Q gs rs F H own acc (match b with
                | false => lcO M t c s1 t1 c1 (eTup [fk, fv]) false vs vs1 (ds.drop (i + 1)) (killG vs g3)
                | true => match s1 g3 with
                  | .ok ds1 g4 => if ds1.length ≤ M then (match lcL t1 c1 (eTup [fk, fv]) false vs1 ds1 (killG vs1 g4) with
                    | .ok o1 g5 => match lcO M t c s1 t1 c1 (eTup [fk, fv]) false vs vs1 (ds.drop (i + 1)) (killG vs g5) with
                      | .ok o2 g6 => .ok (o1 ++ o2) g6
                      | _ => .bad
                    | _ => .bad) else .bad
                  | _ => .bad) →
              if b = true then tI X P.calm s1 σ2 H3 fun J1 H4 => ∃ W1 : Nat → Nat → Hp → Prop, (∃ m, W1 0 m H4) ∧ ∀ j k H, W1 j k H →
                (J1.stop j H ∧ NX (i + 1) H) ∨ (J1.go j H ∧ ∃ Nx1 : Hp → Prop, (∀ H', Nx1 H' → ∃ k', k' < k ∧ W1 (j + 1) k' H') ∧ ∀ x H', J1.yld j H x H' → tG X P.calm t1 x (wipe σ2 vs1) H' fun σ3 H5 => wipe σ3 vs1 = wipe σ2 vs1 ∧ tC? X P.calm c1 σ3 H5 fun b H6 =>
                  if b = true then tE X P.calm fk σ3 H6 fun y H7 => tE X P.calm fv σ3 H7 fun z H8 => rPutC (cn X P) D y z H8 Nx1 else Nx1 H6)
              else NX (i + 1) H3 := by
            intro b g3 H3 F3 own4 m4 kp3 q2
            cases b with
            | false =>
              obtain ⟨own5, m5⟩ := blk_mid (vs := vs) hpv hσ m4 I'.slen
              exact itff ⟨F3, _, own5, acc, L, m5, kp3, fun j hj v h => (kill_none h).2 hj, q2⟩
            | true =>
              refine ittt ⟨F3, g3, own4, (mid_calm m4).g, ?_⟩
              simp only at q2
              cases ev : s1 g3 with
              | bad => rw [ev] at q2; exact False.elim q2
              | exc x g4 => rw [ev] at q2; exact False.elim q2
              | ok ds1 g4 =>
                rw [ev] at q2
                simp only at q2
                split at q2
                · rename_i hlen1
                  intro F5 H5 own5 J1 st5 I5 it1 hz1
                  have m5 : MidAt X P σ2 [⟨.ref D, ⟨.dct acc, 1⟩, L⟩] H5 F H own F5 g4 own5 := mid_step m4 st5 I5
                  have kp5 : Keep (c := cn X P) F' F5 H' H5 := kp3.trans (st5.keeps m4.g)
                  obtain ⟨own6, m6⟩ := blk_mid (vs := vs1) (σ := σ2) hpv1 (fun _ _ => rfl) m5 I5.slen
                  let rest : Env → IOut := fun g5 => lcO M t c s1 t1 c1 (eTup [fk, fv]) false vs vs1 (ds.drop (i + 1)) (killG vs g5)
                  have q3 : DcIn X P σ Q gs rs F H own rest acc (lcL t1 c1 (eTup [fk, fv]) false vs1 ds1 (killG vs1 g4)) := by
                    cases el : lcL t1 c1 (eTup [fk, fv]) false vs1 ds1 (killG vs1 g4) with
                    | bad => rw [el] at q2; exact False.elim q2
                    | exc x g5 => rw [el] at q2; exact False.elim q2
                    | ok o1 g5 =>
                      rw [el] at q2
                      simp only at q2
                      exact goal_in (rest := rest) q2
                  let N1 : Nat → Hp → Prop := fun j H2 => ∃ F1 g1 own1 acc L, MidAt X P (wipe σ2 vs1) [⟨.ref D, ⟨.dct acc, 1⟩, L⟩] H2 F H own F1 g1 own1 ∧ Keep (c := cn X P) F' F1 H' H2 ∧ Keep (c := cn X P) F5 F1 H5 H2 ∧
                    DcIn X P σ Q gs rs F H own rest acc (lcL t1 c1 (eTup [fk, fv]) false vs1 (ds1.drop j) g1)
                  refine ⟨fun j k H2 => k = ds1.length - j ∧ j ≤ ds1.length ∧ N1 j H2, ⟨_, rfl, Nat.zero_le _, F5, _, own6, acc, L, m6, kp5, .refl, q3⟩, ?_⟩
                  rintro j k H6 ⟨rfl, hj, F6, g6, own7, acc6, L6, m7, kp6, kq6, q6⟩
                  obtain ⟨i1, i2, i3⟩ := it1 F6 H6 kq6 m7.g.frz j
                  by_cases hjl : j < ds1.length
                  · refine .inr ⟨i1 hjl, N1 (j + 1), fun H7 h => ⟨_, by omega, rfl, hjl, h⟩, fun x1 H7 y1 => ?_⟩
                    obtain ⟨d1, ed1, gr1, rp1⟩ := i3 x1 H7 hjl y1
                    have hd1 : ds1.drop j = d1 :: ds1.drop (j + 1) := by
                      rw [List.drop_eq_getElem_cons hjl]
                      rw [List.getElem?_eq_getElem hjl] at ed1
                      cases ed1; rfl
                    rw [hd1] at q6
                    unfold lcL at q6
                    cases ea1 : t1.asg d1 g6 with
                    | none => rw [ea1] at q6; exact False.elim q6
                    | some g7 =>
                      rw [ea1] at q6
                      simp only at q6
                      have m8 : MidAt X P (wipe σ2 vs1) [⟨.ref D, ⟨.dct acc6, 1⟩, L6⟩] H7 F H own F6 g6 own7 := mid_step m7 gr1.step (m7.g.grow gr1)
                      refine ⟨F6, g6, own7, d1, g7, m8.g, rp1, ea1, fun σ3 own8 ag1 s8 I8 => ?_⟩
                      have m9 : MidAt X P σ3 [⟨.ref D, ⟨.dct acc6, 1⟩, L6⟩] H7 F H own F6 g7 own8 := mid_step m8 s8 I8
                      have kp7 : Keep (c := cn X P) F' F6 H' H7 := kp6.trans gr1.keep
                      have kq7 : Keep (c := cn X P) F5 F6 H5 H7 := kq6.trans gr1.keep
                      have hσ3 : ∀ j, j ∉ vs1 → σ3[j]? = σ2[j]? := fun j hj => by rw [ag1 j fun z => hj (hsl1 j z), wipe_get hj]
                      have hs3 : σ3.length = σ2.length := by
                        have h1 : σ3.length = X.N.length := I8.slen
                        have h2 : σ2.length = X.N.length := I3.slen
                        rw [h1, h2]
                      refine ⟨wipe_eq hσ3 hs3, ?_⟩
                      have fin1 : ∀ (b : Bool) (g8 : Env) (H8 : Hp) (F8 : Fz) (own9 : Ow), MidAt X P σ3 [⟨.ref D, ⟨.dct acc6, 1⟩, L6⟩] H8 F H own F8 g8 own9 → Keep (c := cn X P) F' F8 H' H8 → Keep (c := cn X P) F5 F8 H5 H8 →
                          DcIn X P σ Q gs rs F H own rest acc6 (match b with
                            | false => lcL t1 c1 (eTup [fk, fv]) false vs1 (ds1.drop (j + 1)) (killG vs1 g8)
                            | true => match eTup [fk, fv] g8 with
                              | .ok v g4 => if false = true ∧ v.o ≠ 1 then .bad else match lcL t1 c1 (eTup [fk, fv]) false vs1 (ds1.drop (j + 1)) (killG vs1 g4) with
                                | .ok rest g5 => .ok (v.d :: rest) g5
                                | _ => .bad
                              | _ => .bad) →
                          if b = true then tE X P.calm fk σ3 H8 fun y H9 => tE X P.calm fv σ3 H9 fun z HA => rPutC (cn X P) D y z HA (N1 (j + 1)) else N1 (j + 1) H8 := by
                        intro b g8 H8 F8 own9 mA kpA kqA qA
                        cases b with
                        | false =>
                          obtain ⟨ownC, mC⟩ := blk_mid (vs := vs1) hpv1 hσ3 mA I3.slen
                          exact itff ⟨F8, _, ownC, acc6, L6, mC, kpA, kqA, qA⟩
                        | true =>
                          refine ittt ?_
                          simp only at qA
                          obtain ⟨vk, ga, vw, gb, e1, e2, fit, q3⟩ := dc_open (fun o => DcIn X P σ Q gs rs F H own rest acc6 o) (fun z => z) in_step qA
                          refine dc_elem mA e1 e2 fit fun H9 es' FD ownD LD mD kD => ?_
                          obtain ⟨ownF, mF⟩ := blk_mid (vs := vs1) hpv1 hσ3 mD I3.slen
                          exact ⟨FD, _, ownF, _, LD, mF, kpA.trans kD, kqA.trans kD, q3⟩
                      cases c1 with
                      | none => exact fin1 true g7 H7 F6 own8 m9 kp7 kq7 q6
                      | some f =>
                        unfold testO at q6
                        simp only at q6
                        cases ef : f g7 with
                        | bad => rw [ef] at q6; exact False.elim q6
                        | exc x g3 => rw [ef] at q6; exact False.elim q6
                        | ok v g8 =>
                          rw [ef] at q6
                          simp only at q6
                          cases hv : v.d with
                          | bl b =>
                            rw [hv] at q6
                            refine mid_bool1 (P := P.calm) (X := X) (b := b) (mid_calm m9) ef hv fun H8 F8 own9 mA kA => ⟨b, rfl, ?_⟩
                            have mA := mid_uncalm mA
                            refine fin1 b g8 H8 F8 own9 mA (kp7.trans kA) (kq7.trans kA) ?_
                            cases b <;> exact q6
                          | _ => rw [hv] at q6; exact False.elim q6
                  · have e1 : j = ds1.length := by omega
                    subst e1
                    rw [List.drop_length] at q6
                    have q6 : DcGoal X P σ Q gs rs F H own acc6 (lcO M t c s1 t1 c1 (eTup [fk, fv]) false vs vs1 (ds.drop (i + 1)) (killG vs g6)) := q6
                    refine .inl ⟨i2 rfl, ?_⟩
                    have hσ2 : ∀ j, j ∉ vs → (wipe σ2 vs1)[j]? = σ[j]? := fun j hj => by rw [wipe_get fun z => hj (hv1 _ z), hσ j hj]
                    obtain ⟨ownC, mC⟩ := blk_mid (vs := vs) hpv hσ2 m7 I'.slen
                    exact ⟨F6, _, ownC, acc6, L6, mC, kp6, fun j hj v h => (kill_none h).2 hj, q6⟩
                · exact False.elim q2
          cases c with
          | none => exact fin true g2 H2 F1 own3 m3 kp2 q1
          | some f =>
            unfold testO at q1
            simp only at q1
            cases ef : f g2 with
            | bad => rw [ef] at q1; exact False.elim q1
            | exc x g3 => rw [ef] at q1; exact False.elim q1
            | ok v g3 =>
              rw [ef] at q1
              simp only at q1
              cases hv : v.d with
              | bl b =>
                rw [hv] at q1
                refine mid_bool1 (P := P.calm) (X := X) (b := b) (mid_calm m3) ef hv fun H3 F3 own4 m4 k4 => ⟨b, rfl, ?_⟩
                have m4 := mid_uncalm m4
                refine fin b g3 H3 F3 own4 m4 (kp2.trans k4) ?_
                cases b <;> exact q1
              | _ => rw [hv] at q1; exact False.elim q1
    · have e1 : i = ds.length := by omega
      subst e1
      rw [List.drop_length] at q1
      refine .inl ⟨j2 rfl, ?_⟩
      have q2 : End X P F H own σ Q ⟨.dct acc, 1⟩ (restG gs rs g1) := q1
      have I2 : GX X P F1 H1 σ g1 own1 := m1.g.resig (fun j v h => by
        rw [wipe_get fun z => hn j z v h]) I'.slen fun p hp => by rw [wipe_get (hpv p hp)]
      obtain ⟨own2, I3, hle⟩ := I2.rest (g0 := gs) (rs := rs) fun j v h hz => by
        obtain ⟨x, hx, o⟩ := I'.slot j v h
        rw [hz] at o
        exact ⟨x, hx, o.zero.1.keep kp⟩
      have m2 : MidAt X P σ [⟨.ref D, ⟨.dct acc, 1⟩, L⟩] H1 F H own F1 (restG gs rs g1) own2 := mid_step m1 (.less hle) I3
      have h0 := List.mem_singleton.mpr (rfl : (⟨.ref D, ⟨.dct acc, 1⟩, L⟩ : Tmp) = _)
      exact q2 F1 H1 own2 _ L m2.st m2.g (m2.own _ h0) ⟨by have := m2.nd; simpa using this, m2.sep _ h0⟩
variable {kx vx tg iter tg1 iter1 : Expr} {ifs ifs1 : List Expr} {scope : Scope} {pos : Pos} {nm : List (Str × Nat)}
/-- {k: v for tg in iter if ..} -/
theorem s_dc (hu : X.A.units + 65 < cLine) (hc : X.calm = true) (hN : X.N.Nodup) (hi : SI X P tg iter s) (ok : BlkOk X.N X.env.scope scope nm) (hv : nm.map (·.2) = vs) (hsl : ∀ i ∈ t.sl, i ∈ vs) (hpv : ∀ p ∈ P.pz, p.1 ∉ vs)
    (hg : ∀ (s : Shared) (H : Hp) (C : Addr) (cl : List (Str × Addr)) (fp : List Addr), SG (X.blk s H scope (compEnvC scope cl C X.env) fp) P.calm tg t)
    (ht : ∀ (s : Shared) (H : Hp) (C : Addr) (cl : List (Str × Addr)) (fp : List Addr), SC (X.blk s H scope (compEnvC scope cl C X.env) fp) P.calm ifs c)
    (hk : ∀ (s : Shared) (H : Hp) (C : Addr) (cl : List (Str × Addr)) (fp : List Addr), SE (X.blk s H scope (compEnvC scope cl C X.env) fp) P.calm kx fk)
    (he : ∀ (s : Shared) (H : Hp) (C : Addr) (cl : List (Str × Addr)) (fp : List Addr), SE (X.blk s H scope (compEnvC scope cl C X.env) fp) P.calm vx fv)
    (hs : ∀ x, foldedSetIterable iter X.env x = pure x := by intro _; rfl) : SE X P (.DictComp kx vx [⟨tg, iter, ifs, 0⟩] scope pos) (eDc s t c fk fv vs rs) := by
  subst hv
  exact ⟨pe_imp (PLE.pe_dc1 (ob0 := fun D => shO D (.dct ([], 0))) (pr := rPutC (cn X P)) (fun h {H'} hb => ob_new h hb) (put_ok (P := P) hu) hc hN hi.pi ok (g := tG X P.calm t) (tt := tC? X P.calm c) (tk := tE X P.calm fk) (tv := tE X P.calm fv) (fun s H C cl fp => (hg s H C cl fp).pg) (fun s H C cl fp => (ht s H C cl fp).pts) (fun s H C cl fp => (hk s H C cl fp).pe) (fun s H C cl fp => (he s H C cl fp).pe) hs) fun σ H Q q => core_dc1 hsl hpv q⟩
theorem s_dc2 (hu : X.A.units + 65 < cLine) (hc : X.calm = true) (hN : X.N.Nodup) (hi : SI X P tg iter s) (ok : BlkOk X.N X.env.scope scope nm) (hv : nm.map (·.2) = vs) (hsl : ∀ i ∈ t.sl, i ∈ vs) (hsl1 : ∀ i ∈ t1.sl, i ∈ vs1) (hv1 : ∀ i ∈ vs1, i ∈ vs) (hpv : ∀ p ∈ P.pz, p.1 ∉ vs)
    (hg : ∀ (s : Shared) (H : Hp) (C : Addr) (cl : List (Str × Addr)) (fp : List Addr), SG (X.blk s H scope (compEnvC scope cl C X.env) fp) P.calm tg t)
    (ht : ∀ (s : Shared) (H : Hp) (C : Addr) (cl : List (Str × Addr)) (fp : List Addr), SC (X.blk s H scope (compEnvC scope cl C X.env) fp) P.calm ifs c)
    (hi1 : ∀ (s : Shared) (H : Hp) (C : Addr) (cl : List (Str × Addr)) (fp : List Addr), SI (X.blk s H scope (compEnvC scope cl C X.env) fp) P.calm tg1 iter1 s1)
    (hg1 : ∀ (s : Shared) (H : Hp) (C : Addr) (cl : List (Str × Addr)) (fp : List Addr), SG (X.blk s H scope (compEnvC scope cl C X.env) fp) P.calm tg1 t1)
    (ht1 : ∀ (s : Shared) (H : Hp) (C : Addr) (cl : List (Str × Addr)) (fp : List Addr), SC (X.blk s H scope (compEnvC scope cl C X.env) fp) P.calm ifs1 c1)
    (hk : ∀ (s : Shared) (H : Hp) (C : Addr) (cl : List (Str × Addr)) (fp : List Addr), SE (X.blk s H scope (compEnvC scope cl C X.env) fp) P.calm kx fk)
    (he : ∀ (s : Shared) (H : Hp) (C : Addr) (cl : List (Str × Addr)) (fp : List Addr), SE (X.blk s H scope (compEnvC scope cl C X.env) fp) P.calm vx fv)
    (hs : ∀ x, foldedSetIterable iter X.env x = pure x := by intro _; rfl) (hs1 : ∀ env x, foldedSetIterable iter1 env x = pure x := by intro _ _; rfl) :
    SE X P (.DictComp kx vx [⟨tg, iter, ifs, 0⟩, ⟨tg1, iter1, ifs1, 0⟩] scope pos) (eDc2 s t c s1 t1 c1 fk fv vs vs1 rs) := by
  subst hv
  exact ⟨pe_imp (PLE.pe_dc2 (vs1 := vs1) (ob0 := fun D => shO D (.dct ([], 0))) (pr := rPutC (cn X P)) (fun h {H'} hb => ob_new h hb) (put_ok (P := P) hu) hc hN hi.pi ok hv1 (g := tG X P.calm t) (tt := tC? X P.calm c) (tk := tE X P.calm fk) (tv := tE X P.calm fv) (wi1 := tI X P.calm s1) (g1 := tG X P.calm t1) (tt1 := tC? X P.calm c1)
    (fun s H C cl fp => (hg s H C cl fp).pg) (fun s H C cl fp => (ht s H C cl fp).pts) (fun s H C cl fp => (hk s H C cl fp).pe) (fun s H C cl fp => (he s H C cl fp).pe) (fun s H C cl fp => (hi1 s H C cl fp).pi) (fun s H C cl fp => (hg1 s H C cl fp).pg) (fun s H C cl fp => (ht1 s H C cl fp).pts) hs hs1) fun σ H Q q => core_dc2 hsl hsl1 hv1 hpv q⟩
end
end PL

/-! PD8: dict displays. -/
namespace PL
open PySem PySem.Spec PySem.Calls L2

section
variable {X : Cx} {P : Par} {σ : St} {H : Hp} {Q : VK}
/-! ### {} -/
def eD0 : Ex := fun g => .ok ⟨.dct [], 1⟩ g
theorem new_end {g1 : Env} {F1 : Fz} {own1 : Ow} {p : Addr} (I : GX X P F1 H σ g1 own1) (q : End X P F1 H own1 σ Q ⟨.dct [], 1⟩ g1) (hp : H p = none) : Q (.ref p) (upd H p (shO p (.dct ([], 0)))) := by
  have gr : Grow H (upd H p (shO p (.dct ([], 0)))) := .upd hp
  refine q F1 _ own1 (.ref p) [p] gr.step (I.grow gr) (.dct upd_same KOk.nil .nil) ⟨by simp, fun a ha => ?_⟩
  have e : a = p := by simpa using ha
  subst e
  refine ⟨fun f => ?_, fun i hi => ?_, ⟨.dct ([], 0), upd_same⟩, .inr hp⟩
  · obtain ⟨o, e⟩ := I.frz _ f
    rw [hp] at e; cases e
  · obtain ⟨_, sh, e⟩ := I.sep i _ hi
    rw [hp] at e; cases e
theorem s_dict0 {pos : Pos} : SE X P (.Dict [] [] pos) eD0 := by
  refine ⟨⟨fun pins s σ H Q I h => ?_⟩⟩
  obtain ⟨F, g, own, IG, q⟩ := h
  refine wpAny_Dict_empty ⟨.ref s.heap.objs.size, _, I.laid (a := s.heap.objs.size) (o := shO s.heap.objs.size (.dct ([], 0))) (t' := s.toks) (fun _ _ q => Heap.get?_push_of_some _ q) (Nat.le_refl _) (ob_new s.heap I.big), rfl, ?_⟩
  exact new_end IG q (I.hok.fresh (Nat.le_refl _))

/-! ### {k: v, ..} -/
def goP : List (Ex × Ex) → (List PL.D → Env → Out) → Env → Out
  | [], k, g => k [] g
  | (fk, fv) :: r, k, g => bindO (fk g) fun v g1 => bindO (fv g1) fun w g2 => goP r (fun ds g3 => k (.tup [v.d, w.d] :: ds) g3) g2
def eDisp (fs : List (Ex × Ex)) : Ex := goP fs fun ds g => endD (putAll [] ds) g
def tPs (X : Cx) (P : Par) : List (Ex × Ex) → List (TE × TE)
  | [] => []
  | (fk, fv) :: r => (tE X P fk, tE X P fv) :: tPs X P r
structure SP' (X : Cx) (P : Par) (pos : Pos) (ks : List (Option Expr)) (vs : List Expr) (fs : List (Ex × Ex)) : Prop where
  pp : PPs X pos ks vs (tPs X P fs)
theorem sp_nil {pos : Pos} : SP' X P pos [] [] [] := ⟨pps_nil⟩
theorem sp_cons {pos : Pos} {k v : Expr} {ks : List (Option Expr)} {vs : List Expr} {fk fv : Ex} {fs : List (Ex × Ex)} (h1 : SE X P k fk) (h2 : SE X P v fv) (h : SP' X P pos ks vs fs) : SP' X P pos (some k :: ks) (v :: vs) ((fk, fv) :: fs) := ⟨pps_cons h1.pe h2.pe h.pp⟩
theorem tPs_mono : ∀ {fs : List (Ex × Ex)} {H : Hp} {Q Q' : List (V × V) → Hp → Prop}, tPairs (tPs X P fs) σ H Q → (∀ x H, Q x H → Q' x H) → tPairs (tPs X P fs) σ H Q'
  | [], _, _, _, h, i => i _ _ h
  | (_, _) :: r, _, _, _, h, i => tE_mono h fun _ _ h1 => tE_mono h1 fun _ _ h2 => tPs_mono (fs := r) h2 fun _ _ h3 => i _ _ h3
/-- pairs that stand as frozen temporaries -/
inductive PCs (ts : List Tmp) : List (V × V) → List PL.D → Prop
  | nil : PCs ts [] []
  | cons {x y : V} {xs : List (V × V)} {d e : PL.D} {ds : List PL.D} : (⟨x, ⟨d, 0⟩, []⟩ : Tmp) ∈ ts → (⟨y, ⟨e, 0⟩, []⟩ : Tmp) ∈ ts → PCs ts xs ds → PCs ts ((x, y) :: xs) (.tup [d, e] :: ds)
theorem mid_prs {k : Fz → Hp → Ow → Val → Env → Prop} : ∀ {fs : List (Ex × Ex)} {ts : List Tmp} {H : Hp} {r : List PL.D → Env → Out}, Mid X P σ ts (fun F0 H0 own0 g => PostK X P F0 H0 own0 σ (k F0 H0 own0) (goP fs r g)) H →
    tPairs (tPs X P fs) σ H fun xs H1 => ∃ ts' ds, PCs ts' xs ds ∧ (∀ t ∈ ts, t ∈ ts') ∧ ds.length = fs.length ∧ Mid X P σ ts' (fun F0 H0 own0 g => PostK X P F0 H0 own0 σ (k F0 H0 own0) (r ds g)) H1
  | [], ts, H, r, h => ⟨ts, [], .nil, fun _ h => h, rfl, h⟩
  | (fk, fv) :: fs, ts, H, r, h => by
    have h1 := mid_imp h (B' := fun F0 H0 own0 g => PostK X P F0 H0 own0 σ (fun v g1 => PostK X P F0 H0 own0 σ (k F0 H0 own0) (bindO (fv g1) fun w g2 => goP fs (fun ds g3 => r (.tup [v.d, w.d] :: ds) g3) g2)) (fk g)) fun F0 H0 own0 g q => by
      have q : PostK X P F0 H0 own0 σ (k F0 H0 own0) (bindO (fk g) fun v g1 => bindO (fv g1) fun w g2 => goP fs (fun ds g3 => r (.tup [v.d, w.d] :: ds) g3) g2) := q
      rw [postK_bind] at q
      exact q
    refine tE_mono (mid_eval h1) fun x H1 ⟨v, L, m1⟩ => ?_
    have m1 := mid_freeze m1
    have h2 := mid_imp m1 (B' := fun F0 H0 own0 g => PostK X P F0 H0 own0 σ (fun w g2 => PostK X P F0 H0 own0 σ (k F0 H0 own0) (goP fs (fun ds g3 => r (.tup [v.d, w.d] :: ds) g3) g2)) (fv g)) fun F0 H0 own0 g q => by
      rw [postK_bind] at q
      exact q
    refine tE_mono (mid_eval h2) fun y H2 ⟨w, L2, m2⟩ => ?_
    have m2 := mid_freeze m2
    refine tPs_mono (mid_prs m2) fun xs H3 ⟨ts', ds, pc, up, hl, m3⟩ => ?_
    exact ⟨ts', _, .cons (up _ (List.mem_cons_of_mem _ List.mem_cons_self)) (up _ List.mem_cons_self) pc, fun t ht => up t (List.mem_cons_of_mem _ (List.mem_cons_of_mem _ ht)), by simp [hl], m3⟩
theorem PCs.rp {ts : List Tmp} {F0 : Fz} {H0 : Hp} {own0 : Ow} {F1 : Fz} {g1 : Env} {own1 : Ow} (m : MidAt X P σ ts H F0 H0 own0 F1 g1 own1) : ∀ {xs : List (V × V)} {ds : List PL.D}, PCs ts xs ds → Paired (fun (q : V × V) d => ∃ k w, d = .tup [k, w] ∧ Rp (cn X P) H F1 q.1 k ∧ Rp (cn X P) H F1 q.2 w) xs ds
  | _, _, .nil => .nil
  | _, _, .cons h1 h2 t => .cons ⟨_, _, rfl, (m.own _ h1).zero.1, (m.own _ h2).zero.1⟩ (PCs.rp m t)
/-- the pairs are stored -/
theorem store_all (hu : X.A.units + 65 < cLine) {pins : List (Addr × Obj)} {F : Fz} {p : Addr} {kvs' : List (PL.D × PL.D)} (nf : ¬ F p) {E : Value → Shared → Prop} {Q : PUnit → Shared → Prop} : ∀ {qs : List (V × V)} {ds : List PL.D} {ws : List (Value × Value)} {kvs : List (PL.D × PL.D)} {es : Ent} {H : Hp} {s : Shared}, Inv X pins σ H s → H p = some (shO p (.dct es)) → KOk kvs → RpE (cn X P) H F es.1 kvs →
    Paired (fun (q : V × V) d => ∃ k w, d = .tup [k, w] ∧ Rp (cn X P) H F q.1 k ∧ Rp (cn X P) H F q.2 w) qs ds → VV qs ws → putAll kvs ds = some kvs' → (∀ (es' : Ent) H' s', (H' = upd H p (shO p (.dct es'))) → RpE (cn X P) H' F es'.1 kvs' → KOk kvs' → Inv X pins σ H' s' → Q PUnit.unit s') →
    wpAny (model X.prog X.w) X.A (forIn ws PUnit.unit fun (x : Value × Value) (_ : PUnit) => (do dictSet p x.1 x.2; pure (ForInStep.yield PUnit.unit) : Sem (ForInStep PUnit))) Q E s
  | _, _, _, kvs, es, H, s, I, hp, ok, re, .nil, .nil, e, h => by
    rw [List.forIn_nil]
    cases e
    have hh : upd H p (shO p (.dct es)) = H := by
      funext b
      by_cases z : b = p
      · rw [z, upd_same, hp]
      · rw [upd_ne z]
    exact wpAny_pure (h es H s hh.symm re ok I)
  | _, _, _, kvs, es, H, s, I, hp, ok, re, .cons ⟨k, w, ed, rk, rw'⟩ ps, .cons ⟨r1, r2⟩ vs, e, h => by
    subst ed
    simp only [putAll, put1] at e
    split at e
    · rename_i fit
      rw [List.forIn_cons]
      refine wpAny_bind (wpAny_bind (dd_set hu I hp ok re rk r1 fit.1 rw' r2 (by rw [← big_line]; exact fit.2) fun es' s' rp I' => wpAny_pure ?_))
      have kp : Keep (c := cn X P) F F H (upd H p (shO p (.dct es'))) := wr_keep (sh := .dct es) hp nf
      refine store_all hu nf I' upd_same (ok.put fit.1) (rp.keep kp) (Paired.mapP ps fun q d ⟨k, w, e, a, b⟩ => ⟨k, w, e, a.keep kp, b.keep kp⟩) vs e fun es2 H2 s2 e2 re2 ok2 I2 => h es2 H2 s2 ?_ re2 ok2 I2
      rw [e2, upd_upd]
    · cases e
theorem s_disp (hu : X.A.units + 65 < cLine) {pos : Pos} {keys : List (Option Expr)} {values : List Expr} {fs : List (Ex × Ex)} (h : SP' X P pos keys values fs) (hall : keys.all (·.isSome) = true) (hl : keys.length = values.length) (h0 : pairTrees keys values X.env pos ≠ []) (h15 : (pairTrees keys values X.env pos).length ≤ 15) : SE X P (.Dict keys values pos) (eDisp fs) := by
  refine ⟨⟨fun pins s σ H Q I q => ?_⟩⟩
  obtain ⟨F, g, own, IG, q⟩ := q
  generalize hp : s.heap.objs.size = p
  have hpn : H p = none := I.hok.fresh (Nat.le_of_eq hp)
  have I1 : Inv X pins σ (upd H p (shO p (.dct ([], 0)))) { s with heap := s.heap.push { cls := .type "dict", data := .dict #[] } } := by
    refine I.laid (t' := s.toks) (fun _ _ q => Heap.get?_push_of_some _ q) (Nat.le_of_eq hp) ?_
    rw [← hp]
    exact ob_new s.heap I.big
  have gr : Grow H (upd H p (shO p (.dct ([], 0)))) := .upd hpn
  have m0 : MidAt X P σ [⟨.ref p, ⟨.dct [], 1⟩, [p]⟩] (upd H p (shO p (.dct ([], 0)))) F H own F g own := by
    refine ⟨IG.grow gr, gr.step, fun u hu => ?_, by simp, fun u hu a ha => ?_⟩
    · rw [List.mem_singleton.mp hu]
      exact .dct upd_same KOk.nil .nil
    · rw [List.mem_singleton.mp hu] at ha
      have e : a = p := by simpa using ha
      subst e
      refine ⟨fun f => ?_, fun i hi => ?_, ⟨.dct ([], 0), upd_same⟩, .inr hpn⟩
      · obtain ⟨o, e⟩ := IG.frz _ f
        rw [hpn] at e; cases e
      · obtain ⟨_, sh, e⟩ := IG.sep i _ hi
        rw [hpn] at e; cases e
  have mm : Mid X P σ [⟨.ref p, ⟨.dct [], 1⟩, [p]⟩] (fun F0 H0 own0 g => PostK X P F0 H0 own0 σ (End X P F0 H0 own0 σ Q) (goP fs (fun ds g => endD (putAll [] ds) g) g)) (upd H p (shO p (.dct ([], 0)))) := ⟨F, H, own, F, g, own, m0, q⟩
  rw [arm_eval_Dict, zip_pairTrees keys values X.env pos hall hl, dictDisplay_pairs _ h0 (by omega)]
  refine wpAny_bind (wpAny_standAt (wpAny_bind ?_))
  unfold subDict
  refine wpAny_bind (wpAny_alloc ?_)
  refine wpAny_bind (wpAny_holding ?_)
  rw [if_pos h15, hp]
  refine wpAny_bind (thn (h.pp.run pins _ σ _ _ I1 (mid_prs mm)) fun ws s2 ⟨xs, H2, I2, rel, ts', ds, pc, up, _, F0, H0, own0, F1, g1, own1, m, q⟩ => ?_)
  refine wpAny_holding ?_
  have q : PostK X P F0 H0 own0 σ (End X P F0 H0 own0 σ Q) (endD (putAll [] ds) g1) := q
  cases e : putAll [] ds with
  | none => rw [e] at q; exact q.elim
  | some kvs' =>
    rw [e] at q
    have q : End X P F0 H0 own0 σ Q ⟨.dct kvs', 1⟩ g1 := q
    have hm := up _ (List.mem_singleton.mpr (rfl : (⟨.ref p, ⟨.dct [], 1⟩, [p]⟩ : Tmp) = _))
    obtain ⟨a', es, e1, e2, ok, re, _⟩ := take_dct (m.own _ hm)
    cases e1
    obtain ⟨nf, no, _, yg⟩ := m.sep _ hm p List.mem_cons_self
    refine wpAny_bind (store_all (P := P) hu nf I2 e2 ok re (pc.rp m) rel e fun es' H3 s3 e3 re3 ok3 I3 => wpAny_pure (wpAny_pure (wpAny_pure ⟨.ref p, H3, I3, rfl, ?_⟩)))
    subst e3
    have m1 := mid_one m hm (mid_nd m hm)
    have m2 := mid_wr (sh := .dct es') m1 List.mem_cons_self
    refine q F1 _ own1 (.ref p) [p] m2.st m2.g (.dct upd_same ok3 (.of re3)) ⟨by simp, fun b hb => ?_⟩
    have e : b = p := by simpa using hb
    subst e
    exact ⟨nf, no, ⟨.dct es', upd_same⟩, yg⟩
end
end PL

/-! PD9: what loops walk: enumerate, zip, dicts. -/
namespace L2
open PySem PySem.Spec PyProof.Rows
/-- the tuple at a, each item in a new pair with its number -/
def PlEt (K : PySem.W.Frag) (a : Addr) : It :=
  ⟨fun i H => ∃ (vs : List V) (z : V), SqT K H a vs ∧ vs[i]? = some z, fun i H v H' => ∃ T z, v = .ref T ∧ H T = none ∧ H' = upd H T (.tup [.int (i : Nat), z]) ∧ ∀ vs, SqT K H a vs → vs[i]? = some z, fun i H => ∃ vs : List V, SqT K H a vs ∧ vs.length = i⟩
theorem pl_turnEt {P : Program} {w : World} {K : PySem.W.Frag} {elts : List Expr} {kk : Nat} {tpos : Pos} (a e it : Addr) :
    Turn P w K (.Tuple elts kk tpos) (PlEt K a) [e, it] e (fun i h => (∃ old, IsEnum h e it ((i : Nat) : Int) old) ∧ h.IsTupleIter it a i ∧ e ≠ it ∧ e ≠ a ∧ it ≠ a) where
  mem := by simp
  obj := fun i h st b hb => by
    obtain ⟨⟨old, he⟩, ⟨o, ho, hc, hd⟩, _⟩ := st
    have hor : b = e ∨ b = it := by simpa using hb
    rcases hor with z | z
    · rw [z]; exact ⟨_, he, fun v y => nomatch y⟩
    · rw [z]; exact ⟨o, ho, fun v y => by rw [hd] at y; cases y⟩
  keep := fun i h h' st k => let ⟨⟨old, he⟩, hi, r⟩ := st; ⟨⟨old, k e (by simp) _ he⟩, hi.at fun o y => k it (by simp) o y, r⟩
  item := by
    intro X hP hw hK hc i pins s σ H E I hf st hg
    subst hP hw hK
    obtain ⟨⟨old, he⟩, hit, hne, hea, hia⟩ := st
    obtain ⟨vs, z, hq, hz⟩ := hg
    obtain ⟨us, rv, p, hl⟩ := I.tuple hq
    obtain ⟨u, hu, ru⟩ := rv.get hz
    have lt1 : e < s.heap.objs.size := Heap.lt_size he
    have lt2 : it < s.heap.objs.size := by obtain ⟨_, y, _⟩ := hit; exact Heap.lt_size y
    have hlen : i < us.toArray.size := by
      rw [List.size_toArray]
      exact (List.getElem?_eq_some_iff.mp hu).1
    have p' : s.heap.IsTuple a us.toArray := p
    refine wpAny_pyNext_enum_itemD (Draws.tuple (A := X.A.in1) (I.ok.hd hc) it a (Ne.symm hia) us.toArray) he ⟨hit, p'⟩ hlen hne (by simp [hne, hea]) fun x h' tk hx ho hst hT hsz hk => ?_
    have hxu : x = u := by
      have hx : us.toArray[i]? = some x := hx
      simp only [List.getElem?_toArray] at hx
      rw [hu] at hx
      exact (Option.some.inj hx).symm
    subst hxu
    refine ⟨_, rfl, wpAny_letOwnedTupleGo_enum (s := { s with heap := h', toks := tk + 1 }) ho fun h'' he' sb => ?_⟩
    have made : h''.get? s.heap.objs.size = some { cls := .type "tuple", data := .seq #[.int i tk, x] } := (sb.2 _ (Nat.ne_of_gt lt1)).trans hT
    have new : ObjOk X.prog X.w (upd H s.heap.objs.size (.tup [.int (i : Nat), z])) h'' s.heap.objs.size (.tup [.int (i : Nat), z]) :=
      ⟨by show 2 ≤ sizeLine; decide, [.int i tk, x], .cons ⟨_, rfl⟩ (.cons ru .nil), ⟨_, made, rfl, _, rfl⟩⟩
    have I1 : Inv X pins σ (upd H s.heap.objs.size (.tup [.int (i : Nat), z])) { s with heap := h'', toks := tk + 1 } :=
      I.turnedNew (ch := [e, it]) (fun b ob hb y => (sb.2 b (fun y => hb (by simp [y]))).trans (hk b ob (fun y => hb (by simp [y])) (fun y => hb (by simp [y])) y)) hf (Nat.le_refl _) new
    refine ⟨.ref s.heap.objs.size, _, I1, rfl, ⟨_, z, rfl, I.hok.fresh (Nat.le_refl _), rfl, fun ws hy => by rw [I.tuple_inj hy hq]; exact hz⟩, ⟨⟨x, ?_⟩, hst.1.at fun o y => (sb.2 it (Ne.symm hne)).trans y, hne, hea, hia⟩, fun b hb => ?_⟩
    · rw [show ((i + 1 : Nat) : Int) = (i : Int) + 1 by omega]
      exact he'
    · have hb' : b < s.heap.objs.size := by
        have hor : b = e ∨ b = it := by simpa using hb
        rcases hor with y | y
        · rw [y]; exact lt1
        · rw [y]; exact lt2
      rw [upd_ne (Nat.ne_of_lt hb')]
      exact (hf b hb).1
  done := by
    intro X hP hw hK hc i pins s σ H E I hf st hg
    subst hP hw hK
    obtain ⟨⟨old, he⟩, hit, hne, hea, hia⟩ := st
    obtain ⟨vs, hq, hle⟩ := hg
    obtain ⟨us, rv, p, hl⟩ := I.tuple hq
    obtain ⟨f0, f1, f2, f3, f4, f5⟩ := hf it (by simp)
    have hlen := rv.length
    have p' : s.heap.IsTuple a us.toArray := p
    have at_end : s.heap.IsTupleIter it a us.toArray.size := by
      rw [List.size_toArray, ← hlen, hle]
      exact hit
    exact wpAny_pyNext_enum_endD (Draws.tuple (A := X.A.in1) (I.ok.hd hc) it a (Ne.symm hia) us.toArray) he ⟨at_end, p'⟩ fun h' eb => ⟨rfl, I.turned (t' := s.toks) (fun b o hb y => eb b o hb y) f0 f1 f3 f4 f5⟩
  self := fun A i s Q E st h => let ⟨⟨_, he⟩, _⟩ := st; wpAny_pyIter_enum he h
end L2
namespace PLF
open PySem PySem.Spec PyProof.Rows
theorem enum_newB {v : Value} {o : Obj} {H : Heap → Prop} (B : Begins v o H) :
    Meets (Builtin.«enumerate.__new__» ⟨[.type "enumerate", v], []⟩) (fun _ R s => H s.heap ∧ R (.ok (.ret (.ref (s.heap.push o).objs.size))) { s with heap := (s.heap.push o).push { cls := .type "enumerate", data := .fields #[.none, .bool false, .ref s.heap.objs.size, rawInt 0, .none, .none] } }) :=
  .of_wp fun prog w A R s hh => by
    have ⟨hp, g, d, tk, os⟩ := s
    have ⟨h1, h⟩ := hh
    have hsub := sub_enumerate
    have q1 : ∀ {A' : Around} {E : Value → Shared → Prop} {Q : Value → Shared → Prop}, Q (.ref hp.objs.size) ⟨hp.push o, g, d, tk, os⟩ → wpAny (model prog w) A' (pyIter v) Q E ⟨hp, g, d, tk, os⟩ := fun q => B.iter prog w _ _ ⟨hp, g, d, tk, os⟩ _ h1 q
    wp_walk using q1
    refine wpAny_stack_any fun st => wpAny_pure ?_
    split
    · rename_i c _ _ _ _ _
      cases (c == Value.type "enumerate") <;> (wp_walk using q1; exact ⟨_, rfl, h⟩)
    · wp_walk using q1
      exact ⟨_, rfl, h⟩
theorem enum_call {prog : Program} {w : World} {A : Around} {E : Value → Shared → Prop} {s : Shared} {v : Value} {o : Obj} {H : Heap → Prop} {Q : Value → Shared → Prop} (B : Begins v o H) (h1 : H s.heap)
    (h : ∀ h', IsEnum h' (s.heap.objs.size + 1) s.heap.objs.size 0 .none → h'.get? s.heap.objs.size = some o → (∀ b o, s.heap.get? b = some o → h'.get? b = some o) → Q (.ref (s.heap.objs.size + 1)) { s with heap := h' }) : wpAny (model prog w) A (call (.type "enumerate") [v]) Q E s := by
  refine callType_new F.called_enumerate (by decide) (F.typeCall_enumerate_1 _) (F.newCall_enumerate_1 _) (fun obj => F.args_object_init_2 obj _) F.entry_enumerate_new (enum_newB B) ⟨h1, ?_⟩
  have hz : (s.heap.push o).objs.size = s.heap.objs.size + 1 := Heap.size_push ..
  show _ ∧ _
  rw [hz]
  have he : IsEnum ((s.heap.push o).push { cls := .type "enumerate", data := .fields #[.none, .bool false, .ref s.heap.objs.size, rawInt 0, .none, .none] }) (s.heap.objs.size + 1) s.heap.objs.size 0 .none := by
    have := Heap.get?_push_size (s.heap.push o) (o := { cls := .type "enumerate", data := .fields #[.none, .bool false, .ref s.heap.objs.size, rawInt 0, .none, .none] }) rfl
    rw [hz] at this
    exact this
  exact ⟨⟨_, he, rfl⟩, h _ he (Heap.get?_push_of_some _ (Heap.get?_push_size _ B.free)) fun b o x => Heap.get?_push_of_some _ (Heap.get?_push_of_some _ x)⟩
section
open L2 (PI TA It Inv PlEt Ite SqL SqT Gl upd PA ld_blt pl_turnEt turn_enum thn)
variable {X : L2.Cx}
theorem pi_enumLT {e : Expr} {ta : TA} {p pos tpos : Pos} {elts : List Expr} {kk : Nat} (hg : Gl X "enumerate") (hm : X.mg "enumerate" = none) (ha : PA X [e] ta) (hs : starEach [e] X.env = [(false, eval e X.env)]) :
    PI X (.Tuple elts kk tpos) (.Call (.Name "enumerate" p) [e] [] pos) (fun σ H R => ta σ H fun vs H1 => ∃ a, vs = [.ref a] ∧ ((∃ xs, SqL X.K H1 a xs ∧ (xs.length ≤ sizeLine → R (Ite X.K a) H1)) ∨ ∃ xs, SqT X.K H1 a xs ∧ (xs.length ≤ sizeLine → R (PlEt X.K a) H1))) := by
  refine ⟨fun pins s σ H R I h => ?_⟩
  refine Call_ (ld_blt I hg hm PyProof.Rows.boot_enumerate (PyProof.Rows.callWith_type1 (thn (ha.run pos pins s σ H _ I h) fun us s1 ⟨vs, H1, I1, r1, q1⟩ => ?_) hs rfl))
  obtain ⟨a, ex, q1⟩ := q1
  subst ex
  cases r1 with
  | cons r rr =>
    cases rr
    cases r
    have fr : ∀ b ∈ [s1.heap.objs.size + 1, s1.heap.objs.size], L2.FpOk X pins H1 b := fun b hb => by
      have hle : s1.heap.objs.size ≤ b := by
        rcases (by simpa using hb : b = s1.heap.objs.size + 1 ∨ b = s1.heap.objs.size) with z | z <;> omega
      exact I1.fpOk hle (I1.hok.fresh hle)
    rcases q1 with ⟨xs, hq, q⟩ | ⟨xs, hq, q⟩
    · obtain ⟨its, rv, p', hz⟩ := I1.list hq
      refine enum_call (begins_list a its.toArray) p'.isList fun h' he hit hk => wpAny_pyIter_enum he ?_
      exact ⟨s1.heap.objs.size + 1, [s1.heap.objs.size + 1, s1.heap.objs.size], _, _, H1, rfl, I1.kept (t' := s1.toks) hk, turn_enum a (s1.heap.objs.size + 1) s1.heap.objs.size, ⟨⟨.none, he⟩, ⟨_, hit, rfl, rfl⟩, Nat.succ_ne_self _⟩, fr, q hz⟩
    · obtain ⟨its, rv, p', hz⟩ := I1.tuple hq
      have p2 : s1.heap.IsTuple a its.toArray := p'
      have hlt : a < s1.heap.objs.size := let ⟨_, ho, _⟩ := p'; Heap.lt_size ho
      refine enum_call (begins_tuple a its.toArray) p2 fun h' he hit hk => wpAny_pyIter_enum he ?_
      exact ⟨s1.heap.objs.size + 1, [s1.heap.objs.size + 1, s1.heap.objs.size], _, _, H1, rfl, I1.kept (t' := s1.toks) hk, pl_turnEt a (s1.heap.objs.size + 1) s1.heap.objs.size, ⟨⟨.none, he⟩, ⟨_, hit, rfl, rfl⟩, Nat.succ_ne_self _, Nat.ne_of_gt (Nat.lt_succ_of_lt hlt), Nat.ne_of_gt hlt⟩, fr, q hz⟩
theorem pi_zipLT {e e2 : Expr} {ta : TA} {p pos tpos : Pos} {elts : List Expr} {kk : Nat} (hg : Gl X "zip") (hm : X.mg "zip" = none) (ha : PA X [e, e2] ta) (hs : starEach [e, e2] X.env = (false, eval e X.env) :: starEach [e2] X.env) (hpl : (backTo pos (starEach [e2] X.env)).any (·.1) = false) :
    PI X (.Tuple elts kk tpos) (.Call (.Name "zip" p) [e, e2] [] pos) (fun σ H R => ta σ H fun vs H1 => ∃ a b xs ys, vs = [.ref a, .ref b] ∧ ((SqL X.K H1 a xs ∧ SqL X.K H1 b ys ∧ (xs.length ≤ sizeLine → R (L2.Itz X.K a b) H1)) ∨ (SqT X.K H1 a xs ∧ SqT X.K H1 b ys ∧ (xs.length ≤ sizeLine → R (RZ.ItzT X.K a b) H1)))) := by
  refine ⟨fun pins s σ H R I h => ?_⟩
  refine Call_ (ld_blt I hg hm PyProof.Rows.boot_zip (PyProof.Rows.callWith_type1 (thn (ha.run pos pins s σ H _ I h) fun us s1 ⟨vs, H1, I1, r1, q1⟩ => ?_) hs hpl))
  obtain ⟨a, b, xs, ys, ex, q1⟩ := q1
  subst ex
  cases r1 with
  | cons r rr =>
    cases rr with
    | cons r' rr =>
      cases rr
      cases r
      cases r'
      have fr : ∀ c, c ∈ [s1.heap.objs.size + 4, s1.heap.objs.size + 2, s1.heap.objs.size + 3, s1.heap.objs.size, s1.heap.objs.size + 1] → L2.FpOk X pins H1 c := fun c hcm => by
        have hle : s1.heap.objs.size ≤ c := by
          rcases (by simpa using hcm : c = s1.heap.objs.size + 4 ∨ c = s1.heap.objs.size + 2 ∨ c = s1.heap.objs.size + 3 ∨ c = s1.heap.objs.size ∨ c = s1.heap.objs.size + 1) with z | z | z | z | z <;> omega
        exact I1.fpOk hle (I1.hok.fresh hle)
      rcases q1 with ⟨hx, hy, q⟩ | ⟨hx, hy, q⟩
      · obtain ⟨its, rv, p1, hz1⟩ := I1.list hx
        obtain ⟨its2, rv2, p2, _⟩ := I1.list hy
        refine call_zip_2 p1.isList p2.isList fun h' hz hTI hTO h1 h2 hsz hk => wpAny_pyIter_zip hz ?_
        exact ⟨s1.heap.objs.size + 4, [s1.heap.objs.size + 4, s1.heap.objs.size + 2, s1.heap.objs.size + 3, s1.heap.objs.size, s1.heap.objs.size + 1], _, _, H1, rfl, I1.kept (t' := s1.toks) hk, L2.turn_zip (PySem.W.ktu_apart s1.heap.objs.size a b p1.lt p2.lt), ⟨hz, hTI, ⟨_, _, hTO⟩, h1, h2⟩, fr, q hz1⟩
      · obtain ⟨its, rv, p1, hz1⟩ := I1.tuple hx
        obtain ⟨its2, rv2, p2, _⟩ := I1.tuple hy
        have l1 : a < s1.heap.objs.size := let ⟨_, ho, _⟩ := p1; Heap.lt_size ho
        have l2 : b < s1.heap.objs.size := let ⟨_, ho, _⟩ := p2; Heap.lt_size ho
        refine RZ.call_zipT (show s1.heap.IsTuple a its.toArray from p1) (show s1.heap.IsTuple b its2.toArray from p2) fun h' hz hTI hTO h1 h2 hsz hk => wpAny_pyIter_zip hz ?_
        exact ⟨s1.heap.objs.size + 4, [s1.heap.objs.size + 4, s1.heap.objs.size + 2, s1.heap.objs.size + 3, s1.heap.objs.size, s1.heap.objs.size + 1], _, _, H1, rfl, I1.kept (t' := s1.toks) hk, RZ.turn_zipT (PySem.W.ktu_apart s1.heap.objs.size a b l1 l2), ⟨hz, hTI, ⟨_, _, hTO⟩, h1, h2⟩, fr, q hz1⟩
end
end PLF
namespace PL
open PySem PySem.Spec PySem.Calls L2
section
variable {X : Cx} {P : Par} {σ : St} {H : Hp}
theorem it_pair {c : Cn} {F : Fz} {T : Addr} {x y : V} {d e : PL.D} (hT : H T = none) (r1 : Rp c H F x d) (r2 : Rp c H F y e) : Rp c (upd H T (.tup [x, y])) F (.ref T) (.tup [d, e]) := by
  have k := (Grow.upd (o := .tup [x, y]) hT).keep (c := c) (F := F)
  exact .tup (.of upd_same) (.cons (r1.keep k) (.cons (r2.keep k) .nil))
def enumL : Nat → List PL.D → List PL.D
  | _, [] => []
  | i, d :: ds => .tup [.int (i : Nat), d] :: enumL (i + 1) ds
theorem enumL_len : ∀ {ds : List PL.D} {k : Nat}, (enumL k ds).length = ds.length
  | [], _ => rfl
  | _ :: ds, k => by simp [enumL, enumL_len (ds := ds)]
theorem enumL_get : ∀ {ds : List PL.D} {k i : Nat}, (enumL k ds)[i]? = (ds[i]?).map fun d => .tup [.int ((k + i : Nat) : Int), d]
  | [], _, _ => by simp [enumL]
  | d :: ds, k, 0 => by simp [enumL]
  | d :: ds, k, i + 1 => by
    rw [enumL, List.getElem?_cons_succ, List.getElem?_cons_succ, enumL_get (ds := ds)]
    congr 1
    funext d
    congr 3
    omega
theorem sqL_uniq {c : Cn} {s : Shared} {pins : List (Addr × Obj)} {a : Addr} {vs ws : List V} (h : H a = some (.lst vs)) (h2 : H a = some (.lst ws)) : vs = ws := by
  rw [h] at h2; cases h2; rfl
/-- a frozen list or tuple, each item with its number -/
theorem it_enumT {c : Cn} {F : Fz} {a : Addr} {vs : List V} {ds : List PL.D} (h : SqT c.K H a vs) (r : RpA c H F vs ds) : ItOk c (PlEt c.K a) F H (enumL 0 ds) := by
  intro F' H' k tr i
  have h' := k.tup _ _ h
  have r' := r.keep k
  have hl := r.length
  refine ⟨fun hi => ?_, fun hi => ?_, fun x H2 hi y => ?_⟩
  · rw [enumL_len] at hi
    exact ⟨vs, vs[i], h', List.getElem?_eq_getElem (by omega)⟩
  · rw [enumL_len] at hi
    exact ⟨vs, h', by omega⟩
  · obtain ⟨T, z, rfl, hT, rfl, hz⟩ := y
    obtain ⟨d, hd, rz⟩ := r'.get (hz vs h')
    refine ⟨.tup [.int (i : Nat), d], by rw [enumL_get, hd]; simp, .upd hT, it_pair hT (.int _) rz⟩
theorem it_enumL {c : Cn} {F : Fz} {a : Addr} {vs : List V} {ds : List PL.D} (f : F a) (h : Rd H a (.lst vs)) (r : RpA c H F vs ds) : ItOk c (Ite c.K a) F H (enumL 0 ds) := by
  intro F' H' k tr i
  have h' := rd_keep k f h
  have r' := r.keep k
  have hl := r.length
  refine ⟨fun hi => ?_, fun hi => ?_, fun x H2 hi y => ?_⟩
  · rw [enumL_len] at hi
    exact ⟨vs, vs[i], .inl h', List.getElem?_eq_getElem (by omega)⟩
  · rw [enumL_len] at hi
    exact ⟨vs, .inl h', by omega⟩
  · obtain ⟨T, z, rfl, hT, rfl, hz⟩ := y
    obtain ⟨d, hd, rz⟩ := r'.get (hz vs (.inl h'))
    refine ⟨.tup [.int (i : Nat), d], by rw [enumL_get, hd]; simp, .upd hT, it_pair hT (.int _) rz⟩
def iEnumS (fe : Ex) : Src := fun g => iOf (fe g) fun v g1 => match itemsD v.d with
  | some ds => .ok (enumL 0 ds) g1
  | none => .bad
/-- a walked value, frozen: a list or a tuple -/
theorem seq_of {x : V} {ds : List PL.D} {d : PL.D} {F : Fz} (r : Rp (cn X P) H F x d) (e : itemsD d = some ds) : ∃ a, x = .ref a ∧ ((∃ xs, F a ∧ Rd H a (.lst xs) ∧ RpA (cn X P) H F xs ds) ∨ ∃ xs, SqT X.K H a xs ∧ RpA (cn X P) H F xs ds) := by
  cases r with
  | @lst a vs ds' f h r => cases e; exact ⟨a, rfl, .inl ⟨vs, f, h, r⟩⟩
  | @tup a vs ds' h r => cases e; exact ⟨a, rfl, .inr ⟨vs, h, r⟩⟩
  | _ => cases e
variable {e : Expr} {fe : Ex} {p pos tpos : Pos} {elts : List Expr} {kk : Nat}
theorem si_enum (he : SE X P e fe) (hg : Gl X "enumerate") (hm : X.mg "enumerate" = none) (hs : starEach [e] X.env = [(false, eval e X.env)] := by rfl) : SI X P (.Tuple elts kk tpos) (.Call (.Name "enumerate" p) [e] [] pos) (iEnumS fe) := by
  have pa : PA X [e] (tCons (tE X P fe) tNil) := pa_cons he.pe pa_nil hs
  refine ⟨pi_imp (PLF.pi_enumLT hg hm pa hs) fun σ H R q => ?_⟩
  refine tE_mono (mid_ofI q) fun x H1 ⟨v, L, m⟩ => ?_
  obtain ⟨F0, H0, own0, F1, g1, own1, m, q⟩ := mid_freeze m
  have r := (m.own _ List.mem_cons_self).zero.1
  cases e : itemsD v.d with
  | none => rw [e] at q; exact False.elim q
  | some ds =>
    rw [e] at q
    obtain ⟨a, ex, r⟩ := seq_of r e
    have ex : x = .ref a := ex
    refine ⟨a, by rw [ex], ?_⟩
    rcases r with ⟨xs, f, h, r⟩ | ⟨xs, h, r⟩
    · exact .inl ⟨xs, .inl h, fun hl => q F1 H1 own1 _ m.st m.g (it_enumL f h r) (by rw [enumL_len, ← r.length]; exact hl)⟩
    · exact .inr ⟨xs, h, fun hl => q F1 H1 own1 _ m.st m.g (it_enumT h r) (by rw [enumL_len, ← r.length]; exact hl)⟩
/-! ### zip -/
def zipL : List PL.D → List PL.D → List PL.D
  | a :: as, b :: bs => .tup [a, b] :: zipL as bs
  | _, _ => []
theorem zipL_len : ∀ {as bs : List PL.D}, (zipL as bs).length = min as.length bs.length
  | [], _ => by simp [zipL]
  | _ :: _, [] => by simp [zipL]
  | _ :: as, _ :: bs => by simp [zipL, zipL_len (as := as) (bs := bs)]
theorem zipL_get : ∀ {as bs : List PL.D} {i : Nat} {a b : PL.D}, as[i]? = some a → bs[i]? = some b → (zipL as bs)[i]? = some (.tup [a, b])
  | [], _, _, _, _, h, _ => by simp at h
  | _ :: _, [], _, _, _, _, h => by simp at h
  | _ :: _, _ :: _, 0, _, _, h1, h2 => by simp at h1 h2; subst h1 h2; rfl
  | _ :: as, _ :: bs, i + 1, _, _, h1, h2 => by
    rw [zipL, List.getElem?_cons_succ]
    exact zipL_get (by simpa using h1) (by simpa using h2)
theorem it_zipL {c : Cn} {F : Fz} {a b : Addr} {vs ws : List V} {ds es : List PL.D} (f : F a) (f2 : F b) (h : Rd H a (.lst vs)) (h2 : Rd H b (.lst ws)) (r : RpA c H F vs ds) (r2 : RpA c H F ws es) : ItOk c (Itz c.K a b) F H (zipL ds es) := by
  intro F' H' k tr i
  have h' := rd_keep k f h
  have h2' := rd_keep k f2 h2
  have r' := r.keep k
  have r2' := r2.keep k
  have hl := r.length
  have hl2 := r2.length
  rw [zipL_len]
  refine ⟨fun hi => ?_, fun hi => ⟨vs, ws, .inl h', .inl h2', by omega⟩, fun x H2 hi y => ?_⟩
  · exact ⟨vs, ws, vs[i], ws[i], .inl h', .inl h2', List.getElem?_eq_getElem (by omega), List.getElem?_eq_getElem (by omega)⟩
  · obtain ⟨T, z, z2, rfl, hT, rfl, hz, hz2⟩ := y
    obtain ⟨d, hd, rz⟩ := r'.get (hz vs (.inl h'))
    obtain ⟨d2, hd2, rz2⟩ := r2'.get (hz2 ws (.inl h2'))
    exact ⟨_, zipL_get hd hd2, .upd hT, it_pair hT rz rz2⟩
theorem it_zipT {c : Cn} {F : Fz} {a b : Addr} {vs ws : List V} {ds es : List PL.D} (h : SqT c.K H a vs) (h2 : SqT c.K H b ws) (r : RpA c H F vs ds) (r2 : RpA c H F ws es) : ItOk c (RZ.ItzT c.K a b) F H (zipL ds es) := by
  intro F' H' k tr i
  have h' := k.tup _ _ h
  have h2' := k.tup _ _ h2
  have r' := r.keep k
  have r2' := r2.keep k
  have hl := r.length
  have hl2 := r2.length
  rw [zipL_len]
  refine ⟨fun hi => ?_, fun hi => ⟨vs, ws, h', h2', by omega⟩, fun x H2 hi y => ?_⟩
  · exact ⟨vs, ws, vs[i], ws[i], h', h2', List.getElem?_eq_getElem (by omega), List.getElem?_eq_getElem (by omega)⟩
  · obtain ⟨T, z, z2, rfl, hT, rfl, hz, hz2⟩ := y
    obtain ⟨d, hd, rz⟩ := r'.get (hz vs h')
    obtain ⟨d2, hd2, rz2⟩ := r2'.get (hz2 ws h2')
    exact ⟨_, zipL_get hd hd2, .upd hT, it_pair hT rz rz2⟩
def zipI (d e : PL.D) (g : Env) : IOut := match d, e with
  | .tup as, .tup bs => .ok (zipL as bs) g
  | .lst as, .lst bs => .ok (zipL as bs) g
  | _, _ => .bad
def iZipS (fa fb : Ex) : Src := fun g => iOf (fa g) fun v g1 => iOf (fb g1) fun w g2 => zipI v.d w.d g2
theorem si_zip {e2 : Expr} {fa fb : Ex} (ha : SE X P e fa) (hb : SE X P e2 fb) (hg : Gl X "zip") (hm : X.mg "zip" = none) (hs : starEach [e, e2] X.env = (false, eval e X.env) :: starEach [e2] X.env := by rfl) (hpl : (backTo pos (starEach [e2] X.env)).any (·.1) = false := by rfl) (hs2 : starEach [e2] X.env = (false, eval e2 X.env) :: starEach [] X.env := by rfl) :
    SI X P (.Tuple elts kk tpos) (.Call (.Name "zip" p) [e, e2] [] pos) (iZipS fa fb) := by
  have pa : PA X [e, e2] (tCons (tE X P fa) (tCons (tE X P fb) tNil)) := pa_cons ha.pe (pa_cons hb.pe pa_nil hs2) hs
  refine ⟨pi_imp (PLF.pi_zipLT hg hm pa hs hpl) fun σ H R q => ?_⟩
  refine tE_mono (mid_ofI q) fun x H1 ⟨v, L, m⟩ => ?_
  have m := mid_freeze m
  have m' := mid_imp m (B' := fun F0 H0 own0 g => PostK X P F0 H0 own0 σ (fun w g2 => PostI X P F0 H0 own0 σ R (zipI v.d w.d g2)) (fb g)) fun F0 H0 own0 g q => by
    have q : PostI X P F0 H0 own0 σ R (iOf (fb g) fun w g2 => zipI v.d w.d g2) := q
    cases e : fb g with
    | ok w g1 => rw [e] at q; exact q
    | exc x g1 => rw [e] at q; exact q
    | bad => rw [e] at q; exact q
  refine tE_mono (mid_eval m') fun y H2 ⟨w, L2, m2⟩ => ?_
  obtain ⟨F0, H0, own0, F1, g1, own1, m, q⟩ := mid_freeze m2
  have r2 := (m.own _ List.mem_cons_self).zero.1
  have r1 := (m.own _ (List.mem_cons_of_mem _ List.mem_cons_self)).zero.1
  obtain ⟨vd, vn⟩ := v
  obtain ⟨wd, wn⟩ := w
  simp only at r1 r2 q
  unfold zipI at q
  split at q
  · cases r1 with
    | @tup a vs ds h r =>
      cases r2 with
      | @tup b ws es h2 r2 =>
        exact ⟨a, b, vs, ws, rfl, .inr ⟨h, h2, fun hl => q F1 H2 own1 _ m.st m.g (it_zipT h h2 r r2) (by rw [zipL_len, ← r.length]; omega)⟩⟩
  · cases r1 with
    | @lst a vs ds f h r =>
      cases r2 with
      | @lst b ws es f2 h2 r2 =>
        exact ⟨a, b, vs, ws, rfl, .inl ⟨.inl h, .inl h2, fun hl => q F1 H2 own1 _ m.st m.g (it_zipL f f2 h h2 r r2) (by rw [zipL_len, ← r.length]; omega)⟩⟩
  · exact False.elim q
end
end PL

/-! PD10: dicts walked: keys, values, items. -/
namespace PLG
open PySem PySem.Spec PyProof.Rows
open L2 (PI PE TE TI It Inv V Hp HO RelV Vals upd thn thnF Turn FpOk pi_one go_of)
open PL (Ent shO DictAt dict_at)

/-- the values vs, one after the other, while the dict at a stands -/
def ItK (a : Addr) (es : Ent) (vs : List V) : It := ⟨fun i H => H a = some (shO a (.dct es)) ∧ i < vs.length, fun i H x H' => H' = H ∧ vs[i]? = some x, fun i H => H a = some (shO a (.dct es)) ∧ i = vs.length⟩
/-- the pairs of vs and ws, each a new tuple -/
def ItI (a : Addr) (es : Ent) (vs ws : List V) : It := ⟨fun i H => H a = some (shO a (.dct es)) ∧ i < vs.length, fun i H x H' => ∃ T k v, vs[i]? = some k ∧ ws[i]? = some v ∧ x = .ref T ∧ H T = none ∧ H' = upd H T (.tup [k, v]), fun i H => H a = some (shO a (.dct es)) ∧ i = vs.length⟩
section
variable {P : Program} {w : World} {K : PySem.W.Frag} {tg : Expr} {a : Addr} {es : Ent} {vs ws : List V}
theorem turn_K (it : Addr) (hv : Vals vs (es.1.map (·.key))) : Turn P w K tg (ItK a es vs) [it] it (fun i h => h.IsKeyIter it a i es.1.length es.2) where
  mem := by simp
  obj := fun i h st b hb => by
    rcases (by simpa using hb : b = it) with rfl
    have ⟨oi, e, c, dd⟩ := st
    exact ⟨oi, e, fun v z => by rw [dd] at z; cases z⟩
  keep := fun i h h' st k => st.at fun oi e => k it (by simp) oi e
  item := by
    intro X hP hw hK hc i pins s σ H E I hf st hg
    subst hP hw hK
    obtain ⟨hd, hi⟩ := hg
    obtain ⟨hl, hs, hr⟩ := dict_at I hd
    have ⟨f0, f1, f2, f3, f4, f5⟩ := hf it (by simp)
    obtain ⟨u, hu, ru⟩ := hv.get (List.getElem?_eq_getElem hi)
    have hlen := hv.length
    rw [List.length_map] at hlen
    have hi2 : i < es.1.toArray.size := by simp; omega
    have st' : s.heap.IsKeyIter it a i es.1.toArray.size es.2 := by simpa using st
    refine wpAny_pyNext_keys_item_raw st' hr hi2 fun h' hit sb => ?_
    have hk : es.1.toArray[i].key = u := by
      rw [List.getElem?_map] at hu
      have hi3 : i < es.1.length := by omega
      rw [List.getElem?_eq_getElem hi3] at hu
      simpa using hu
    have ⟨oi, e, c, dd⟩ := hit
    refine ⟨_, rfl, go_of (s := { s with heap := h' }) e c dd (by decide) ⟨vs[i], H, I.turned (t' := s.toks) (fun b ob hb e => (sb.2 b hb).trans e) f0 f1 f3 f4 f5, by rw [hk]; exact ru, ⟨rfl, List.getElem?_eq_getElem hi⟩, by simpa using hit, fun b hb => (hf b hb).1⟩⟩
  done := by
    intro X hP hw hK hc i pins s σ H E I hf st hg
    subst hP hw hK
    obtain ⟨hd, hi⟩ := hg
    obtain ⟨hl, hs, hr⟩ := dict_at I hd
    have ⟨f0, f1, f2, f3, f4, f5⟩ := hf it (by simp)
    have hlen := hv.length
    rw [List.length_map] at hlen
    have st' : s.heap.IsKeyIter it a i es.1.toArray.size es.2 := by simpa using st
    exact wpAny_pyNext_keys_end_raw (I.ok.hd hc) st' hr (by simp; omega) fun h' eb => ⟨rfl, I.turned (t' := s.toks) (fun b ob hb e => eb b ob hb e) f0 f1 f3 f4 f5⟩
  self := fun A i s Q E st h => wpAny_pyIter_keyiter st h
theorem turn_V (it : Addr) (hv : Vals vs (es.1.map (·.val))) : Turn P w K tg (ItK a es vs) [it] it (fun i h => h.IsValIter it a i es.1.length es.2) where
  mem := by simp
  obj := fun i h st b hb => by
    rcases (by simpa using hb : b = it) with rfl
    have ⟨oi, e, c, dd⟩ := st
    exact ⟨oi, e, fun v z => by rw [dd] at z; cases z⟩
  keep := fun i h h' st k => st.at fun oi e => k it (by simp) oi e
  item := by
    intro X hP hw hK hc i pins s σ H E I hf st hg
    subst hP hw hK
    obtain ⟨hd, hi⟩ := hg
    obtain ⟨hl, hs, hr⟩ := dict_at I hd
    have ⟨f0, f1, f2, f3, f4, f5⟩ := hf it (by simp)
    obtain ⟨u, hu, ru⟩ := hv.get (List.getElem?_eq_getElem hi)
    have hlen := hv.length
    rw [List.length_map] at hlen
    have hi2 : i < es.1.toArray.size := by simp; omega
    have st' : s.heap.IsValIter it a i es.1.toArray.size es.2 := by simpa using st
    refine wpAny_pyNext_values_item_raw st' hr hi2 fun h' hit sb => ?_
    have hk : es.1.toArray[i].val = u := by
      rw [List.getElem?_map] at hu
      have hi3 : i < es.1.length := by omega
      rw [List.getElem?_eq_getElem hi3] at hu
      simpa using hu
    have ⟨oi, e, c, dd⟩ := hit
    refine ⟨_, rfl, go_of (s := { s with heap := h' }) e c dd (by decide) ⟨vs[i], H, I.turned (t' := s.toks) (fun b ob hb e => (sb.2 b hb).trans e) f0 f1 f3 f4 f5, by rw [hk]; exact ru, ⟨rfl, List.getElem?_eq_getElem hi⟩, by simpa using hit, fun b hb => (hf b hb).1⟩⟩
  done := by
    intro X hP hw hK hc i pins s σ H E I hf st hg
    subst hP hw hK
    obtain ⟨hd, hi⟩ := hg
    obtain ⟨hl, hs, hr⟩ := dict_at I hd
    have ⟨f0, f1, f2, f3, f4, f5⟩ := hf it (by simp)
    have hlen := hv.length
    rw [List.length_map] at hlen
    have st' : s.heap.IsValIter it a i es.1.toArray.size es.2 := by simpa using st
    exact wpAny_pyNext_values_end_raw (I.ok.hd hc) st' hr (by simp; omega) fun h' eb => ⟨rfl, I.turned (t' := s.toks) (fun b ob hb e => eb b ob hb e) f0 f1 f3 f4 f5⟩
  self := fun A i s Q E st h => wpAny_pyIter_valiter st h
theorem turn_I {elts : List Expr} {kk : Nat} {tpos : Pos} (it : Addr) (hv : Vals vs (es.1.map (·.key))) (hw2 : Vals ws (es.1.map (·.val))) : Turn P w K (.Tuple elts kk tpos) (ItI a es vs ws) [it] it (fun i h => ∃ ok ov, IsItemIter h it a i es.1.length es.2 ok ov) where
  mem := by simp
  obj := fun i h st b hb => by
    rcases (by simpa using hb : b = it) with rfl
    have ⟨ok, ov, e⟩ := st
    exact ⟨_, e, fun v z => nomatch z⟩
  keep := fun i h h' st k => let ⟨ok, ov, e⟩ := st; ⟨ok, ov, k it (by simp) _ e⟩
  item := by
    intro X hP hw hK hc i pins s σ H E I hf st hg
    subst hP hw hK
    obtain ⟨hd, hi⟩ := hg
    obtain ⟨hl, hs, hr⟩ := dict_at I hd
    obtain ⟨u, hu, ru⟩ := hv.get (List.getElem?_eq_getElem hi)
    have hlen := hv.length
    have hlen2 := hw2.length
    rw [List.length_map] at hlen hlen2
    have hj : i < ws.length := by omega
    obtain ⟨u2, hu2, ru2⟩ := hw2.get (List.getElem?_eq_getElem hj)
    have hi2 : i < es.1.toArray.size := by simp; omega
    have hi3 : i < es.1.length := by omega
    obtain ⟨ok, ov, he⟩ := st
    have he : IsItemIter s.heap it a i es.1.toArray.size es.2 ok ov := by simpa using he
    have hlt : it < s.heap.objs.size := Heap.lt_size he
    refine wpAny_pyNext_items_item_raw he hr hi2 fun h' ho hT hz hk => ?_
    have hk1 : es.1.toArray[i].key = u := by
      rw [List.getElem?_map, List.getElem?_eq_getElem hi3] at hu
      simpa using hu
    have hk2 : es.1.toArray[i].val = u2 := by
      rw [List.getElem?_map, List.getElem?_eq_getElem hi3] at hu2
      simpa using hu2
    rw [hk1, hk2] at ho hT
    refine ⟨_, rfl, wpAny_letOwnedTupleGo_items (s := { s with heap := h' }) ho fun h'' he' sb => ?_⟩
    have hT2 : h''.get? s.heap.objs.size = some { cls := .type "tuple", data := .seq #[u, u2] } := (sb.2 _ (Nat.ne_of_gt hlt)).trans hT
    have new : L2.ObjOk X.prog X.w (upd H s.heap.objs.size (.tup [vs[i], ws[i]])) h'' s.heap.objs.size (.tup [vs[i], ws[i]]) := ⟨by show 2 ≤ sizeLine; decide, [u, u2], .cons ru (.cons ru2 .nil), ⟨_, hT2, rfl, _, rfl⟩⟩
    have I1 : Inv X pins σ (upd H s.heap.objs.size (.tup [vs[i], ws[i]])) { s with heap := h'' } := I.turnedNew (t' := s.toks) (ch := [it]) (fun b ob hb e => (sb.2 b (by simpa using hb)).trans (hk b ob (by simpa using hb) e)) hf (Nat.le_refl _) new
    refine ⟨.ref s.heap.objs.size, _, I1, rfl, ⟨_, _, _, List.getElem?_eq_getElem hi, List.getElem?_eq_getElem hj, rfl, I.hok.fresh (Nat.le_refl _), rfl⟩, ⟨u, u2, by simpa using he'⟩, fun b hb => ?_⟩
    rcases (by simpa using hb : b = it) with rfl
    rw [L2.upd_ne (Nat.ne_of_lt hlt)]
    exact (hf b (by simp)).1
  done := by
    intro X hP hw hK hc i pins s σ H E I hf st hg
    subst hP hw hK
    obtain ⟨hd, hi⟩ := hg
    obtain ⟨hl, hs, hr⟩ := dict_at I hd
    have ⟨f0, f1, f2, f3, f4, f5⟩ := hf it (by simp)
    have hlen := hv.length
    rw [List.length_map] at hlen
    obtain ⟨ok, ov, he⟩ := st
    have he : IsItemIter s.heap it a i es.1.toArray.size es.2 ok ov := by simpa using he
    exact wpAny_pyNext_items_end_raw (I.ok.hd hc) he hr (by simp; omega) fun h' eb => ⟨rfl, I.turned (t' := s.toks) (fun b ob hb e => eb b ob hb e) f0 f1 f3 f4 f5⟩
  self := fun A i s Q E st h => let ⟨_, _, e⟩ := st; PySem.W.kcp_self e h
end
section
variable {X : L2.Cx} {tg e : Expr} {td : TE} {apos cpos : Pos}
def iDk (sel : DictEntry → Value) (td : TE) : TI := fun σ H R => td σ H fun x H1 => ∃ (a : Addr) (es : Ent) (vs : List V), x = .ref a ∧ H1 a = some (shO a (.dct es)) ∧ Vals vs (es.1.map sel) ∧ (es.1.length ≤ sizeLine → R (ItK a es vs) H1)
theorem pi_dkeys (he : PE X e td) : PI X tg e (iDk (·.key) td) := by
  refine ⟨fun pins s σ H R I h => ?_⟩
  refine thn (he.run pins s σ H _ I h) fun u s1 ⟨x, H1, I1, rx, a, es, vs, ex, ha, hv, q⟩ => ?_
  subst ex
  obtain rfl : u = Value.ref a := rx
  obtain ⟨hl, hs, hr⟩ := dict_at I1 ha
  refine wpAny_pyIter_dict_raw hs hr (pi_one (tk := s1.toks) I1 _ (turn_K _ hv) ⟨_, Heap.get?_push_size _ rfl, rfl, ?_⟩ (q hl))
  simp
theorem pi_dvals (he : PE X e td) (hbase : attributeBase e "values" X.env (eval e X.env) = eval e X.env) (hline : (apos.endLine == cpos.line) = true) : PI X tg (.Call (.Attribute e "values" apos) [] [] cpos) (iDk (·.val) td) := by
  refine ⟨fun pins s σ H R I h => ?_⟩
  refine wpAny_Call_method (T := "dict") (id := "dict.values") hbase rfl hline F.plainAttrs_dict F.slot_dict_values F.type_dict_values (thn (he.run pins s σ H _ I h) fun u s1 ⟨x, H1, I1, rx, a, es, vs, ex, ha, hv, q⟩ => ?_)
  subst ex
  obtain rfl : u = Value.ref a := rx
  obtain ⟨hl, hs, hr⟩ := dict_at I1 ha
  have ⟨o, ho, hx, _⟩ := hr
  refine ⟨hr.typeIs, fun b z => by cases z; exact ⟨o, ho, hx.2.1⟩, ?_⟩
  have I2 : Inv X pins σ H1 { s1 with heap := s1.heap.push { cls := .type "dict_values", data := .fields #[.ref a] } } := I1.kept (t' := s1.toks) fun b ob q => Heap.get?_push_of_some _ q
  have fin : wpAny (model X.prog X.w) X.A (pyIter (.ref s1.heap.objs.size)) (L2.PIE X pins σ tg R) X.xe { s1 with heap := s1.heap.push { cls := .type "dict_values", data := .fields #[.ref a] } } := by
    refine wpAny_pyIter_values_raw (d := a) ⟨_, Heap.get?_push_size _ rfl, rfl, rfl⟩ (hr.push _) (pi_one (tk := s1.toks) I2 _ (turn_V _ hv) ⟨_, Heap.get?_push_size _ rfl, rfl, ?_⟩ (q hl))
    simp
  show wpAny _ _ (callWith cpos (.builtin "dict.values") [.ref a] [] []) _ X.xe s1
  exact method_meetsIn F.slot_dict_values F.entry_dict_values rfl (PySem.evalArgs_none ⟨rfl, hr.typeIs, F.args_dict_values_1 _, _, meets_dict_values_raw a hs, ⟨_, _, hr⟩, fin⟩)
def iDi (td : TE) : TI := fun σ H R => td σ H fun x H1 => ∃ (a : Addr) (es : Ent) (vs ws : List V), x = .ref a ∧ H1 a = some (shO a (.dct es)) ∧ Vals vs (es.1.map (·.key)) ∧ Vals ws (es.1.map (·.val)) ∧ (es.1.length ≤ sizeLine → R (ItI a es vs ws) H1)
theorem pi_ditems {elts : List Expr} {kk : Nat} {tpos : Pos} (he : PE X e td) (hbase : attributeBase e "items" X.env (eval e X.env) = eval e X.env) (hline : (apos.endLine == cpos.line) = true) : PI X (.Tuple elts kk tpos) (.Call (.Attribute e "items" apos) [] [] cpos) (iDi td) := by
  refine ⟨fun pins s σ H R I h => ?_⟩
  refine wpAny_Call_method (T := "dict") (id := "dict.items") hbase rfl hline F.plainAttrs_dict F.slot_dict_items F.type_dict_items (thn (he.run pins s σ H _ I h) fun u s1 ⟨x, H1, I1, rx, a, es, vs, ws, ex, ha, hv, hw, q⟩ => ?_)
  subst ex
  obtain rfl : u = Value.ref a := rx
  obtain ⟨hl, hs, hr⟩ := dict_at I1 ha
  have ⟨o, ho, hx, _⟩ := hr
  refine ⟨hr.typeIs, fun b z => by cases z; exact ⟨o, ho, hx.2.1⟩, ?_⟩
  have I2 : Inv X pins σ H1 { s1 with heap := s1.heap.push { cls := .type "dict_items", data := .fields #[.ref a] } } := I1.kept (t' := s1.toks) fun b ob q => Heap.get?_push_of_some _ q
  have fin : wpAny (model X.prog X.w) X.A (pyIter (.ref s1.heap.objs.size)) (L2.PIE X pins σ (.Tuple elts kk tpos) R) X.xe { s1 with heap := s1.heap.push { cls := .type "dict_items", data := .fields #[.ref a] } } := by
    refine wpAny_pyIter_items_raw (d := a) ⟨_, Heap.get?_push_size _ rfl, rfl, rfl⟩ (hr.push _) (pi_one (tk := s1.toks) I2 _ (turn_I _ hv hw) ⟨.none, .none, ?_⟩ (q hl))
    have e : es.1.toArray.size = es.1.length := by simp
    rw [e]
    exact Heap.get?_push_size _ rfl
  show wpAny _ _ (callWith cpos (.builtin "dict.items") [.ref a] [] []) _ X.xe s1
  exact method_meetsIn F.slot_dict_items F.entry_dict_items rfl (PySem.evalArgs_none ⟨rfl, hr.typeIs, F.args_dict_items_1 _, _, meets_dict_items_raw a hs, ⟨_, _, hr⟩, fin⟩)
end
end PLG
namespace PL
open PySem PySem.Spec PySem.Calls L2
section
variable {X : Cx} {P : Par} {σ : St} {H : Hp} {tg e : Expr} {fe : Ex} {apos cpos tpos : Pos} {elts : List Expr} {kk : Nat}
theorem ent_vals : ∀ {es : List DictEntry} {kvs : List (PL.D × PL.D)} {F : Fz}, RpE (cn X P) H F es kvs → ∃ vs, Vals vs (es.map (·.val)) ∧ RpA (cn X P) H F vs (kvs.map (·.2))
  | _, _, _, .nil => ⟨[], .nil, .nil⟩
  | _, _, _, .cons (vv := vv) h1 h2 r1 r2 e1 e2 t => by
    obtain ⟨vs, a, b⟩ := ent_vals t
    exact ⟨vv :: vs, .cons h2 a, .cons r2 b⟩
theorem it_K {c : Cn} {F : Fz} {a : Addr} {es : Ent} {vs : List V} {ds : List PL.D} (f : F a) (h : H a = some (shO a (.dct es))) (r : RpA c H F vs ds) : ItOk c (PLG.ItK a es vs) F H ds := by
  intro F' H' k tr i
  have h' := k.frz _ _ f h
  have r' := r.keep k
  have hl := r.length
  refine ⟨fun hi => ⟨h', by omega⟩, fun hi => ⟨h', by omega⟩, fun x H2 hi y => ?_⟩
  obtain ⟨rfl, y⟩ := y
  obtain ⟨d, hd, rz⟩ := r'.get y
  exact ⟨d, hd, .refl, rz⟩
theorem it_I {c : Cn} {F : Fz} {a : Addr} {es : Ent} {vs ws : List V} {kvs : List (PL.D × PL.D)} (f : F a) (h : H a = some (shO a (.dct es))) (r : RpA c H F vs (kvs.map (·.1))) (r2 : RpA c H F ws (kvs.map (·.2))) : ItOk c (PLG.ItI a es vs ws) F H (kvs.map fun p => .tup [p.1, p.2]) := by
  intro F' H' k tr i
  have h' := k.frz _ _ f h
  have r' := r.keep k
  have r2' := r2.keep k
  have hl := r.length
  rw [List.length_map] at hl
  rw [List.length_map]
  refine ⟨fun hi => ⟨h', by omega⟩, fun hi => ⟨h', by omega⟩, fun x H2 hi y => ?_⟩
  obtain ⟨T, k1, v1, e1, e2, rfl, hT, rfl⟩ := y
  obtain ⟨d, hd, rz⟩ := r'.get e1
  obtain ⟨d2, hd2, rz2⟩ := r2'.get e2
  rw [List.getElem?_map] at hd hd2
  rw [List.getElem?_map]
  cases hk : kvs[i]? with
  | none => rw [hk] at hd; cases hd
  | some p =>
    rw [hk] at hd hd2
    cases hd
    cases hd2
    exact ⟨_, rfl, .upd hT, it_pair hT rz rz2⟩
def keysO : PL.D → Option (List PL.D)
  | .dct kvs => some (kvs.map (·.1))
  | _ => none
def valsO : PL.D → Option (List PL.D)
  | .dct kvs => some (kvs.map (·.2))
  | _ => none
def itemsO : PL.D → Option (List PL.D)
  | .dct kvs => some (kvs.map fun p => .tup [p.1, p.2])
  | _ => none
def okSrc (o : Option (List PL.D)) (g : Env) : IOut := match o with
  | some ds => .ok ds g
  | none => .bad
def iDv (o : PL.D → Option (List PL.D)) (fe : Ex) : Src := fun g => iOf (fe g) fun v g1 => okSrc (o v.d) g1
theorem dct_of {x : V} {kvs : List (PL.D × PL.D)} {F : Fz} (r : Rp (cn X P) H F x (.dct kvs)) : ∃ a es, x = .ref a ∧ F a ∧ H a = some (shO a (.dct es)) ∧ RpE (cn X P) H F es.1 kvs := by
  cases r with
  | dct f h ok r => exact ⟨_, _, rfl, f, h, r⟩
theorem si_keys (he : SE X P e fe) : SI X P tg e (iDv keysO fe) := by
  refine ⟨pi_imp (PLG.pi_dkeys he.pe) fun σ H R q => tE_mono (mid_ofI q) fun x H1 ⟨v, L, m⟩ => ?_⟩
  obtain ⟨F0, H0, own0, F1, g1, own1, m, q⟩ := mid_freeze m
  have r := (m.own _ List.mem_cons_self).zero.1
  obtain ⟨vd, vn⟩ := v
  simp only at r q
  cases vd with
  | dct kvs =>
    obtain ⟨a, es, ex, f, h, re⟩ := dct_of r
    obtain ⟨vs, hv, rv⟩ := ent_keys re
    have ex : x = .ref a := ex
    exact ⟨a, es, vs, ex, h, hv, fun hz => q F1 H1 own1 _ m.st m.g (it_K f h rv) (by rw [List.length_map, ← ent_len re]; exact hz)⟩
  | _ => exact False.elim q
theorem si_vals (he : SE X P e fe) (hbase : attributeBase e "values" X.env (eval e X.env) = eval e X.env := by rfl) (hline : (apos.endLine == cpos.line) = true := by rfl) : SI X P tg (.Call (.Attribute e "values" apos) [] [] cpos) (iDv valsO fe) := by
  refine ⟨pi_imp (PLG.pi_dvals he.pe hbase hline) fun σ H R q => tE_mono (mid_ofI q) fun x H1 ⟨v, L, m⟩ => ?_⟩
  obtain ⟨F0, H0, own0, F1, g1, own1, m, q⟩ := mid_freeze m
  have r := (m.own _ List.mem_cons_self).zero.1
  obtain ⟨vd, vn⟩ := v
  simp only at r q
  cases vd with
  | dct kvs =>
    obtain ⟨a, es, ex, f, h, re⟩ := dct_of r
    obtain ⟨vs, hv, rv⟩ := ent_vals re
    have ex : x = .ref a := ex
    exact ⟨a, es, vs, ex, h, hv, fun hz => q F1 H1 own1 _ m.st m.g (it_K f h rv) (by rw [List.length_map, ← ent_len re]; exact hz)⟩
  | _ => exact False.elim q
theorem si_items (he : SE X P e fe) (hbase : attributeBase e "items" X.env (eval e X.env) = eval e X.env := by rfl) (hline : (apos.endLine == cpos.line) = true := by rfl) : SI X P (.Tuple elts kk tpos) (.Call (.Attribute e "items" apos) [] [] cpos) (iDv itemsO fe) := by
  refine ⟨pi_imp (PLG.pi_ditems he.pe hbase hline) fun σ H R q => tE_mono (mid_ofI q) fun x H1 ⟨v, L, m⟩ => ?_⟩
  obtain ⟨F0, H0, own0, F1, g1, own1, m, q⟩ := mid_freeze m
  have r := (m.own _ List.mem_cons_self).zero.1
  obtain ⟨vd, vn⟩ := v
  simp only at r q
  cases vd with
  | dct kvs =>
    obtain ⟨a, es, ex, f, h, re⟩ := dct_of r
    obtain ⟨vs, hv, rv⟩ := ent_keys re
    obtain ⟨ws, hw, rw'⟩ := ent_vals re
    have ex : x = .ref a := ex
    exact ⟨a, es, vs, ws, ex, h, hv, hw, fun hz => q F1 H1 own1 _ m.st m.g (it_I f h rv rw') (by rw [List.length_map, ← ent_len re]; exact hz)⟩
  | _ => exact False.elim q
end
end PL

/-! PD11: sorted(x) of a list, a tuple or a dict. -/
namespace PL
open PySem PySem.Spec PySem.Calls L2

/-! ### the order of data: PLT -/
def leD (a b : D) : Bool := !ltD b a
/-- insertion, stable -/
def insD (le : D → D → Bool) (x : D) : List D → List D
  | [] => [x]
  | y :: ys => if le x y = true then x :: y :: ys else y :: insD le x ys
def isort (le : D → D → Bool) (ds : List D) : List D := ds.foldr (insD le) []
def sortD (ds : List D) : List D := isort leD ds
def tupNe : D → Bool
  | .tup (_ :: _) => true
  | _ => false
def sKind (ds : List D) : Bool := ds.all tupNe || ds.all (fun d => !isTup d) || (match ds with
  | [.tup []] => true
  | _ => false)
def sortOk (ds : List D) : Bool := okDs 60 ds && (ds.all fun a => ds.all fun b => alkD a b) && sKind ds
/-! ### insertion is the one stable sort -/
section
variable {le : D → D → Bool}
theorem insD_perm (x : D) : ∀ ys : List D, (insD le x ys).Perm (x :: ys)
  | [] => .refl _
  | y :: ys => by
    unfold insD
    split
    · exact .refl _
    · exact ((insD_perm x ys).cons y).trans (.swap x y ys)
theorem isort_perm : ∀ ds : List D, (isort le ds).Perm ds
  | [] => .refl _
  | d :: ds => (insD_perm d _).trans ((isort_perm ds).cons d)
theorem insD_sorted (h : PySem.W.TotalLe le) (x : D) : ∀ ys : List D, ys.Pairwise (fun a b => le a b = true) → (insD le x ys).Pairwise (fun a b => le a b = true)
  | [], _ => List.pairwise_singleton ..
  | y :: ys, p => by
    unfold insD
    rw [List.pairwise_cons] at p
    split
    · rename_i hxy
      refine List.pairwise_cons.mpr ⟨fun z hz => ?_, List.pairwise_cons.mpr p⟩
      rcases List.mem_cons.mp hz with rfl | hz
      · exact hxy
      · exact h.trans _ _ _ hxy (p.1 z hz)
    · rename_i hxy
      refine List.pairwise_cons.mpr ⟨fun z hz => ?_, insD_sorted h x ys p.2⟩
      rcases List.mem_cons.mp ((insD_perm x ys).mem_iff.mp hz) with rfl | hz
      · exact (h.total z y).resolve_left hxy
      · exact p.1 z hz
theorem isort_sorted (h : PySem.W.TotalLe le) : ∀ ds : List D, (isort le ds).Pairwise (fun a b => le a b = true)
  | [] => List.Pairwise.nil
  | d :: ds => insD_sorted h d _ (isort_sorted h ds)
theorem insD_filter (h : PySem.W.TotalLe le) (c x : D) : ∀ ys : List D, (insD le x ys).filter (PySem.W.sameRank le c) = (x :: ys).filter (PySem.W.sameRank le c)
  | [] => rfl
  | y :: ys => by
    unfold insD
    split
    · rfl
    · rename_i hxy
      rw [List.filter_cons, insD_filter h c x ys]
      simp only [List.filter_cons]
      by_cases hx : PySem.W.sameRank le c x = true
      · have hy : ¬ PySem.W.sameRank le c y = true := fun hy => by
          unfold PySem.W.sameRank at hx hy
          obtain ⟨x1, x2⟩ := Bool.and_eq_true_iff.mp hx
          obtain ⟨y1, y2⟩ := Bool.and_eq_true_iff.mp hy
          exact hxy (h.trans _ _ _ x2 y1)
        simp only [if_pos hx, if_neg hy]
      · simp only [if_neg hx]
theorem isort_filter (h : PySem.W.TotalLe le) (c : D) : ∀ ds : List D, (isort le ds).filter (PySem.W.sameRank le c) = ds.filter (PySem.W.sameRank le c)
  | [] => rfl
  | d :: ds => by
    show (insD le d (isort le ds)).filter _ = _
    rw [insD_filter h, List.filter_cons, List.filter_cons, isort_filter h c ds]
theorem isort_merge (h : PySem.W.TotalLe le) (ds : List D) : isort le ds = ds.mergeSort le := PySem.W.sort_unique h (isort_sorted h ds) fun c => isort_filter h c ds
theorem insD_congr {le' : D → D → Bool} {x : D} : ∀ {ys : List D}, (∀ y ∈ ys, le x y = le' x y) → insD le x ys = insD le' x ys
  | [], _ => rfl
  | y :: ys, h => by
    unfold insD
    rw [h y List.mem_cons_self, insD_congr fun z hz => h z (List.mem_cons_of_mem _ hz)]
theorem isort_congr {le' : D → D → Bool} : ∀ {ds : List D}, (∀ a ∈ ds, ∀ b ∈ ds, le a b = le' a b) → isort le ds = isort le' ds
  | [], _ => rfl
  | d :: ds, h => by
    have ih := isort_congr (le' := le') (ds := ds) fun a ha b hb => h a (List.mem_cons_of_mem _ ha) b (List.mem_cons_of_mem _ hb)
    show insD le d (isort le ds) = insD le' d (isort le' ds)
    rw [ih]
    exact insD_congr fun y hy => h d List.mem_cons_self y (List.mem_cons_of_mem _ ((isort_perm ds).mem_iff.mp hy))
end
/-- the library's data of a datum -/
def encP (d : D) : PyData := (toP d).getD .none
theorem okDs_all : ∀ {n : Nat} {ds : List D}, okDs n ds = true → ∀ d ∈ ds, okD n d = true
  | _, [], _, _, h => nomatch h
  | n, x :: xs, h, d, hd => by
    unfold okDs at h
    obtain ⟨h1, h2⟩ := Bool.and_eq_true_iff.mp h
    rcases List.mem_cons.mp hd with rfl | hd
    · exact h1
    · exact okDs_all h2 d hd
theorem enc_toP {n : Nat} {d : D} (h : okD n d = true) : toP d = some (encP d) ∧ (encP d).depth ≤ n := by
  obtain ⟨p, e, _, hd⟩ := okD_sh n d h
  unfold encP
  rw [e]
  exact ⟨rfl, hd⟩
theorem alk_all {ds : List D} (h : (ds.all fun a => ds.all fun b => alkD a b) = true) : ∀ a ∈ ds, ∀ b ∈ ds, alkD a b = true := fun a ha b hb => List.all_eq_true.mp (List.all_eq_true.mp h a ha) b hb
theorem sort_data {ds : List D} (h : sortOk ds = true) : PySem.W.AllAlike (ds.map encP) ∧ ds.mergeSort (PySem.W.dataLe false encP) = sortD ds := by
  unfold sortOk at h
  obtain ⟨h12, _⟩ := Bool.and_eq_true_iff.mp h
  obtain ⟨h1, h2⟩ := Bool.and_eq_true_iff.mp h12
  have ok := okDs_all h1
  have al := alk_all h2
  refine ⟨fun p hp q hq => ?_, ?_⟩
  · obtain ⟨a, ha, rfl⟩ := List.mem_map.mp hp
    obtain ⟨b, hb, rfl⟩ := List.mem_map.mp hq
    exact (lt_toP a b (al a ha b hb) (enc_toP (ok a ha)).1 (enc_toP (ok b hb)).1).1
  · have tl : PySem.W.TotalLe (PySem.W.dataLe false encP) := PySem.W.sortLe_total _ false _
    rw [← isort_merge tl]
    refine isort_congr fun a ha b hb => ?_
    show (!PySem.W.dataLt (encP b) (encP a)) = !ltD b a
    rw [(lt_toP b a (al b hb a ha) (enc_toP (ok b hb)).1 (enc_toP (ok a ha)).1).2]

section
variable {X : Cx} {P : Par} {pins : List (Addr × Obj)} {σ : St} {H : Hp} {s : Shared} {F : Fz}
theorem each_reads (I : Inv X pins σ H s) : ∀ {ds : List D} {vs : List V} {us : List Value}, (∀ d ∈ ds, ∃ p, toP d = some p) → RpA (cn X P) H F vs ds → Vals vs us → PySem.W.EachIs (fun u d => ∃ as, Reads s.heap u (encP d) as) us ds
  | [], _, _, _, r, e => by cases r; cases e; exact .nil
  | d :: ds, _, _, h, r, e => by
    cases r with
    | cons r1 r2 =>
      cases e with
      | cons e1 e2 =>
        obtain ⟨p, hp⟩ := h d List.mem_cons_self
        refine .cons ?_ (each_reads I (fun d hd => h d (List.mem_cons_of_mem _ hd)) r2 e2)
        have : encP d = p := by unfold encP; rw [hp]; rfl
        rw [this]
        exact Dp.reads I p _ _ (r1.dp hp) e1
theorem each_rp : ∀ {ds : List D} {vs : List V} {us : List Value}, RpA (cn X P) H F vs ds → Vals vs us → PySem.W.EachIs (fun u d => ∃ v, RelV v u ∧ Rp (cn X P) H F v d) us ds
  | [], _, _, r, e => by cases r; cases e; exact .nil
  | d :: ds, _, _, r, e => by
    cases r with
    | cons r1 r2 =>
      cases e with
      | cons e1 e2 => exact .cons ⟨_, e1, r1⟩ (each_rp r2 e2)
theorem rp_each : ∀ {ds : List D} {us : List Value}, PySem.W.EachIs (fun u d => ∃ v, RelV v u ∧ Rp (cn X P) H F v d) us ds → ∃ vs, Vals vs us ∧ RpA (cn X P) H F vs ds
  | _, _, .nil => ⟨[], .nil, .nil⟩
  | _, _, .cons ⟨v, h1, h2⟩ t => by
    obtain ⟨vs, a, b⟩ := rp_each t
    exact ⟨v :: vs, .cons h1 a, .cons h2 b⟩
theorem sorts_nil {prog : Program} {w : World} {A : Around} {s : Shared} {vs : List Value} (e : PySem.W.EachIs (fun v d => ∃ as, Reads s.heap v d as) vs [.tuple []]) (hu : A.units + 1 < cLine) : PySem.W.SortsAt prog w A s (PySem.W.dataKind s.heap [.tuple []]) vs := by
  have al : PySem.W.AllAlike [PyData.tuple []] := fun d hd d' hd' => by
    rw [List.mem_singleton.mp hd, List.mem_singleton.mp hd']
    simp [PySem.W.alike, PySem.W.alikeAll]
  refine ⟨fun v hv => ?_, PyProof.Rows.tuples' true, ?_, fun h2 => ?_⟩
  · obtain ⟨d, hd, as, r⟩ := e.left v hv
    exact ⟨_, PySem.W.dataKind_some al hd r⟩
  · intro E x y a b Q ha hb hq
    obtain ⟨d, as, hd, ra, rfl⟩ := PySem.W.dataKind_inv ha
    obtain ⟨d', as', hd', rb, rfl⟩ := PySem.W.dataKind_inv hb
    cases List.mem_singleton.mp hd
    cases List.mem_singleton.mp hd'
    have hq' : Q (PySem.W.dataLt (.tuple []) (.tuple [])) s := hq
    rw [PySem.W.dataLt_tuple] at hq'
    cases ra with
    | @tuple l o xs n _ _ h1 h2 h3 h4 =>
      cases rb with
      | @tuple l' o' xs' n' _ _ k1 k2 k3 k4 =>
        have n1 : xs.size = 0 := by simpa using SeqAt.ReadsAll.length _ _ _ h4
        have n2 : xs'.size = 0 := by simpa using SeqAt.ReadsAll.length _ _ _ k4
        exact PySem.W.kat_lt h1 h3 k1 k3 (PySem.W.katLex_alike [] [] 0 _ _ _ _ h4 k4 rfl (by simp [PyData.depthAll]; omega) (fun _ _ x r t ex => nomatch ex) (by rw [n1, n2]; rfl) hq')
  · cases e with
    | cons _ t => cases t; simp at h2
/-- sorted(x), what x gives being told -/
theorem sorted_any {u : Value} {us : List Value} {vs : List V} {ds : List D} {Q : Value → Shared → Prop} (hu : X.A.units + 65 < cLine) (I : Inv X pins σ H s) (rv : Vals vs us) (r : RpA (cn X P) H F vs ds) (ok : sortOk ds = true) (hl : us.length ≤ sizeLine)
    (hcol : ∀ (A : Around) (E : Value → Shared → Prop) (Q : List Value → Shared → Prop), A.handled = X.A.handled → (∀ h' tk, (∀ b o, s.heap.get? b = some o → h'.get? b = some o) → Q us { s with heap := h', toks := tk }) → wpAny (model X.prog X.w) A (collect u) Q E s)
    (h : ∀ p ws s', H p = none → RpA (cn X P) H F ws (sortD ds) → Inv X pins σ (upd H p (.lst ws)) s' → Q (.ref p) s') : wpAny (model X.prog X.w) X.A (call (.builtin "sorted") [u]) Q X.xe s := by
  obtain ⟨al, es⟩ := sort_data ok
  have okk := ok
  unfold sortOk at okk
  obtain ⟨h12, hk⟩ := Bool.and_eq_true_iff.mp okk
  have okd := okDs_all (Bool.and_eq_true_iff.mp h12).1
  have hp : ∀ d ∈ ds, ∃ p, toP d = some p := fun d hd => ⟨_, (enc_toP (okd d hd)).1⟩
  refine PyProof.Rows.call_function_entry_kw PyProof.Rows.kind_sorted PyProof.Rows.plain_sorted PyProof.Rows.entry_sorted (PyProof.Rows.args_sorted1 _) ?_
  unfold Builtin.«sorted»
  refine wpAny_bind (m := checkCount "sorted" 1 1 _) (wpAny_pure ?_)
  refine wpAny_bind (hcol _ _ _ rfl fun h1 tk k1 => ?_)
  refine wpAny_bind (PySem.wpAny_newList ?_ hl)
  have I1 : Inv X pins σ H { s with heap := h1, toks := tk } := I.kept (t' := tk) k1
  have ho : (h1.push (PyProof.Rows.seqObj "list" us.toArray 0)).get? h1.objs.size = some (PyProof.Rows.seqObj "list" us.toArray 0) := Heap.get?_push_size _ rfl
  have k2 : ∀ b o, h1.get? b = some o → (h1.push (PyProof.Rows.seqObj "list" us.toArray 0)).get? b = some o := fun b o q => Heap.get?_push_of_some _ q
  have k3 : ∀ b o, h1.get? b = some o → (PySem.W.sortingHeap (h1.push (PyProof.Rows.seqObj "list" us.toArray 0)) h1.objs.size us).get? b = some o := fun b o q =>
    PySem.W.sortingHeap_old (Nat.ne_of_lt (Heap.lt_size q)) (k2 b o q)
  have I3 : Inv X pins σ H { s with heap := PySem.W.sortingHeap (h1.push (PyProof.Rows.seqObj "list" us.toArray 0)) h1.objs.size us, toks := tk } := I.kept (t' := tk) fun b o q => k3 b o (k1 b o q)
  have er := each_reads I3 hp r rv
  have ev := each_rp (X := X) (P := P) (H := H) (F := F) r rv
  have fin : ∀ out : List Value, PySem.W.EachIs (fun u d => ∃ v, RelV v u ∧ Rp (cn X P) H F v d) out (sortD ds) → out.length ≤ sizeLine →
      Q (.ref h1.objs.size) { s with heap := PyProof.Rows.sortedHeap (h1.push (PyProof.Rows.seqObj "list" us.toArray 0)) h1.objs.size us out.toArray, toks := tk } := fun out eo ho2 => by
    obtain ⟨ws, w1, w2⟩ := rp_each eo
    obtain ⟨ep, hep⟩ := PyProof.Rows.sortedHeap_at (vs := us) (out := out.toArray) ho
    refine h h1.objs.size ws _ (I1.hok.fresh (Nat.le_refl _)) w2 (I1.laid (t' := tk) (fun b o q1 => ?_) (Nat.le_refl _) ⟨?_, out, ep, w1, hep⟩)
    · have q1 : h1.get? b = some o := q1
      rw [PyProof.Rows.sortedHeap_old (Nat.ne_of_lt (Heap.lt_size q1)) (Heap.lt_size (k2 _ _ q1))]
      exact k2 _ _ q1
    · have := w1.length
      omega
  have S : ∃ κ, PySem.W.SortsAt X.prog X.w X.A.in1.in1 { s with heap := PySem.W.sortingHeap (h1.push (PyProof.Rows.seqObj "list" us.toArray 0)) h1.objs.size us, toks := tk } κ us ∧
      PySem.W.EachIs (fun u d => ∃ v, RelV v u ∧ Rp (cn X P) H F v d) (PySem.W.sortVals κ false us us) (ds.mergeSort (PySem.W.dataLe false encP)) := by
    refine ⟨PySem.W.dataKind (PySem.W.sortingHeap (h1.push (PyProof.Rows.seqObj "list" us.toArray 0)) h1.objs.size us) (ds.map encP), ?_, PySem.W.sortVals_data false ev er al⟩
    have er2 : PySem.W.EachIs (fun u d => ∃ as, Reads (PySem.W.sortingHeap (h1.push (PyProof.Rows.seqObj "list" us.toArray 0)) h1.objs.size us) u d as) us (ds.map encP) :=
      PySem.W.each_map (R := fun u d => ∃ as, Reads (PySem.W.sortingHeap (h1.push (PyProof.Rows.seqObj "list" us.toArray 0)) h1.objs.size us) u d as) encP er
    have hun : X.A.in1.in1.units = X.A.units + 2 := rfl
    unfold sKind at hk
    rcases Bool.or_eq_true_iff.mp hk with hk | hk
    · rcases Bool.or_eq_true_iff.mp hk with hk | hk
      · refine PySem.W.SortsAt.data (s := { s with heap := _, toks := tk }) er2 al (.inl fun d hd => ?_) fun d hd => ?_
        · obtain ⟨b, hb, rfl⟩ := List.mem_map.mp hd
          have := List.all_eq_true.mp hk b hb
          unfold tupNe at this
          split at this
          · rename_i x xs
            have e := (enc_toP (okd _ hb)).1
            generalize encP _ = q at e
            simp [toP] at e
            obtain ⟨ps, e, rfl⟩ := e
            unfold toPs at e
            split at e
            · cases e; exact ⟨_, _, rfl⟩
            · cases e
          · cases this
        · obtain ⟨b, hb, rfl⟩ := List.mem_map.mp hd
          have := (enc_toP (okd b hb)).2
          omega
      · refine PySem.W.SortsAt.data (s := { s with heap := _, toks := tk }) er2 al (.inr fun d hd => ?_) fun d hd => ?_
        · obtain ⟨b, hb, rfl⟩ := List.mem_map.mp hd
          have nt := List.all_eq_true.mp hk b hb
          have e := (enc_toP (okd b hb)).1
          have ab := alk_all (Bool.and_eq_true_iff.mp h12).2 b hb b hb
          generalize encP b = q at e
          cases b with
          | int i => cases e; exact ⟨(nomatch ·), fun _ => (nomatch ·)⟩
          | str i => cases e; exact ⟨(nomatch ·), fun _ => (nomatch ·)⟩
          | lst xs =>
            simp [toP] at e
            obtain ⟨ps, _, rfl⟩ := e
            exact ⟨(nomatch ·), fun _ => (nomatch ·)⟩
          | tup xs => simp [isTup] at nt
          | _ => simp [alkD] at ab
        · obtain ⟨b, hb, rfl⟩ := List.mem_map.mp hd
          have := (enc_toP (okd b hb)).2
          omega
    · split at hk
      · refine sorts_nil (s := { s with heap := _, toks := tk }) er2 (by omega)
      · cases hk
  obtain ⟨κ, S1, S2⟩ := S
  rw [es] at S2
  refine wpAny_bind (wpAny_holding (PyProof.Rows.wpAny_call_entry_kw PyProof.Rows.slot_list_sort ⟨_, ho, rfl⟩ PyProof.Rows.entry_list_sort ?body (PyProof.Rows.args_list_sort _)))
  case body =>
    refine PySem.W.list_sort_vals (s := { s with heap := _, toks := tk }) ho S1 hl ?_
    refine ⟨_, rfl, wpAny_pure ⟨_, rfl, fin _ S2 ?_⟩⟩
    rw [S2.length]
    have := (isort_perm (le := leD) ds).length_eq
    have h3 := rv.length
    have h4 := r.length
    show (isort leD ds).length ≤ _
    omega
theorem collect_seqA {a : Addr} {T : String} {o : Obj} {us : List Value} {n : Nat} (hT : T = "list" ∨ T = "tuple") (ho : s.heap.get? a = some o) (hc : o.cls = .type T) (hd : o.data = .seq us.toArray n) (hl : us.length ≤ sizeLine)
    (A : Around) (E : Value → Shared → Prop) (Q : List Value → Shared → Prop) (h : ∀ h' tk, (∀ b o, s.heap.get? b = some o → h'.get? b = some o) → Q us { s with heap := h', toks := tk }) : wpAny (model X.prog X.w) A (collect (.ref a)) Q E s :=
  wpAny_collect_seq a hT ho hc hd (fun h' k => h h' s.toks k) (by simpa using hl)
theorem collect_dict {a : Addr} {es : Ent} {Q : List Value → Shared → Prop} {A : Around} {E : Value → Shared → Prop} (I : Inv X pins σ H s) (ha : H a = some (shO a (.dct es))) (hA : A.handled = none)
    (h : ∀ h' tk, (∀ b o, s.heap.get? b = some o → h'.get? b = some o) → Q (es.1.map (·.key)) { s with heap := h', toks := tk }) : wpAny (model X.prog X.w) A (collect (.ref a)) Q E s := by
  obtain ⟨hl, hs, o, ho, hx, hd⟩ := dict_at I ha
  have hsz : es.1.toArray.size = es.1.length := by simp
  refine PySem.W.kdu_collect (kdl_raw hs hx hd) hA ho (by omega) fun h' tk acc kp it => ?_
  have ea : acc.toList = es.1.map (·.key) := by
    have hlen : acc.toList.length = es.1.length := by rw [Array.length_toList, it.1]; simp
    apply List.ext_getElem (by simpa using hlen)
    intro j h1 h2
    obtain ⟨en, hen, hv⟩ := it.2 j acc.toList[j] (by rw [← Array.getElem?_toList]; exact List.getElem?_eq_getElem h1)
    rw [hv]
    have h3 : j < es.1.length := by omega
    have hen' : some es.1[j] = some en := by simpa [h3] using hen
    rw [List.getElem_map, Option.some.inj hen']
  rw [ea]
  exact h h' tk kp
def oSorted : List D → Option Val
  | [.lst ds] => if sortOk ds = true then some ⟨.lst (sortD ds), 1⟩ else none
  | [.tup ds] => if sortOk ds = true then some ⟨.lst (sortD ds), 1⟩ else none
  | [.dct kvs] => if sortOk (kvs.map (·.1)) = true then some ⟨.lst (sortD (kvs.map (·.1))), 1⟩ else none
  | _ => none
end
section
variable {X : Cx} {P : Par}
theorem c_sorted (hc : X.calm = true) (hu : X.A.units + 65 < cLine) : CallR X (.builtin "sorted") (rDn (cn X P) oSorted) := by
  intro pins s σ H xs us Q I r ⟨F, ds, w, tr, hx, ho, q⟩
  unfold oSorted at ho
  split at ho
  · split at ho
    · rename_i ok
      cases ho
      obtain ⟨x, rfl, h1⟩ := hx.one
      obtain ⟨a, vs, rfl, hl, rv⟩ := h1.li
      rw [Vals.ref1 r]
      obtain ⟨us, e, ⟨o, n, h6, hc6, _, hd6⟩, h5⟩ := I.list (rd_sqL (c := cn X P) hl)
      rw [e.length] at h5
      exact sorted_any hu I e rv ok h5 (fun A E Q _ h => collect_seqA (.inl rfl) h6 hc6 hd6 h5 A E Q h) fun p ws s' hp rw' I' => ⟨.ref p, _, I', rfl, q.lst hp rw'⟩
    · cases ho
  · split at ho
    · rename_i ok
      cases ho
      obtain ⟨x, rfl, h1⟩ := hx.one
      obtain ⟨a, vs, rfl, hl, rv⟩ := h1.tup
      rw [Vals.ref1 r]
      obtain ⟨us, e, ⟨o, h6, hc6, n, hd6⟩, h5⟩ := I.tuple hl
      rw [e.length] at h5
      exact sorted_any hu I e rv ok h5 (fun A E Q _ h => collect_seqA (.inr rfl) h6 hc6 hd6 h5 A E Q h) fun p ws s' hp rw' I' => ⟨.ref p, _, I', rfl, q.lst hp rw'⟩
    · cases ho
  · split at ho
    · rename_i ok
      cases ho
      obtain ⟨x, rfl, h1⟩ := hx.one
      obtain ⟨a, es, rfl, ha, okk, re⟩ := h1.dc
      rw [Vals.ref1 r]
      obtain ⟨hl, _⟩ := dict_at I ha
      obtain ⟨vs, rv, rp⟩ := ent_keys re
      exact sorted_any hu I rv rp ok (by rw [List.length_map]; exact hl) (fun A E Q hA h => collect_dict I ha (hA.trans (I.ok.hd hc)) h) fun p ws s' hp rw' I' => ⟨.ref p, _, I', rfl, q.lst hp rw'⟩
    · cases ho
  · cases ho
end
end PL

/-! PL17: isinstance(e, C) in a suite; the head's facts by a check; the end. -/
namespace PL
open PySem PySem.Spec PySem.Calls L2

section
variable {X : Cx} {P : Par}
def excCB (K : PySem.W.Frag) (D : Addr) : Bool :=
  decide (PySem.W.findIn K (.ref D) "__getattribute__" = some (some (.builtin "BaseException.__getattribute__"))) && (decide (PySem.W.findIn K (.ref D) "__getattr__" = some none) && (decide (PySem.W.subIn K (.ref D) (.type "BaseException") = some true) && (PySem.W.hasDictIn K D &&
    (decide (PySem.W.findIn K (.ref D) "__class__" = some (some (.builtin "object.__class__"))) && (decide (PySem.W.specialIn K (.builtin "object.__class__") "__get__" = some (some (.builtin "getset_descriptor.__get__"))) &&
      (decide (PySem.W.takesIn K (.builtin "object.__class__") = some true) && decide (PySem.W.mroIn K D (.type "object") = some true)))))))
theorem excC_of {K : PySem.W.Frag} {D : Addr} (h : excCB K D = true) : ExcC K D := by
  unfold excCB at h
  simp only [Bool.and_eq_true, decide_eq_true_eq] at h
  obtain ⟨h1, h2, h3, h4, h5, h6, h7, h8⟩ := h
  exact ⟨h1, h2, h3, h4, h5, h6, h7, h8⟩
/-- isinstance(e, C), e held by the suite -/
theorem s_isE {x n c : Str} {i : Nat} {p p1 p2 pos : Pos} {a D C : Addr} {oe : Obj} {pn : List (Addr × Obj)} {b : Bool} (E : ExcC X.K D) (hz : Zc (.ref D) none oe) (hf : ∃ vs, oe.data = .fields vs) (hk : PySem.W.kitOne X.K (.ref D) (.ref C) = some b)
    (hx : x = "isinstance") (hg : Gl X x) (hm : X.mg x = none) (hN : X.N[i]? = some n) (hv : Vis X.env.scope n) (hg2 : Gl X c) (hm2 : X.mg c = some (.ref C))
    (hd : (n == ("__debug__" : Str)) = false := by decide) (hcd : (n == ("__classdict__" : Str)) = false := by decide) (hd2 : (c == ("__debug__" : Str)) = false := by decide) :
    SE (X.suite a ((a, oe) :: pn)) (P.held i a) (.Call (.Name x p) [.Name n p1, .Name c p2] [] pos) (eC (.bl b)) := by
  subst hx
  have pe1 : PE (X.suite a ((a, oe) :: pn)) (.Name n p1) (tVar i) := pe_var hN hv hd hcd
  have pe2 : PE (X.suite a ((a, oe) :: pn)) (.Name c p2) (tC (.ref C)) := pe_glob (v := .ref C) hg2 hm2 rfl hd2
  refine ⟨pe_imp (pe_callB (X := X.suite a ((a, oe) :: pn)) (r := rIsE X.K D a) (call_isE E hz hf) hg hm (by rfl) (pa_cons pe1 (pa_cons pe2 pa_nil (by rfl)) (by rfl)) (by decide) (by decide) (by rfl) (by rfl)) fun σ H Q h => ?_⟩
  obtain ⟨F, g, own, I, q⟩ := h
  refine ⟨.ref a, I.pin (i, .ref a) List.mem_cons_self, ?_⟩
  exact ⟨.ref C, .ref C, b, rfl, fun u r => r, hk, q F H own _ [] .refl I (.of (.bl b)) ⟨List.nodup_nil, fun _ h => nomatch h⟩⟩
end

/-! ### the head: facts by one check -/
def obsP (ck : PySem.W.Frag → Bool) (fn : List He.DefD) (K : PySem.W.Frag) : He.AlD := (ck K && fn.all fun d => d.ok K, fn.map fun d => He.fnW K d.at_)
def SaysP (ck : PySem.W.Frag → Bool) (fn : List He.DefD) (K : PySem.W.Frag) : Prop := obsP ck fn K = He.valD fn
def obsPG (n : Nat) (ck : PySem.W.Frag → Bool) (fn : List He.DefD) (g : Addr → Option Obj) : He.AlD := obsP ck fn (He.frG g (He.asD g n))
def hookP (n : Nat) (ck : PySem.W.Frag → Bool) (fn : List He.DefD) : PySem.W.Hook where
  α := He.AlD
  obs := fun s => obsPG n ck fn s.heap.get?
  val := fun _ => He.valD fn
  says := fun _ h => ∃ K : PySem.W.Frag, K.In h ∧ SaysP ck fn K
  of := fun _ _ e => ⟨_, He.frG_in, e⟩
  keeps := fun _ _ _ ⟨K, hK, c⟩ k => ⟨K, PySem.W.Frag.In.keeps hK k, c⟩
theorem obsPG_eq {n : Nat} {ck : PySem.W.Frag → Bool} {fn : List He.DefD} {g : Addr → Option Obj} {s : Shared} (h : ∀ a, g a = s.heap.get? a) : obsPG n ck fn g = (hookP n ck fn).obs s := by
  have e : g = s.heap.get? := funext h
  rw [e] <;> rfl
section
variable {ck : PySem.W.Frag → Bool} {fn : List He.DefD} {K : PySem.W.Frag}
theorem SaysP.chk (c : SaysP ck fn K) : ck K = true := (He.ba (show (ck K && fn.all fun d => d.ok K) = true from congrArg (fun z : He.AlD => z.1) c)).1
theorem SaysP.def_ (c : SaysP ck fn K) (i : Nat) {d : He.DefD} (h : fn[i]? = some d) : ∃ fd, FunD K d.name d.qual d.params d.body d.scope (d.dvs K) (d.kws K) (He.fAd K d.at_) fd := by
  have c2 := (He.ba (show (ck K && fn.all fun d => d.ok K) = true from congrArg (fun z : He.AlD => z.1) c)).2
  have e : fn.map (fun d => He.fnW K d.at_) = fn.map He.DefD.val := congrArg (fun z : He.AlD => z.2) c
  have e2 : (fn.map fun d => He.fnW K d.at_)[i]? = (fn.map He.DefD.val)[i]? := by rw [e]
  rw [List.getElem?_map, List.getElem?_map, h] at e2
  exact He.DefD.funD (Option.some.inj e2) (List.all_eq_true.mp c2 d (List.mem_of_getElem? h))
end
/-- what an own exception class says -/
def excB (K : PySem.W.Frag) (x : Str) : Bool := (He.Fa.exc x).ok K && excCB K (He.ga K x)
/-- all facts hold -/
def factsB (fa : List He.Fa) (ex : List Str) (K : PySem.W.Frag) : Bool := (fa.all fun f => f.ok K) && ex.all fun x => excB K x
theorem factsB_fact {fa : List He.Fa} {ex : List Str} {K : PySem.W.Frag} (c : factsB fa ex K = true) (i : Nat) {f : He.Fa} (h : fa[i]? = some f) : f.ok K = true :=
  List.all_eq_true.mp (He.ba c).1 f (List.mem_of_getElem? h)
theorem factsB_exc {fa : List He.Fa} {ex : List Str} {K : PySem.W.Frag} (c : factsB fa ex K = true) (i : Nat) {f : Str} (h : ex[i]? = some f) : (He.Fa.exc f).ok K = true ∧ ExcC K (He.ga K f) :=
  let z := He.ba (List.all_eq_true.mp (He.ba c).2 f (List.mem_of_getElem? h))
  ⟨z.1, excC_of z.2⟩
/-- the law's promise, from what it gives at every script -/
theorem sp_law {K : PySem.W.Frag} {w : World} {fns : Fns} {cls : Nat → Option Addr} {f : List D → FOut} (hf : ∀ ns : List Int, ns.length ≤ 63 → ∃ o, f [.src ns] = .ok ⟨.bl true, o⟩) (H : Hp) (a : Addr) (ns : List Int) (hl : ns.length ≤ 63) (hO : Only H) (hS : SqL K H a (ns.map V.int)) :
    spF ⟨K, w, fns⟩ cls 1 f [.ref a] H (fun v _ => v = .bl true) (fun _ _ _ => False) := by
  obtain ⟨o, e⟩ := hf ns hl
  have fin : ∀ F : Fz, Trk F H → Rp ⟨K, w, fns⟩ H F (.ref a) (.src ns) → spF ⟨K, w, fns⟩ cls 1 f [.ref a] H (fun v _ => v = .bl true) (fun _ _ _ => False) := fun F tr r => by
    refine ⟨F, [.src ns], rfl, tr, .cons r .nil, ?_⟩
    rw [e]
    intro F' H' x L _ ow _ _
    cases ow with
    | frz _ r => cases r; rfl
  rcases hS with h | h
  · refine fin (fun b => b = a) (fun b hb => ?_) (.src (.inl ⟨rfl, h⟩))
    rw [hb]
    rcases h with h | ⟨o, h⟩
    · exact ⟨_, h⟩
    · exact ⟨_, h⟩
  · exact fin (fun _ => False) (fun b hb => hb.elim) (.src (.inr (.inr h)))
end PL

/-! PL18: small helps for printed derivations. -/
namespace PL
open PySem PySem.Spec PySem.Calls L2
section
variable {X : Cx} {P : Par} {x : Str}
theorem gl (h : X.env.kindOf x = some .globalImplicit) : Gl X x := h
def visB : Option NameKind → Bool
  | some .local => true
  | some .cell => true
  | some .free => true
  | _ => false
theorem vis {sc : Scope} (h : visB (sc.names.lookup x) = true) : Vis sc x := by
  unfold visB at h
  split at h
  · rename_i e; exact .inl e
  · rename_i e; exact .inr (.inl e)
  · rename_i e; exact .inr (.inr e)
  · cases h
def locB : Option NameKind → Bool
  | some .local => true
  | some .cell => true
  | _ => false
theorem loc {sc : Scope} (h : locB (sc.names.lookup x) = true) : Loc sc x := by
  unfold locB at h
  split at h
  · rename_i e; exact .inl e
  · rename_i e; exact .inr e
  · cases h
def isLoc : Option NameKind → Bool
  | some .local => true
  | _ => false
theorem hfn {X : Cx} {x : Str} (h : (X.fn x || isLoc (X.env.scope.names.lookup x)) = true) : X.fn x = true ∨ X.env.scope.names.lookup x = some .local := by
  cases e : X.fn x with
  | true => exact .inl rfl
  | false =>
    rw [e] at h
    right
    have h : isLoc (X.env.scope.names.lookup x) = true := h
    unfold isLoc at h
    split at h
    · rename_i e; exact e
    · cases h
theorem np0 {i : Nat} : i ∉ ([] : List (Nat × V)).map (·.1) := by simp
theorem np1 {i j : Nat} {v : V} (h : (i == j) = false) : i ∉ ([(j, v)] : List (Nat × V)).map (·.1) := by
  simp only [List.map_cons, List.map_nil, List.mem_singleton]
  exact fun e => by subst e; simp at h
theorem pv0 {vs : List Nat} : ∀ p ∈ ([] : List (Nat × V)), p.1 ∉ vs := fun p h => nomatch h
theorem pv1 {vs : List Nat} {j : Nat} {v : V} (h : vs.contains j = false) : ∀ p ∈ ([(j, v)] : List (Nat × V)), p.1 ∉ vs := fun p hp hm => by
  rw [List.mem_singleton.mp hp] at hm
  have : vs.contains j = true := by simpa using hm
  rw [h] at this
  cases this
theorem inB {l vs : List Nat} (h : (l.all fun i => vs.contains i) = true) : ∀ i ∈ l, i ∈ vs := fun i hi => by
  have := List.all_eq_true.mp h i hi
  simpa using this
theorem neB {i j : Nat} (h : (i == j) = false) : i ≠ j := fun e => by subst e; simp at h
theorem room65 {k : Nat} {A : Around} (r : Room k A) : A.units + 65 < cLine := by have := r.un; omega
theorem fn_bad {Pr : Program} {w : World} {K : PySem.W.Frag} {mg : Str → Option Value} {base : Heap} {k : Nat} {f : Addr} {fd : FuncData} {ps : List Str} {c : Cn} {cls : Nat → Option Addr} : FnOk Pr w K mg base (L2.CX Pr w) k f fd ps (spF c cls ps.length fun _ => .bad) :=
  ⟨fun vs H Q E ⟨F, ds, hl, _, r, _⟩ => r.length.trans hl, fun A outer s H args us vs Q E _ _ _ _ ⟨_, _, _, _, _, h⟩ => h.elim⟩
def noW : Str := Str.empty
theorem calm0 : Takes X P.calm.W := takes0
end
end PL

/-! PL19: the end of a law whose defs let errors out. -/
namespace PL
open PySem PySem.Spec PySem.Calls L2
theorem noCX {P : Program} {w : World} {H : Hp} {s : Shared} {e : Value} {s' : Shared} (z : L2.CX P w [] H s (fun _ _ _ => False) e s') : False := by
  obtain ⟨_, _, _, _, _, _, _, _, _, _, _, _, z⟩ := z
  exact z
theorem walk_w {row : PySem.W.OpenLaw} {most lvl : Nat} {view : Program} {ls : List Str} {XP : (Str → Option Value) → Heap → Prop} {YP : World → Heap → Prop} {d : DefRec} {par : Str}
    (h1 : row.most = some most) (h2 : most ≤ sizeLine) (h3 : d.params.defaults = []) (h4 : Room lvl callerA)
    (go : ∀ (w : World) (mg : Str → Option Value) (at_ : Addr) (hp : Heap), YP w hp → hp.Ns mainGlobals mg → mg d.name = some (.ref at_) →
      ∃ (K : PySem.W.Frag) (fd : FuncData) (sp : Sp), K.In hp ∧ (∀ (s : Shared) (u : Value), BindsTo s fd ⟨[u], []⟩ [(par, u)]) ∧ (∀ (H : Hp) (a : Addr) (ns : List Int), ns.length ≤ most → Only H → SqL K H a (ns.map V.int) → sp [.ref a] H (fun v _ => v = .bl true) fun _ _ _ => False) ∧
        ∀ base : Heap, K.In base → base.Ns mainGlobals mg → FnOk row.prog w K mg base (L2.CX row.prog w) lvl at_ fd [par] sp) :
    PySem.W.WalkO view ls XP YP row.row.toRowW d [] (fun f vs => PySem.call f vs) := by
  refine Att.attach_call h1 h3 fun w _ s mg _ at_ _ _ _ _ a _ ns G Y _ _ _ hmg hobj hints hlen hg => ?_
  obtain ⟨K, fd, sp, KX, hb, hsp, hF⟩ := go w mg at_ _ Y G.T.g hmg
  exact law_call KX G.T.g G.T.b G.T.builtins G.T.nolimit hg hobj hints (Nat.le_trans hlen h2) h4 hF hb (fun H hO hS => hsp H a ns hlen hO hS) fun _ _ _ z => noCX z
end PL

/-! PL20: how the terms compute. -/
namespace PL
open PySem
/-- not a step by computing -/
theorem nr {α : Sort _} {a b : α} (h : a = b) : a = b := h

section
variable {g g1 : Env} {v : Val} {d e : D} {i n : Nat} {f : Ex} {k : Val → Env → Out} {x : Exc} {b : Bool}
@[simp] theorem bindO_ok : bindO (.ok v g) k = k v g := nr rfl
@[simp] theorem bindO_exc : bindO (.exc x g) k = .exc x g := nr rfl
@[simp] theorem bindO_bad : bindO .bad k = .bad := nr rfl
@[simp] theorem eC_ap : eC d g = .ok ⟨d, 0⟩ g := nr rfl
theorem eVar_ap (h : g[i]? = some (some ⟨d, 0⟩)) : eVar i g = .ok ⟨d, 0⟩ g := by
  unfold eVar
  rw [h]
  rfl
theorem eVar_ap1 (h : g[i]? = some (some ⟨d, n + 1⟩)) : eVar i g = .ok ⟨d, 0⟩ (g.set i (some ⟨d, 0⟩)) := by
  unfold eVar
  rw [h]
  rfl
@[simp] theorem go_ex {r : Rs → Env → Out} : (Opd.ex f).go r g = bindO (f g) fun v g1 => r (fun _ => some v.d) g1 := nr rfl
theorem go_pk {r : Rs → Env → Out} (h : g[i]? = some (some v)) : (Opd.pk i).go r g = r (slot1 i) g := by
  simp only [Opd.go, h]
theorem slot1_ap (h : g[i]? = some (some ⟨d, 0⟩)) : slot1 i g = some d := by
  unfold slot1
  rw [h]
  rfl
theorem slot1_ap1 (h : g[i]? = some (some ⟨d, 1⟩)) : slot1 i g = some d := by
  unfold slot1
  rw [h]
  rfl
def finV (o : Option Val) (g : Env) : Out := match o with
  | some v => .ok v g
  | none => .bad
@[simp] theorem finV_some : finV (some v) g = .ok v g := nr rfl
@[simp] theorem finV_none : finV none g = .bad := nr rfl
@[simp] theorem e2_ap {o : D → D → Option Val} {a c : Opd} : e2 o a c g = a.go (fun ra g1 => c.go (fun rb g2 => fin2 o (ra g2) (rb g2) g2) g1) g := nr rfl
@[simp] theorem fin2_ap {o : D → D → Option Val} : fin2 o (some d) (some e) g = finV (o d e) g := by
  first
    | (simp only [fin2, finV]; done)
    | (simp only [fin2, finV]; cases o d e <;> rfl)
@[simp] theorem e1_ap {o : D → Option Val} {a : Opd} : e1 o a g = a.go (fun ra g1 => fin1 o (ra g1) g1) g := nr rfl
@[simp] theorem fin1_ap {o : D → Option Val} : fin1 o (some d) g = finV (o d) g := by
  first
    | (simp only [fin1, finV]; done)
    | (simp only [fin1, finV]; cases o d <;> rfl)
def selB (d : D) (x y : Out) : Out := match d with
  | .bl b => if b = true then x else y
  | _ => .bad
@[simp] theorem selB_bl {x y : Out} : selB (.bl b) x y = if b = true then x else y := nr rfl
@[simp] theorem e3_ap {o o' : D → D → Option Val} {a c c' : Opd} : e3 o o' a c c' g = a.go (fun ra g1 => c.go (fun rb g2 => bindO (fin2 o (ra g2) (rb g2) g2) fun v g3 => selB v.d (c'.go (fun rc g4 => fin2 o' (rb g4) (rc g4) g4) g3) (.ok ⟨.bl false, 0⟩ g3)) g1) g := by
  unfold e3 selB
  congr
  funext ra g1
  congr
  funext rb g2
  congr
  funext v g3
  cases v.d with
  | bl b => cases b <;> rfl
  | _ => rfl
@[simp] theorem eAnd_ap {fa fb : Ex} : eAnd fa fb g = bindO (fa g) fun v g1 => selB v.d (fb g1) (.ok ⟨.bl false, 0⟩ g1) := by
  unfold eAnd selB
  congr
  funext v g1
  cases v.d with
  | bl b => cases b <;> rfl
  | _ => rfl
@[simp] theorem eOr_ap {fa fb : Ex} : eOr fa fb g = bindO (fa g) fun v g1 => selB v.d (.ok ⟨.bl true, 0⟩ g1) (fb g1) := by
  unfold eOr selB
  congr
  funext v g1
  cases v.d with
  | bl b => cases b <;> rfl
  | _ => rfl
@[simp] theorem eIf_ap {fc fa fb : Ex} : eIf fc fa fb g = bindO (fc g) fun v g1 => selB v.d (fa g1) (fb g1) := by
  unfold eIf selB
  congr
  funext v g1
  cases v.d with
  | bl b => cases b <;> rfl
  | _ => rfl
def notB (d : D) (g : Env) : Out := match d with
  | .bl b => .ok ⟨.bl (!b), 0⟩ g
  | _ => .bad
@[simp] theorem notB_bl : notB (.bl b) g = .ok ⟨.bl (!b), 0⟩ g := nr rfl
@[simp] theorem eNot_ap {fa : Ex} : eNot fa g = bindO (fa g) fun v g1 => notB v.d g1 := by
  unfold eNot notB
  congr
@[simp] theorem en_ap {o : List D → Option Val} {as : List Opd} : en o as g = goN as (fun rs g1 => finN o (allS rs g1) g1) g := nr rfl
@[simp] theorem goN_nil {r : List Rs → Env → Out} : goN [] r g = r [] g := nr rfl
@[simp] theorem goN_cons {r : List Rs → Env → Out} {a : Opd} {as : List Opd} : goN (a :: as) r g = a.go (fun x g1 => goN as (fun rs g2 => r (x :: rs) g2) g1) g := nr rfl
@[simp] theorem allS_nil : allS [] g = some [] := nr rfl
theorem allS_cons {r : Rs} {rs : List Rs} {ds : List D} (h1 : r g = some d) (h2 : allS rs g = some ds) : allS (r :: rs) g = some (d :: ds) := by
  unfold allS
  rw [h1, h2]
@[simp] theorem allS_1 {r : Rs} : allS [r] g = (r g).map fun d => [d] := by
  unfold allS
  cases r g <;> rfl
@[simp] theorem allS_2 {r s : Rs} : allS [r, s] g = (r g).bind fun d => (s g).map fun e => [d, e] := by
  simp only [allS]
  cases r g <;> cases s g <;> rfl
@[simp] theorem allS_3 {r s t : Rs} : allS [r, s, t] g = (r g).bind fun d => (s g).bind fun e => (t g).map fun f => [d, e, f] := by
  simp only [allS]
  cases r g <;> cases s g <;> cases t g <;> rfl
@[simp] theorem finN_ap {o : List D → Option Val} {ds : List D} : finN o (some ds) g = finV (o ds) g := by
  first
    | (simp only [finN, finV]; done)
    | (simp only [finN, finV]; cases o ds <;> rfl)
@[simp] theorem eSl2_ap {a c c' : Opd} : eSl2 a c c' g = a.go (fun ra g1 => c.go (fun rb g2 => match rb g2 with
  | some (.int _) => c'.go (fun rc g3 => finN (oSl true true) (allS [ra, rb, rc] g3) g3) g2
  | _ => .bad) g1) g := rfl
@[simp] theorem goE_nil {r : List D → Env → Out} : goE [] r g = r [] g := nr rfl
@[simp] theorem goE_cons {r : List D → Env → Out} {fs : List Ex} : goE (f :: fs) r g = bindO (f g) fun v g1 => goE fs (fun ds g2 => r (v.d :: ds) g2) g1 := nr rfl
@[simp] theorem eTup_ap {fs : List Ex} : eTup fs g = goE fs (fun ds g => .ok ⟨.tup ds, 0⟩ g) g := nr rfl
@[simp] theorem eLst_ap {fs : List Ex} : eLst fs g = goE fs (fun ds g => .ok ⟨.lst ds, 1⟩ g) g := nr rfl
def ofF (o : FOut) (g : Env) : Out := match o with
  | .ok v => .ok v g
  | .exc x => .exc x g
  | .bad => .bad
@[simp] theorem ofF_ok : ofF (.ok v) g = .ok v g := nr rfl
@[simp] theorem ofF_exc : ofF (.exc x) g = .exc x g := nr rfl
@[simp] theorem ofF_bad : ofF .bad g = .bad := nr rfl
@[simp] theorem eCall_ap {F : List D → FOut} {fs : List Ex} : eCall F fs g = goE fs (fun ds g => ofF (F ds) g) g := by
  unfold eCall
  congr
def ofIO (o : FIO) (i : Nat) (g : Env) : Out := match o with
  | .ok v io => .ok v (g.set i (some io))
  | .exc x => .exc x (g.set i none)
  | .bad => .bad
@[simp] theorem ofIO_ok {io : Val} : ofIO (.ok v io) i g = .ok v (g.set i (some io)) := nr rfl
def callIO (F : Val → List D → FIO) (i : Nat) (ds : List D) (g : Env) : Out := match g[i]? with
  | some (some io) => ofIO (F io ds) i g
  | _ => .bad
theorem callIO_ap {F : Val → List D → FIO} {ds : List D} (h : g[i]? = some (some v)) : callIO F i ds g = ofIO (F v ds) i g := by
  unfold callIO
  rw [h]
theorem eCallIO_ap {F : Val → List D → FIO} {fs : List Ex} (h : g[i]? = some (some v)) : eCallIO F i fs g = goE fs (callIO F i) g := by
  unfold eCallIO
  rw [h]
  congr
def mutO (i : Nat) (op : List D → List D → Option (D × List D)) (as : List D) (g : Env) : Out := match g[i]? with
  | some (some ⟨.lst ds, 1⟩) => match op ds as with
    | some (r, ds') => .ok ⟨r, 0⟩ (g.set i (some ⟨.lst ds', 1⟩))
    | none => .bad
  | _ => .bad
theorem mutO_ap {op : List D → List D → Option (D × List D)} {as ds ds' : List D} {r : D} (h : g[i]? = some (some ⟨.lst ds, 1⟩)) (ho : op ds as = some (r, ds')) : mutO i op as g = .ok ⟨r, 0⟩ (g.set i (some ⟨.lst ds', 1⟩)) := by
  unfold mutO
  simp only [h, ho]
theorem eMut_ap {op : List D → List D → Option (D × List D)} {fs : List Ex} {ds : List D} (h : g[i]? = some (some ⟨.lst ds, 1⟩)) : eMut i fs op g = goE fs (mutO i op) g := by
  unfold eMut
  simp only [h]
  rfl

/-! ### sources -/
def bindI (o : IOut) (k : List D → Env → Out) : Out := match o with
  | .ok ds g => k ds g
  | .exc x g => .exc x g
  | .bad => .bad
def bindIS (o : IOut) (k : List D → Env → SOut) : SOut := match o with
  | .ok ds g => k ds g
  | .exc x g => .exc x g
  | .bad => .bad
@[simp] theorem bindI_ok {ds : List D} {k : List D → Env → Out} : bindI (.ok ds g) k = k ds g := nr rfl
@[simp] theorem bindI_exc {k : List D → Env → Out} : bindI (.exc x g) k = .exc x g := nr rfl
@[simp] theorem bindIS_ok {ds : List D} {k : List D → Env → SOut} : bindIS (.ok ds g) k = k ds g := nr rfl
@[simp] theorem bindIS_exc {k : List D → Env → SOut} : bindIS (.exc x g) k = .exc x g := nr rfl
@[simp] theorem iOf_ok {k : Val → Env → IOut} : iOf (.ok v g) k = k v g := nr rfl
@[simp] theorem iOf_exc {k : Val → Env → IOut} : iOf (.exc x g) k = .exc x g := nr rfl
def itI (d : D) (g : Env) : IOut := match itemsD d with
  | some ds => .ok ds g
  | none => .bad
@[simp] theorem itI_lst {ds : List D} : itI (.lst ds) g = .ok ds g := nr rfl
@[simp] theorem itI_tup {ds : List D} : itI (.tup ds) g = .ok ds g := nr rfl
@[simp] theorem iV_ap : iV f g = iOf (f g) fun v g1 => itI v.d g1 := by
  unfold iV itI
  congr
def rngO (d e : D) (g : Env) : IOut := match d, e with
  | .int i, .int j => if -big ≤ i ∧ i ≤ big ∧ -big ≤ j ∧ j ≤ big ∧ j - i ≤ big then .ok (rngD i (j - i).toNat) g else .bad
  | _, _ => .bad
def rng1 (d : D) (g : Env) : IOut := match d with
  | .int n => if -big ≤ n ∧ n ≤ big then .ok (rngD 0 n.toNat) g else .bad
  | _ => .bad
@[simp] theorem iR1_ap : iR1 f g = iOf (f g) fun v g1 => rng1 v.d g1 := by
  unfold iR1 rng1
  congr
theorem rng1_ap {m : Nat} (h : m ≤ big) : rng1 (.int m) g = .ok (rngD 0 m) g := by
  have hb : (big : Int) = 16777216 := rfl
  have hb2 : big = 16777216 := rfl
  unfold rng1
  simp only
  rw [if_pos (by omega), Int.toNat_natCast]
theorem iR2_ap {f2 : Ex} {i : Int} (h : f g = .ok ⟨.int i, n⟩ g1) : iR2 f f2 g = iOf (f2 g1) fun w g2 => rngO (.int i) w.d g2 := by
  unfold iR2 rngO
  rw [h]
  simp only [iOf_ok]
  congr
  funext w g2
  cases w.d <;> rfl
def okI (o : IOut) (k : List D → Env → Out) : Out := match o with
  | .ok ds g => k ds g
  | _ => .bad
@[simp] theorem okI_ok {ds : List D} {k : List D → Env → Out} : okI (.ok ds g) k = k ds g := nr rfl
@[simp] theorem eLc_ap {s : Src} {t : Tg} {c : Option Ex} {e : Ex} {dp : Bool} {vs rs : List Nat} : eLc s t c e dp vs rs g = bindI (s g) fun ds g1 => okI (lcL t c e dp vs ds (killG vs g1)) fun out g2 => .ok ⟨.lst out, lv dp + 1⟩ (restG g1 rs g2) := by
  unfold eLc bindI okI
  congr
@[simp] theorem eLc2_ap {s s1 : Src} {t t1 : Tg} {c c1 : Option Ex} {e : Ex} {dp : Bool} {vs vs1 rs : List Nat} : eLc2 s t c s1 t1 c1 e dp vs vs1 rs g = bindI (s g) fun ds g1 => okI (lcO (big / ds.length) t c s1 t1 c1 e dp vs vs1 ds (killG vs g1)) fun out g2 => .ok ⟨.lst out, lv dp + 1⟩ (restG g1 rs g2) := by
  unfold eLc2 bindI okI
  congr
end
section
variable {g g1 : Env} {v : Val} {d e : D} {i n : Nat} {f : Ex} {k : Val → Env → SOut} {x : Exc} {b : Bool}
@[simp] theorem bindE_ok : bindE (.ok v g) k = k v g := nr rfl
@[simp] theorem bindE_exc : bindE (.exc x g) k = .exc x g := nr rfl
@[simp] theorem bindE_bad : bindE .bad k = .bad := nr rfl
@[simp] theorem bindS_nx {k : Env → SOut} : bindS (.nx g) k = k g := nr rfl
@[simp] theorem bindS_ret {k : Env → SOut} : bindS (.ret v g) k = .ret v g := nr rfl
@[simp] theorem bindS_exc {k : Env → SOut} : bindS (.exc x g) k = .exc x g := nr rfl
@[simp] theorem bindS_brk {k : Env → SOut} : bindS (.brk g) k = .brk g := nr rfl
@[simp] theorem bindS_ct {k : Env → SOut} : bindS (.ct g) k = .ct g := nr rfl
@[simp] theorem bindS_ite {p : Prop} [Decidable p] {a c : SOut} {k : Env → SOut} : bindS (if p then a else c) k = if p then bindS a k else bindS c k := by split <;> rfl
@[simp] theorem seq_ap {a c : Sx} : seq a c g = bindS (a g) c := nr rfl
@[simp] theorem skip_ap : skip g = .nx g := nr rfl
@[simp] theorem sBrk_ap : sBrk g = .brk g := nr rfl
@[simp] theorem sCt_ap : sCt g = .ct g := nr rfl
@[simp] theorem sRet_ap : sRet f g = bindE (f g) .ret := nr rfl
@[simp] theorem sRetN_ap : sRetN g = .ret ⟨.non, 0⟩ g := nr rfl
@[simp] theorem sEx_ap : sEx f g = bindE (f g) fun _ g1 => .nx g1 := nr rfl
def selS (d : D) (x y : SOut) : SOut := match d with
  | .bl b => if b = true then x else y
  | _ => .bad
@[simp] theorem selS_bl {x y : SOut} : selS (.bl b) x y = if b = true then x else y := nr rfl
@[simp] theorem sIf_ap {a c : Sx} : sIf f a c g = bindE (f g) fun v g1 => selS v.d (a g1) (c g1) := by
  unfold sIf selS
  congr
  funext v g1
  cases v.d with
  | bl b => cases b <;> rfl
  | _ => rfl
@[simp] theorem sSet_ap {q : Bool} : sSet i q f g = bindE (f g) fun v g1 => .nx (g1.set i (some (keepV q v))) := nr rfl
@[simp] theorem keepV_t : keepV true v = v := nr rfl
@[simp] theorem keepV_f : keepV false v = ⟨v.d, 0⟩ := nr rfl
def nxO (o : Option Env) : SOut := match o with
  | some g => .nx g
  | none => .bad
@[simp] theorem nxO_some : nxO (some g) = .nx g := nr rfl
@[simp] theorem sAsg_ap {t : Tg} : sAsg t f g = bindE (f g) fun v g1 => nxO (t.asg v.d g1) := by
  unfold sAsg nxO
  congr
@[simp] theorem goV_nil {r : List Val → Env → SOut} : goV [] r g = r [] g := nr rfl
@[simp] theorem goV_cons {r : List Val → Env → SOut} {fs : List Ex} : goV (f :: fs) r g = bindE (f g) fun v g1 => goV fs (fun vs g2 => r (v :: vs) g2) g1 := nr rfl
@[simp] theorem sPar_ap {is : List (Nat × Bool)} {fs : List Ex} : sPar is fs g = goV fs (fun vs g => .nx (setAll is vs g)) g := nr rfl
@[simp] theorem setAll_nil {vs : List Val} : setAll [] vs g = g := nr rfl
@[simp] theorem setAll_cons {q : Bool} {is : List (Nat × Bool)} {vs : List Val} : setAll ((i, q) :: is) (v :: vs) g = setAll is vs (g.set i (some (keepV q v))) := nr rfl
@[simp] theorem sRaise_ap : sRaise x g = .exc x g := nr rfl
@[simp] theorem asg_n : (Tg.n i).asg d g = some (g.set i (some ⟨d, 0⟩)) := nr rfl
@[simp] theorem asg_t {ts : List Tg} {ds : List D} : (Tg.t ts).asg (.tup ds) g = Tg.asgs ts ds g := nr rfl
@[simp] theorem asgs_nil : Tg.asgs [] [] g = some g := nr rfl
@[simp] theorem asgs_cons {t : Tg} {ts : List Tg} {ds : List D} : Tg.asgs (t :: ts) (d :: ds) g = (t.asg d g).bind fun g1 => Tg.asgs ts ds g1 := by
  simp only [Tg.asgs]
  cases t.asg d g <;> rfl
@[simp] theorem sFor_ap {s : Src} {t : Tg} {a : Sx} {ks : List Nat} : sFor s t a ks g = bindIS (s g) fun ds g1 => forL t a ks ds (killG ks g1) := by
  unfold sFor bindIS
  congr
@[simp] theorem killG_nil : killG [] g = g := nr rfl
@[simp] theorem killG_cons {ks : List Nat} : killG (i :: ks) g = killG ks (g.set i none) := nr rfl
@[simp] theorem forL_nil {t : Tg} {a : Sx} {ks : List Nat} : forL t a ks [] g = .nx g := nr rfl
def stepL (o : SOut) (ks : List Nat) (k : Env → SOut) : SOut := match o with
  | .nx g => k (killG ks g)
  | .ct g => k (killG ks g)
  | .brk g => .nx (killG ks g)
  | r => r
@[simp] theorem stepL_nx {ks : List Nat} {k : Env → SOut} : stepL (.nx g) ks k = k (killG ks g) := nr rfl
@[simp] theorem stepL_ct {ks : List Nat} {k : Env → SOut} : stepL (.ct g) ks k = k (killG ks g) := nr rfl
@[simp] theorem stepL_brk {ks : List Nat} {k : Env → SOut} : stepL (.brk g) ks k = .nx (killG ks g) := nr rfl
@[simp] theorem stepL_ret {ks : List Nat} {k : Env → SOut} : stepL (.ret v g) ks k = .ret v g := nr rfl
@[simp] theorem stepL_exc {ks : List Nat} {k : Env → SOut} : stepL (.exc x g) ks k = .exc x g := nr rfl
theorem forL_cons {t : Tg} {a : Sx} {ks : List Nat} {ds : List D} (h : t.asg d g = some g1) : forL t a ks (d :: ds) g = stepL (a g1) ks (forL t a ks ds) := by
  rw [forL, h]
  simp only
  unfold stepL
  cases a g1 <;> rfl
/-! ### defs -/
def fnO (o : SOut) : FOut := match o with
  | .ret v _ => .ok v
  | .nx _ => .ok ⟨.non, 0⟩
  | .exc x _ => .exc x
  | _ => .bad
@[simp] theorem fnO_ret : fnO (.ret v g) = .ok v := nr rfl
@[simp] theorem fnO_nx : fnO (.nx g) = .ok ⟨.non, 0⟩ := nr rfl
@[simp] theorem fnO_exc : fnO (.exc x g) = .exc x := nr rfl
theorem fnO_ite {p : Prop} [Decidable p] {a c : SOut} : fnO (if p then a else c) = if p then fnO a else fnO c := by split <;> rfl
theorem fnS_ap {m : Nat} {a : Sx} {ds : List D} (h : ds.length = m) : fnS n m a ds = fnO (a (ds.map (fun d => some ⟨d, 0⟩) ++ List.replicate (n - m) none)) := by
  unfold fnS
  rw [if_pos h]
  unfold fnO
  congr
/-! ### operations -/
@[simp] theorem a1 {i j : Int} : dAdd (.int i) (.int j) = vI (i + j) := nr rfl
@[simp] theorem a2 {i j : Int} : dSub (.int i) (.int j) = vI (i - j) := nr rfl
@[simp] theorem a3 {i j : Int} : dLt (.int i) (.int j) = vB (decide (i < j)) := nr rfl
@[simp] theorem a4 {i j : Int} : dLe (.int i) (.int j) = vB (decide (i ≤ j)) := nr rfl
@[simp] theorem a5 {i j : Int} : dGt (.int i) (.int j) = vB (decide (j < i)) := nr rfl
@[simp] theorem a6 {i j : Int} : dGe (.int i) (.int j) = vB (decide (j ≤ i)) := nr rfl
@[simp] theorem a7 {i j : Int} : dEq (.int i) (.int j) = vB (i == j) := nr rfl
@[simp] theorem a8 {i j : Int} : dNe (.int i) (.int j) = vB (!(i == j)) := nr rfl
@[simp] theorem a9 {i : Int} : dNeg (.int i) = vI (-i) := nr rfl
@[simp] theorem a10 {i j : Int} : dAddI (.int i) (.int j) = vI (i + j) := nr rfl
@[simp] theorem vI_ap {i : Int} : finV (vI i) g = .ok ⟨.int i, 0⟩ g := nr rfl
@[simp] theorem vB_ap : finV (vB b) g = .ok ⟨.bl b, 0⟩ g := nr rfl
@[simp] theorem b1 {ds : List D} : oLen [.lst ds] = vI ds.length := nr rfl
@[simp] theorem b2 {ds : List D} : oLen [.tup ds] = vI ds.length := nr rfl
@[simp] theorem b3 {ds : List D} : oTuple [.lst ds] = some ⟨.tup ds, 0⟩ := nr rfl
@[simp] theorem b4 {ds : List D} : oTuple [.tup ds] = some ⟨.tup ds, 0⟩ := nr rfl
@[simp] theorem b5 {ds : List D} : oList [.lst ds] = some ⟨.lst ds, 1⟩ := nr rfl
@[simp] theorem b6 {ds : List D} : oList [.tup ds] = some ⟨.lst ds, 1⟩ := nr rfl
@[simp] theorem b7 {ns : List Int} : oList [.src ns] = some ⟨.lst (ns.map .int), 1⟩ := nr rfl
@[simp] theorem b8 {i : Int} : oInt [.int i] = vI i := nr rfl
@[simp] theorem b9 : oInt [.bl b] = vI (if b = true then 1 else 0) := nr rfl
@[simp] theorem i_NoneType_int : dIsi "int" .non = vB false := nr rfl
@[simp] theorem i_NoneType_bool : dIsi "bool" .non = vB false := nr rfl
@[simp] theorem i_NoneType_str : dIsi "str" .non = vB false := nr rfl
@[simp] theorem i_NoneType_tuple : dIsi "tuple" .non = vB false := nr rfl
@[simp] theorem i_NoneType_list : dIsi "list" .non = vB false := nr rfl
@[simp] theorem i_bool_int {b : Bool} : dIsi "int" (.bl b) = vB true := nr rfl
@[simp] theorem i_bool_bool {b : Bool} : dIsi "bool" (.bl b) = vB true := nr rfl
@[simp] theorem i_bool_str {b : Bool} : dIsi "str" (.bl b) = vB false := nr rfl
@[simp] theorem i_bool_tuple {b : Bool} : dIsi "tuple" (.bl b) = vB false := nr rfl
@[simp] theorem i_bool_list {b : Bool} : dIsi "list" (.bl b) = vB false := nr rfl
@[simp] theorem i_int_int {i : Int} : dIsi "int" (.int i) = vB true := nr rfl
@[simp] theorem i_int_bool {i : Int} : dIsi "bool" (.int i) = vB false := nr rfl
@[simp] theorem i_int_str {i : Int} : dIsi "str" (.int i) = vB false := nr rfl
@[simp] theorem i_int_tuple {i : Int} : dIsi "tuple" (.int i) = vB false := nr rfl
@[simp] theorem i_int_list {i : Int} : dIsi "list" (.int i) = vB false := nr rfl
@[simp] theorem i_str_int {s : Str} : dIsi "int" (.str s) = vB false := nr rfl
@[simp] theorem i_str_bool {s : Str} : dIsi "bool" (.str s) = vB false := nr rfl
@[simp] theorem i_str_str {s : Str} : dIsi "str" (.str s) = vB true := nr rfl
@[simp] theorem i_str_tuple {s : Str} : dIsi "tuple" (.str s) = vB false := nr rfl
@[simp] theorem i_str_list {s : Str} : dIsi "list" (.str s) = vB false := nr rfl
@[simp] theorem i_tuple_int {ds : List D} : dIsi "int" (.tup ds) = vB false := nr rfl
@[simp] theorem i_tuple_bool {ds : List D} : dIsi "bool" (.tup ds) = vB false := nr rfl
@[simp] theorem i_tuple_str {ds : List D} : dIsi "str" (.tup ds) = vB false := nr rfl
@[simp] theorem i_tuple_tuple {ds : List D} : dIsi "tuple" (.tup ds) = vB true := nr rfl
@[simp] theorem i_tuple_list {ds : List D} : dIsi "list" (.tup ds) = vB false := nr rfl
@[simp] theorem i_list_int {ds : List D} : dIsi "int" (.lst ds) = vB false := nr rfl
@[simp] theorem i_list_bool {ds : List D} : dIsi "bool" (.lst ds) = vB false := nr rfl
@[simp] theorem i_list_str {ds : List D} : dIsi "str" (.lst ds) = vB false := nr rfl
@[simp] theorem i_list_tuple {ds : List D} : dIsi "tuple" (.lst ds) = vB false := nr rfl
@[simp] theorem i_list_list {ds : List D} : dIsi "list" (.lst ds) = vB true := nr rfl
@[simp] theorem q1 {a c : Bool} : dEq (.bl a) (.bl c) = vB (a == c) := nr rfl
@[simp] theorem q2 {a c : Bool} : dNe (.bl a) (.bl c) = vB (!(a == c)) := nr rfl
@[simp] theorem q3 : dIs .non .non = vB true := nr rfl
@[simp] theorem q4 {i : Int} : dIs (.int i) .non = vB false := nr rfl
@[simp] theorem q5 {a : Bool} : dIs (.bl a) .non = vB false := nr rfl
@[simp] theorem q6 {a : Str} : dIs (.str a) .non = vB false := nr rfl
@[simp] theorem q7 {ds : List D} : dIs (.tup ds) .non = vB false := nr rfl
@[simp] theorem q8 {ds : List D} : dIs (.lst ds) .non = vB false := nr rfl
@[simp] theorem q13 : dIsNot .non .non = vB false := nr rfl
@[simp] theorem q14 {i : Int} : dIsNot (.int i) .non = vB true := nr rfl
@[simp] theorem q15 {a : Bool} : dIsNot (.bl a) .non = vB true := nr rfl
@[simp] theorem q16 {a : Str} : dIsNot (.str a) .non = vB true := nr rfl
@[simp] theorem q17 {ds : List D} : dIsNot (.tup ds) .non = vB true := nr rfl
@[simp] theorem q18 {ds : List D} : dIsNot (.lst ds) .non = vB true := nr rfl
@[simp] theorem q20 {a : Bool} {c : Bool} : dIs (.bl a) (.bl c) = vB (a == c) := nr rfl
@[simp] theorem q21 {a : Bool} {c : Bool} : dIsNot (.bl a) (.bl c) = vB (!(a == c)) := nr rfl
end
end PL

/-! PL21: loops and comprehensions as plain functions; the law's own drawing and comparing. -/
namespace PL
open PySem

section
variable {g : Env} {t t1 : Tg} {c c1 : Option Ex} {e : Ex} {vs vs1 ks : List Nat} {s1 : Src} {a : Sx}
def tst (o : Out) : Option (Bool × Env) := match o with
  | .ok v g1 => match v.d with
    | .bl b => some (b, g1)
    | _ => none
  | _ => none
@[simp] theorem testO_none : testO none g = some (true, g) := nr rfl
@[simp] theorem testO_some {f : Ex} : testO (some f) g = tst (f g) := by
  unfold testO tst
  rfl
@[simp] theorem tst_ok {b : Bool} {n : Nat} : tst (.ok ⟨.bl b, n⟩ g) = some (b, g) := nr rfl
theorem tst_ite {p : Prop} [Decidable p] {x y : Out} : tst (if p then x else y) = if p then tst x else tst y := by split <;> rfl
def got (o : Out) (vs : List Nat) : Option (Option D × Env) := match o with
  | .ok v g => some (some v.d, killG vs g)
  | _ => none
@[simp] theorem got_ok {v : Val} : got (.ok v g) vs = some (some v.d, killG vs g) := nr rfl
/-- one item of a comprehension -/
def lc1 (t : Tg) (c : Option Ex) (e : Ex) (vs : List Nat) (d : D) (g : Env) : Option (Option D × Env) :=
  (t.asg d g).bind fun g1 => (testO c g1).bind fun p => if p.1 = true then got (e p.2) vs else some (none, killG vs p.2)
theorem lcL_noexc {x : Exc} {g' : Env} : ∀ (ds : List D) (g : Env), lcL t c e false vs ds g ≠ .exc x g' := by
  intro ds
  induction ds with
  | nil => intro g h; cases h
  | cons d ds ih =>
    intro g h
    rw [lcL] at h
    split at h
    · cases h
    · split at h
      · cases h
      · exact ih _ h
      · split at h
        · split at h
          · cases h
          · split at h <;> cases h
        · cases h
theorem lcL_step {d : D} {ds : List D} {r : Option D} {g1 : Env} (h : lc1 t c e vs d g = some (r, g1)) : lcL t c e false vs (d :: ds) g = match lcL t c e false vs ds g1 with
    | .ok out g2 => .ok (r.toList ++ out) g2
    | _ => .bad := by
  unfold lc1 at h
  rw [lcL]
  cases ea : t.asg d g with
  | none => rw [ea] at h; cases h
  | some g2 =>
    rw [ea] at h
    simp only [Option.bind_some] at h ⊢
    cases et : testO c g2 with
    | none => rw [et] at h; cases h
    | some p =>
      obtain ⟨b, g3⟩ := p
      rw [et] at h
      simp only [Option.bind_some] at h ⊢
      cases b with
      | false =>
        simp only [Bool.false_eq_true, if_false, Option.some.injEq, Prod.mk.injEq] at h
        obtain ⟨rfl, rfl⟩ := h
        simp only [Option.toList_none, List.nil_append]
        cases q : lcL t c e false vs ds (killG vs g3) with
        | ok o g => rfl
        | bad => rfl
        | exc x g => exact absurd q (lcL_noexc _ _)
      | true =>
        simp only [if_true] at h
        unfold got at h
        cases ee : e g3 with
        | ok v g4 =>
          rw [ee] at h
          simp only [Option.some.injEq, Prod.mk.injEq] at h
          obtain ⟨rfl, rfl⟩ := h
          simp only [ee, Option.toList_some, List.cons_append, List.nil_append]
          cases lcL t c e false vs ds (killG vs g4) <;> rfl
        | exc x g4 => rw [ee] at h; cases h
        | bad => rw [ee] at h; cases h
theorem lcL_pure {h : D → Option D} : ∀ {ds : List D}, (∀ d ∈ ds, lc1 t c e vs d g = some (h d, g)) → lcL t c e false vs ds g = .ok (ds.filterMap h) g
  | [], _ => rfl
  | d :: ds, H => by
    rw [lcL_step (H d List.mem_cons_self), lcL_pure fun d hd => H d (List.mem_cons_of_mem _ hd)]
    simp only [List.filterMap_cons]
    cases h d <;> rfl
theorem lcL_map {h : D → D} {ds : List D} (H : ∀ d ∈ ds, lc1 t c e vs d g = some (some (h d), g)) : lcL t c e false vs ds g = .ok (ds.map h) g := by
  rw [lcL_pure (h := fun d => some (h d)) H]
  simp
/-- one item of the outer part -/
def lo1 (M : Nat) (t : Tg) (c : Option Ex) (s1 : Src) (t1 : Tg) (c1 : Option Ex) (e : Ex) (vs vs1 : List Nat) (d : D) (g : Env) : Option (List D × Env) :=
  (t.asg d g).bind fun g1 => (testO c g1).bind fun p => if p.1 = true then (match s1 p.2 with
    | .ok ds1 g3 => if ds1.length ≤ M then (match lcL t1 c1 e false vs1 ds1 (killG vs1 g3) with
      | .ok o1 g4 => some (o1, killG vs g4)
      | _ => none) else none
    | _ => none) else some ([], killG vs p.2)
def lo3 (o : IOut) (vs : List Nat) : Option (List D × Env) := match o with
  | .ok o1 g4 => some (o1, killG vs g4)
  | _ => none
def lo2 (M : Nat) (o : IOut) (t1 : Tg) (c1 : Option Ex) (e : Ex) (vs vs1 : List Nat) : Option (List D × Env) := match o with
  | .ok ds1 g3 => if ds1.length ≤ M then lo3 (lcL t1 c1 e false vs1 ds1 (killG vs1 g3)) vs else none
  | _ => none
theorem lo3_ok {o1 : List D} : lo3 (.ok o1 g) vs = some (o1, killG vs g) := nr rfl
theorem lo2_ok {M : Nat} {ds1 : List D} (h : ds1.length ≤ M) : lo2 M (.ok ds1 g) t1 c1 e vs vs1 = lo3 (lcL t1 c1 e false vs1 ds1 (killG vs1 g)) vs := if_pos h
theorem lo1_ap {M : Nat} {d : D} : lo1 M t c s1 t1 c1 e vs vs1 d g = (t.asg d g).bind fun g1 => (testO c g1).bind fun p => if p.1 = true then lo2 M (s1 p.2) t1 c1 e vs vs1 else some ([], killG vs p.2) := rfl
theorem lcO_pure {M : Nat} {h : D → List D} : ∀ {ds : List D}, (∀ d ∈ ds, lo1 M t c s1 t1 c1 e vs vs1 d g = some (h d, g)) → lcO M t c s1 t1 c1 e false vs vs1 ds g = .ok (ds.flatMap h) g
  | [], _ => rfl
  | d :: ds, H => by
    have hd := H d List.mem_cons_self
    have ih := lcO_pure fun d hd => H d (List.mem_cons_of_mem _ hd)
    unfold lo1 at hd
    rw [lcO, List.flatMap_cons]
    cases ea : t.asg d g with
    | none => rw [ea] at hd; cases hd
    | some g2 =>
      rw [ea] at hd
      simp only [Option.bind_some] at hd ⊢
      cases et : testO c g2 with
      | none => rw [et] at hd; cases hd
      | some p =>
        obtain ⟨b, g3⟩ := p
        rw [et] at hd
        simp only [Option.bind_some] at hd ⊢
        cases b with
        | false =>
          simp only [Bool.false_eq_true, if_false, Option.some.injEq, Prod.mk.injEq] at hd
          obtain ⟨e1, e2⟩ := hd
          simp only
          rw [e2, ih, ← e1]
          rfl
        | true =>
          simp only [if_true] at hd
          cases es : s1 g3 with
          | ok ds1 g4 =>
            rw [es] at hd
            simp only [es] at hd ⊢
            split at hd
            · rename_i hl
              rw [if_pos hl]
              cases el : lcL t1 c1 e false vs1 ds1 (killG vs1 g4) with
              | ok o1 g5 =>
                rw [el] at hd
                simp only [Option.some.injEq, Prod.mk.injEq] at hd
                obtain ⟨e1, e2⟩ := hd
                simp only [e2, ih, e1]
              | exc x g5 => rw [el] at hd; cases hd
              | bad => rw [el] at hd; cases hd
            · cases hd
          | exc x g4 => rw [es] at hd; cases hd
          | bad => rw [es] at hd; cases hd
/-- one turn of a for -/
def fo1 (t : Tg) (a : Sx) (ks : List Nat) (d : D) (g : Env) : SOut := match t.asg d g with
  | none => .bad
  | some g1 => match a g1 with
    | .nx g2 => .nx (killG ks g2)
    | .ct g2 => .nx (killG ks g2)
    | .brk g2 => .brk (killG ks g2)
    | r => r
def endO (o : SOut) (ks : List Nat) : SOut := match o with
  | .nx g2 => .nx (killG ks g2)
  | .ct g2 => .nx (killG ks g2)
  | .brk g2 => .brk (killG ks g2)
  | r => r
@[simp] theorem endO_nx : endO (.nx g) ks = .nx (killG ks g) := nr rfl
@[simp] theorem endO_ct : endO (.ct g) ks = .nx (killG ks g) := nr rfl
@[simp] theorem endO_brk : endO (.brk g) ks = .brk (killG ks g) := nr rfl
@[simp] theorem endO_ret {v : Val} : endO (.ret v g) ks = .ret v g := nr rfl
theorem endO_ite {p : Prop} [Decidable p] {x y : SOut} : endO (if p then x else y) ks = if p then endO x ks else endO y ks := by split <;> rfl
def atO (o : Option Env) (a : Sx) (ks : List Nat) : SOut := match o with
  | none => .bad
  | some g1 => endO (a g1) ks
@[simp] theorem atO_some : atO (some g) a ks = endO (a g) ks := nr rfl
theorem fo1_ap {d : D} : fo1 t a ks d g = atO (t.asg d g) a ks := by
  unfold fo1 atO endO
  cases t.asg d g with
  | none => rfl
  | some g1 => rfl
theorem forL_nx {d : D} {ds : List D} {g2 : Env} (h : fo1 t a ks d g = .nx g2) : forL t a ks (d :: ds) g = forL t a ks ds g2 := by
  unfold fo1 at h
  rw [forL]
  cases ea : t.asg d g with
  | none => rw [ea] at h; cases h
  | some g1 =>
    rw [ea] at h
    simp only at h ⊢
    cases eb : a g1 with
    | nx g3 => rw [eb] at h; cases h; rfl
    | ct g3 => rw [eb] at h; cases h; rfl
    | brk g3 => rw [eb] at h; cases h
    | ret v g3 => rw [eb] at h; cases h
    | exc x g3 => rw [eb] at h; cases h
    | bad => rw [eb] at h; cases h
theorem forL_brk {d : D} {ds : List D} {g2 : Env} (h : fo1 t a ks d g = .brk g2) : forL t a ks (d :: ds) g = .nx g2 := by
  unfold fo1 at h
  rw [forL]
  cases ea : t.asg d g with
  | none => rw [ea] at h; cases h
  | some g1 =>
    rw [ea] at h
    simp only at h ⊢
    cases eb : a g1 with
    | brk g3 => rw [eb] at h; cases h; rfl
    | nx g3 => rw [eb] at h; cases h
    | ct g3 => rw [eb] at h; cases h
    | ret v g3 => rw [eb] at h; cases h
    | exc x g3 => rw [eb] at h; cases h
    | bad => rw [eb] at h; cases h
theorem forL_ret {d : D} {ds : List D} {v : Val} {g2 : Env} (h : fo1 t a ks d g = .ret v g2) : forL t a ks (d :: ds) g = .ret v g2 := by
  unfold fo1 at h
  rw [forL]
  cases ea : t.asg d g with
  | none => rw [ea] at h; cases h
  | some g1 =>
    rw [ea] at h
    simp only at h ⊢
    cases eb : a g1 with
    | ret v g3 => rw [eb] at h; cases h; rfl
    | nx g3 => rw [eb] at h; cases h
    | ct g3 => rw [eb] at h; cases h
    | brk g3 => rw [eb] at h; cases h
    | exc x g3 => rw [eb] at h; cases h
    | bad => rw [eb] at h; cases h
/-- a for as a fold -/
theorem forL_fold {S : Type} (enc : S → Env) (f : S → D → S) (Iv : S → Prop) : ∀ {ds : List D} {s : S}, Iv s → (∀ s, Iv s → ∀ d ∈ ds, fo1 t a ks d (enc s) = .nx (enc (f s d)) ∧ Iv (f s d)) → forL t a ks ds (enc s) = .nx (enc (ds.foldl f s)) ∧ Iv (ds.foldl f s)
  | [], s, h, _ => ⟨rfl, h⟩
  | d :: ds, s, h, H => by
    obtain ⟨h1, h2⟩ := H s h d List.mem_cons_self
    rw [forL_nx h1, List.foldl_cons]
    exact forL_fold enc f Iv h2 fun s hs d hd => H s hs d (List.mem_cons_of_mem _ hd)
end

theorem fnS0 {n : Nat} {a : Sx} : fnS n 0 a [] = fnO (a (List.replicate n none)) := by
  rw [fnS_ap (n := n) (m := 0) (ds := []) rfl]
  rfl
theorem fnS1 {n : Nat} {a : Sx} {d : D} : fnS n 1 a [d] = fnO (a (some ⟨d, 0⟩ :: List.replicate (n - 1) none)) := by
  rw [fnS_ap (n := n) (m := 1) (ds := [d]) rfl]
  rfl
theorem fnS2 {n : Nat} {a : Sx} {d e : D} : fnS n 2 a [d, e] = fnO (a (some ⟨d, 0⟩ :: some ⟨e, 0⟩ :: List.replicate (n - 2) none)) := by
  rw [fnS_ap (n := n) (m := 2) (ds := [d, e]) rfl]
  rfl
theorem fnS3 {n : Nat} {a : Sx} {d e f : D} : fnS n 3 a [d, e, f] = fnO (a (some ⟨d, 0⟩ :: some ⟨e, 0⟩ :: some ⟨f, 0⟩ :: List.replicate (n - 3) none)) := by
  rw [fnS_ap (n := n) (m := 3) (ds := [d, e, f]) rfl]
  rfl
theorem fnS4 {n : Nat} {a : Sx} {d e f h : D} : fnS n 4 a [d, e, f, h] = fnO (a (some ⟨d, 0⟩ :: some ⟨e, 0⟩ :: some ⟨f, 0⟩ :: some ⟨h, 0⟩ :: List.replicate (n - 4) none)) := by
  rw [fnS_ap (n := n) (m := 4) (ds := [d, e, f, h]) rfl]
  rfl

/-! ### _law_same -/
def bSame (rec : List D → FOut) : Sx := seq (sIf (eOr (e1 (dIsi "tuple") (.pk 1)) (e1 (dIsi "list") (.pk 1))) (seq (sIf (eOr (e2 dNe (.ex (e1 (dIsi "tuple") (.pk 1))) (.ex (e1 (dIsi "tuple") (.pk 0)))) (e2 dNe (.ex (e1 (dIsi "list") (.pk 1))) (.ex (e1 (dIsi "list") (.pk 0))))) (sRet (eC (.bl false))) (skip)) (seq (sIf (e2 dNe (.ex (en oLen [.pk 0])) (.ex (en oLen [.pk 1]))) (sRet (eC (.bl false))) (skip)) (sRet (e2 dEq (.ex (en oLen [.ex (eLc (iR1 (en oLen [.pk 1])) (.n 2) (some (eNot (eCall rec [e2 dIx (.pk 0) (.pk 2), e2 dIx (.pk 1) (.pk 2)]))) (eVar 2) false [2] [])])) (.ex (eC (.int 0))))))) (skip)) (seq (sIf (e1 (dIsi "str") (.pk 1)) (sRet (eAnd (e1 (dIsi "str") (.pk 0)) (e2 dEq (.pk 0) (.pk 1)))) (skip)) (seq (sIf (e2 dIs (.pk 1) (.ex (eC .non))) (sRet (e2 dIs (.pk 0) (.ex (eC .non)))) (skip)) (seq (sIf (eOr (e1 (dIsi "bool") (.pk 1)) (e1 (dIsi "bool") (.pk 0))) (sRet (eAnd (e1 (dIsi "bool") (.pk 1)) (eAnd (e1 (dIsi "bool") (.pk 0)) (e2 dEq (.pk 0) (.pk 1))))) (skip)) (sRet (eAnd (e1 (dIsi "int") (.pk 0)) (eAnd (e1 (dIsi "int") (.pk 1)) (e2 dEq (.pk 0) (.pk 1))))))))
def sSame : Nat → List D → FOut
  | 0 => fnS 3 2 (bSame fun _ => .bad)
  | k + 1 => fnS 3 2 (bSame (sSame k))
/-! data that may be compared: n levels, texts and lengths as they should be -/
mutual
def smD : Nat → D → Bool
  | _, .non => true
  | _, .bl _ => true
  | _, .int _ => true
  | _, .str x => PyData.strOk x
  | n + 1, .tup xs => decide (xs.length ≤ big) && smDs n xs
  | n + 1, .lst xs => decide (xs.length ≤ big) && smDs n xs
  | _, _ => false
def smDs : Nat → List D → Bool
  | _, [] => true
  | n, x :: xs => smD n x && smDs n xs
end
theorem smDs_mem {n : Nat} : ∀ {ds : List D}, smDs n ds = true → ∀ d ∈ ds, smD n d = true
  | [], _, _, h => nomatch h
  | x :: xs, h, d, hd => by
    unfold smDs at h
    obtain ⟨h1, h2⟩ := Bool.and_eq_true_iff.mp h
    rcases List.mem_cons.mp hd with rfl | hd
    · exact h1
    · exact smDs_mem h2 d hd
theorem atI_nat {α : Type} {xs : List α} {i : Nat} (h : i < xs.length) : L2.atI xs (i : Int) = some xs[i] := by
  unfold L2.atI L2.ixN
  rw [if_pos (by omega), if_pos (by omega)]
  simp [h]
theorem rngD_mem {n : Nat} {d : D} (h : d ∈ rngD 0 n) : ∃ i : Nat, i < n ∧ d = .int i := by
  unfold rngD at h
  obtain ⟨i, hi, rfl⟩ := List.mem_map.mp h
  exact ⟨i, List.mem_range.mp hi, by simp⟩
theorem same_seq (rec : List D → FOut) (w : List D → D) (hw : w = D.tup ∨ w = D.lst) (ds : List D) (hl : ds.length ≤ big) (hr : ∀ d ∈ ds, rec [d, d] = .ok ⟨.bl true, 0⟩) : fnS 3 2 (bSame rec) [w ds, w ds] = .ok ⟨.bl true, 0⟩ := by
  have key : ∀ wd : D, (∀ i : Nat, (h : i < ds.length) → dIx wd (.int i) = some ⟨ds[i], 0⟩) → lcL (.n 2) (some (eNot (eCall rec [e2 dIx (.pk 0) (.pk 2), e2 dIx (.pk 1) (.pk 2)]))) (eVar 2) false [2] (rngD 0 ds.length) [some ⟨wd, 0⟩, some ⟨wd, 0⟩, none] = .ok [] [some ⟨wd, 0⟩, some ⟨wd, 0⟩, none] := by
    intro wd hwd
    rw [lcL_pure (h := fun _ => none)]
    · simp
    · intro d hd
      obtain ⟨i, hi, rfl⟩ := rngD_mem hd
      have h1 := hwd i hi
      have h2 := hr ds[i] (List.getElem_mem hi)
      simp [lc1, go_pk, slot1_ap, h1, h2]
  rw [fnS2]
  rcases hw with rfl | rfl
  · have k := key (.tup ds) fun i h => by simp [dIx, atI_nat h]
    simp [bSame, go_pk, slot1_ap, rng1_ap hl, k]
  · have k := key (.lst ds) fun i h => by simp [dIx, atI_nat h]
    simp [bSame, go_pk, slot1_ap, rng1_ap hl, k]
theorem eqD_refl (x : Str) : eqD (.str x) (.str x) = true := by simp [eqD]
end PL

/-! PL22: _law_same of equals; _law_draw. -/
namespace PL
open PySem
theorem q_str {a : Str} (h : PyData.strOk a = true) : dEq (.str a) (.str a) = vB true := by
  unfold dEq
  simp [okD, h, eqD]
theorem same_refl : ∀ (k : Nat) (d : D), smD k d = true → sSame k [d, d] = .ok ⟨.bl true, 0⟩ := by
  have scal : ∀ (rec : List D → FOut) (d : D), (match d with
      | .non => True
      | .bl _ => True
      | .int _ => True
      | .str x => PyData.strOk x = true
      | _ => False) → fnS 3 2 (bSame rec) [d, d] = .ok ⟨.bl true, 0⟩ := by
    intro rec d hd
    rw [fnS2]
    cases d with
    | non => simp [bSame, go_pk, slot1_ap]
    | bl b => simp [bSame, go_pk, slot1_ap]
    | int i => simp [bSame, go_pk, slot1_ap]
    | str s => simp [bSame, go_pk, slot1_ap, q_str hd]
    | _ => exact hd.elim
  intro k
  induction k with
  | zero =>
    intro d h
    refine scal _ d ?_
    cases d <;> simp_all [smD]
  | succ k ih =>
    intro d h
    show fnS 3 2 (bSame (sSame k)) [d, d] = _
    cases d with
    | tup ds =>
      obtain ⟨h1, h2⟩ := Bool.and_eq_true_iff.mp (by simpa only [smD] using h)
      exact same_seq (sSame k) .tup (.inl rfl) ds (of_decide_eq_true h1) fun d hd => ih d (smDs_mem h2 d hd)
    | lst ds =>
      obtain ⟨h1, h2⟩ := Bool.and_eq_true_iff.mp (by simpa only [smD] using h)
      exact same_seq (sSame k) .lst (.inr rfl) ds (of_decide_eq_true h1) fun d hd => ih d (smDs_mem h2 d hd)
    | non => exact scal _ _ trivial
    | bl b => exact scal _ _ trivial
    | int i => exact scal _ _ trivial
    | str s => exact scal _ _ (by simpa only [smD] using h)
    | dct _ => cases h
    | fn _ => cases h
    | src _ => cases h

/-! ### _law_draw -/
def bDraw : Sx := seq (sIf (eAnd (e2 dEq (.ex (e2 dIx (.pk 0) (.ex (eC (.int 2))))) (.ex (eC (.int 0)))) (e2 dLt (.ex (e2 dIx (.pk 0) (.ex (eC (.int 1))))) (.ex (en oLen [.ex (e2 dIx (.pk 0) (.ex (eC (.int 0))))])))) (seq (sSet 2 false (e2 dIx (.ex (e2 dIx (.pk 0) (.ex (eC (.int 0))))) (.ex (e2 dIx (.pk 0) (.ex (eC (.int 1))))))) (seq (sSetI 0 (eC (.int 1)) (e2 dAdd (.ex (e2 dIx (.pk 0) (.ex (eC (.int 1))))) (.ex (eC (.int 1))))) (seq (sIf (e2 dGe (.pk 2) (.ex (e2 dPow (.ex (eC (.int 10))) (.ex (eC (.int 18)))))) (sSetI 0 (eC (.int 2)) (eVar 2)) (skip)) (sSetI 0 (eC (.int 3)) (e2 dMod (.ex (en oInt [.ex (e2 dAdd (.ex (e2 dAdd (.ex (e2 dMul (.ex (e2 dIx (.pk 0) (.ex (eC (.int 3))))) (.ex (eC (.int 48271))))) (.pk 2))) (.ex (eC (.int 13))))])) (.ex (eC (.int 2147483647)))))))) (skip)) (seq (sIf (e2 dGt (.ex (e2 dIx (.pk 0) (.ex (eC (.int 2))))) (.ex (eC (.int 0)))) (seq (sSet 3 false (e2 dMod (.ex (en oInt [.ex (e2 dIx (.pk 0) (.ex (eC (.int 2))))])) (.pk 1))) (seq (sSetI 0 (eC (.int 2)) (e2 dDiv (.ex (e2 dIx (.pk 0) (.ex (eC (.int 2))))) (.pk 1))) (sRet (eVar 3)))) (skip)) (seq (sSetI 0 (eC (.int 3)) (e2 dMod (.ex (en oInt [.ex (e2 dAdd (.ex (e2 dMul (.ex (e2 dIx (.pk 0) (.ex (eC (.int 3))))) (.ex (eC (.int 69621))))) (.ex (eC (.int 7))))])) (.ex (eC (.int 2147483629))))) (sRet (e2 dMod (.ex (en oInt [.ex (e2 dDiv (.ex (e2 dIx (.pk 0) (.ex (eC (.int 3))))) (.ex (eC (.int 11))))])) (.pk 1)))))
def drawD (ns : List Int) (i c s : Int) : Val := ⟨.lst [.lst (ns.map .int), .int i, .int c, .int s], 1⟩
/-- the state of the drawing -/
def Dw (v : Val) : Prop := ∃ ns i c s, v = drawD ns i c s ∧ 0 ≤ i ∧ 0 ≤ c ∧ 0 ≤ s ∧ s < 2147483647

section
variable {g g1 : Env} {i : Nat} {fk fv : Ex} {d k : D} {ds ds' : List D} {a b c e x : D}
def setH (i : Nat) (k d : D) (g : Env) : SOut := match g[i]? with
  | some (some ⟨.lst ds, 1⟩) => match setL ds k d with
    | some ds' => .nx (g.set i (some ⟨.lst ds', 1⟩))
    | none => .bad
  | _ => .bad
def setG (i : Nat) (fk : Ex) (d : D) (g : Env) : SOut := match g[i]? with
  | some (some ⟨.lst _, 1⟩) => bindE (fk g) fun k g2 => setH i k.d d g2
  | _ => .bad
@[simp] theorem sSetI_ap : sSetI i fk fv g = bindE (fv g) fun v g1 => setG i fk v.d g1 := nr rfl
theorem setG_ap (h : g[i]? = some (some ⟨.lst ds, 1⟩)) : setG i fk d g = bindE (fk g) fun k g2 => setH i k.d d g2 := by
  unfold setG
  simp only [h]
theorem setH_ap (h : g[i]? = some (some ⟨.lst ds, 1⟩)) : setH i k d g = (match setL ds k d with
    | some ds' => .nx (g.set i (some ⟨.lst ds', 1⟩))
    | none => .bad) := by
  unfold setH
  simp only [h]
theorem setL4_1 : setL [a, b, c, e] (.int 1) x = some [a, x, c, e] := rfl
theorem setL4_2 : setL [a, b, c, e] (.int 2) x = some [a, b, x, e] := rfl
theorem setL4_3 : setL [a, b, c, e] (.int 3) x = some [a, b, c, x] := rfl
theorem ix4_0 : dIx (.lst [a, b, c, e]) (.int 0) = some ⟨a, 0⟩ := rfl
theorem ix4_1 : dIx (.lst [a, b, c, e]) (.int 1) = some ⟨b, 0⟩ := rfl
theorem ix4_2 : dIx (.lst [a, b, c, e]) (.int 2) = some ⟨c, 0⟩ := rfl
theorem ix4_3 : dIx (.lst [a, b, c, e]) (.int 3) = some ⟨e, 0⟩ := rfl
theorem dMod_ap {i j : Int} (h : 0 < j) : dMod (.int i) (.int j) = vI (i % j) := by
  unfold dMod
  simp only
  rw [if_pos h]
theorem dMul_ap {i j : Int} (h : i.natAbs.log2 + j.natAbs.log2 < 1000000) : dMul (.int i) (.int j) = vI (i * j) := by
  unfold dMul
  simp only
  rw [if_pos h]
theorem log2_sm {i : Int} {n : Nat} (h : i.natAbs < 2 ^ n) : i.natAbs.log2 ≤ n := by
  by_cases z : i.natAbs = 0
  · rw [z]; simp
  · exact Nat.le_of_lt ((Nat.log2_lt z).mpr h)
theorem dMul_sm {i j : Int} (h1 : i.natAbs < 2 ^ 400000) (h2 : j.natAbs < 2 ^ 400000) : dMul (.int i) (.int j) = vI (i * j) := by
  have a := log2_sm h1
  have b := log2_sm h2
  exact dMul_ap (by omega)
theorem dDiv_ap {i j : Int} (h : 0 < j) (h2 : j < 1000000) : dDiv (.int i) (.int j) = vI (i / j) := by
  have : j.natAbs.log2 ≤ 20 := log2_sm (by omega)
  unfold dDiv
  simp only
  rw [if_pos ⟨h, by omega⟩]
end
def ioO (o : SOut) : FIO := match o with
  | .ret v g => (match g[0]? with
    | some (some io') => .ok v io'
    | _ => .bad)
  | .nx g => (match g[0]? with
    | some (some io') => .ok ⟨.non, 0⟩ io'
    | _ => .bad)
  | .exc x _ => .exc x
  | _ => .bad
@[simp] theorem ioO_ret {v io : Val} {g : Env} : ioO (.ret v (some io :: g)) = .ok v io := nr rfl
@[simp] theorem ioO_nx {io : Val} {g : Env} : ioO (.nx (some io :: g)) = .ok ⟨.non, 0⟩ io := nr rfl
theorem fnIO1 {n : Nat} {b : Sx} {io : Val} {d : D} : fnIO n 1 b io [d] = ioO (b (some io :: some ⟨d, 0⟩ :: List.replicate (n - 2) none)) := rfl
theorem fnIO0 {n : Nat} {b : Sx} {io : Val} : fnIO n 0 b io [] = ioO (b (some io :: List.replicate (n - 1) none)) := rfl
theorem p400 : (2147483648 : Nat) ≤ 2 ^ 400000 := by
  have : (2147483648 : Nat) = 2 ^ 31 := by decide
  rw [this]
  exact Nat.pow_le_pow_right (by decide) (by omega)
theorem big400 {i : Nat} (h : i < 2147483648) : i < 2 ^ 400000 := Nat.lt_of_lt_of_le h p400
/-- the latter part of a draw -/
def bLate : Sx := seq (sIf (e2 dGt (.ex (e2 dIx (.pk 0) (.ex (eC (.int 2))))) (.ex (eC (.int 0)))) (seq (sSet 3 false (e2 dMod (.ex (en oInt [.ex (e2 dIx (.pk 0) (.ex (eC (.int 2))))])) (.pk 1))) (seq (sSetI 0 (eC (.int 2)) (e2 dDiv (.ex (e2 dIx (.pk 0) (.ex (eC (.int 2))))) (.pk 1))) (sRet (eVar 3)))) (skip)) (seq (sSetI 0 (eC (.int 3)) (e2 dMod (.ex (en oInt [.ex (e2 dAdd (.ex (e2 dMul (.ex (e2 dIx (.pk 0) (.ex (eC (.int 3))))) (.ex (eC (.int 69621))))) (.ex (eC (.int 7))))])) (.ex (eC (.int 2147483629))))) (sRet (e2 dMod (.ex (en oInt [.ex (e2 dDiv (.ex (e2 dIx (.pk 0) (.ex (eC (.int 3))))) (.ex (eC (.int 11))))])) (.pk 1))))
theorem late_ok {ns : List Int} {lim : Int} (h0 : 0 < lim) (h1 : lim < 1000000) (i c s : Int) (x y : Option Val) (hi : 0 ≤ i) (hc : 0 ≤ c) (hs : 0 ≤ s) (hs2 : s < 2147483647) :
    ∃ (r : Int) (v' : Val), ioO (bLate [some (drawD ns i c s), some ⟨.int lim, 0⟩, x, y]) = .ok ⟨.int r, 0⟩ v' ∧ Dw v' ∧ 0 ≤ r ∧ r < lim := by
  have m1 : dMul (.int s) (.int 69621) = vI (s * 69621) := dMul_sm (big400 (by omega)) (big400 (by decide))
  by_cases hp : 0 < c
  · refine ⟨c % lim, drawD ns i (c / lim) s, ?_, ⟨ns, i, c / lim, s, rfl, hi, Int.ediv_nonneg hc (by omega), hs, hs2⟩, Int.emod_nonneg _ (by omega), Int.emod_lt_of_pos _ h0⟩
    simp [bLate, drawD, go_pk, slot1_ap, slot1_ap1, ix4_2, hp, dMod_ap h0, dDiv_ap h0 h1, setG_ap, setH_ap, setL4_2, eVar_ap]
  · refine ⟨(s * 69621 + 7) % 2147483629 / 11 % lim, drawD ns i c ((s * 69621 + 7) % 2147483629), ?_, ⟨ns, i, c, _, rfl, hi, hc, Int.emod_nonneg _ (by decide), by omega⟩, Int.emod_nonneg _ (by omega), Int.emod_lt_of_pos _ h0⟩
    simp [bLate, drawD, go_pk, slot1_ap, slot1_ap1, ix4_2, ix4_3, hp, dMod_ap h0, dMod_ap (show (0 : Int) < 2147483629 by decide), dDiv_ap (show (0 : Int) < 11 by decide) (show (11 : Int) < 1000000 by decide), setG_ap, setH_ap, setL4_3, m1]
theorem dPow_18 : dPow (.int 10) (.int 18) = vI 1000000000000000000 := by rfl
/-- a draw -/
theorem draw_ok {v : Val} (h : Dw v) {lim : Int} (h0 : 0 < lim) (h1 : lim < 1000000) : ∃ (r : Int) (v' : Val), fnIO 4 1 bDraw v [.int lim] = .ok ⟨.int r, 0⟩ v' ∧ Dw v' ∧ 0 ≤ r ∧ r < lim := by
  obtain ⟨ns, i, c, s, rfl, hi, hc, hs, hs2⟩ := h
  rw [fnIO1]
  by_cases hq : c = 0 ∧ i < ns.length
  · obtain ⟨rfl, hl⟩ := hq
    obtain ⟨j, rfl⟩ := Int.eq_ofNat_of_zero_le hi
    have hj : j < ns.length := by omega
    have ex : dIx (.lst (ns.map .int)) (.int (j : Int)) = some ⟨.int ns[j], 0⟩ := by
      unfold dIx
      simp only [atI_nat (xs := ns.map D.int) (i := j) (by simpa using hj)]
      simp
    have m1 : dMul (.int s) (.int 48271) = vI (s * 48271) := dMul_sm (big400 (by omega)) (big400 (by decide))
    by_cases hb : 1000000000000000000 ≤ ns[j]
    · obtain ⟨r, v', e, q⟩ := late_ok (ns := ns) h0 h1 ((j : Int) + 1) ns[j] ((s * 48271 + ns[j] + 13) % 2147483647) (some ⟨.int ns[j], 0⟩) none (by omega) (by omega) (Int.emod_nonneg _ (by decide)) (Int.emod_lt_of_pos _ (by decide))
      refine ⟨r, v', ?_, q⟩
      rw [← e]
      simp [bDraw, bLate, drawD, go_pk, slot1_ap, slot1_ap1, ix4_0, ix4_1, ix4_2, ix4_3, hl, ex, hb, dMod_ap (show (0 : Int) < 2147483647 by decide), setG_ap, setH_ap, setL4_1, setL4_2, setL4_3, m1, eVar_ap, dPow_18]
    · obtain ⟨r, v', e, q⟩ := late_ok (ns := ns) h0 h1 ((j : Int) + 1) 0 ((s * 48271 + ns[j] + 13) % 2147483647) (some ⟨.int ns[j], 0⟩) none (by omega) (by omega) (Int.emod_nonneg _ (by decide)) (Int.emod_lt_of_pos _ (by decide))
      refine ⟨r, v', ?_, q⟩
      rw [← e]
      simp [bDraw, bLate, drawD, go_pk, slot1_ap, slot1_ap1, ix4_0, ix4_1, ix4_2, ix4_3, hl, ex, hb, dMod_ap (show (0 : Int) < 2147483647 by decide), setG_ap, setH_ap, setL4_1, setL4_2, setL4_3, m1, eVar_ap, dPow_18]
  · obtain ⟨r, v', e, q⟩ := late_ok (ns := ns) h0 h1 i c s none none hi hc hs hs2
    refine ⟨r, v', ?_, q⟩
    rw [← e]
    by_cases hc0 : c = 0
    · have hl : ¬ i < ns.length := fun z => hq ⟨hc0, z⟩
      simp [bDraw, bLate, drawD, go_pk, slot1_ap, slot1_ap1, ix4_0, ix4_1, ix4_2, ix4_3, hc0, hl]
    · simp [bDraw, bLate, drawD, go_pk, slot1_ap, slot1_ap1, ix4_0, ix4_1, ix4_2, ix4_3, hc0]
def bDraws : Sx := sRet (eLst [en oList [.pk 0], eC (.int 0), eC (.int 0), eC (.int 1)])
theorem draws_ok {ns : List Int} : ∃ v, fnS 1 1 bDraws [.src ns] = .ok v ∧ Dw v := by
  refine ⟨drawD ns 0 0 1, ?_, ns, 0, 0, 1, rfl, by decide, by decide, by decide, by decide⟩
  rw [fnS1]
  simp [bDraws, drawD, go_pk, slot1_ap]
end PL

/-! PM1: rows of numbers as data; comprehensions and loops over lists. -/
namespace PL
open PySem
def rowD (r : List Int) : D := .tup (r.map .int)
def intsD (r : List Int) : D := .lst (r.map .int)
theorem big_val : big = 16777216 := rfl
@[simp] theorem lv_f : lv false = 0 := rfl
@[simp] theorem restG_nil {g g1 : Env} : restG g [] g1 = g1 := rfl
theorem rowD_nil : D.tup [] = rowD [] := rfl
theorem allI_map : ∀ r : List Int, allI (r.map .int) = some r
  | [] => rfl
  | a :: r => by simp [allI, allI_map r]
theorem allB_map {α : Type} (l : List α) (f : α → Bool) : allB (l.map fun a => .bl (f a)) = some (l.map f) := by
  induction l with
  | nil => rfl
  | cons a l ih => simp [allB, ih]
theorem okD_int (n : Nat) (i : Int) : okD n (.int i) = true := by cases n <;> rfl
theorem okDs_ints : ∀ (n : Nat) (r : List Int), okDs n (r.map .int) = true
  | _, [] => by cases ‹Nat› <;> rfl
  | n, a :: r => by rw [List.map_cons, okDs, okDs_ints n r, okD_int]; rfl
theorem okD_row (n : Nat) (r : List Int) : okD (n + 1) (rowD r) = true := by unfold rowD; rw [okD, okDs_ints]
theorem okDs_map {α : Type} (n : Nat) (f : α → D) : ∀ l : List α, (∀ a ∈ l, okD n (f a) = true) → okDs n (l.map f) = true
  | [], _ => by cases n <;> rfl
  | a :: l, h => by rw [List.map_cons, okDs, h a List.mem_cons_self, okDs_map n f l fun a ha => h a (List.mem_cons_of_mem _ ha)]; rfl
theorem eqDs_ints : ∀ r s : List Int, eqDs (r.map .int) (s.map .int) = (r == s)
  | [], [] => rfl
  | [], _ :: _ => rfl
  | _ :: _, [] => rfl
  | a :: r, b :: s => by
    rw [List.map_cons, List.map_cons, eqDs, eqDs_ints r s]
    simp [eqD, List.cons_beq_cons]
theorem eqD_row (r s : List Int) : eqD (rowD r) (rowD s) = (r == s) := by unfold rowD; rw [eqD, eqDs_ints]
theorem dEq_row (r s : List Int) : dEq (rowD r) (rowD s) = vB (r == s) := by unfold dEq; rw [okD_row, okD_row, eqD_row]; rfl
theorem dNe_row (r s : List Int) : dNe (rowD r) (rowD s) = vB (!(r == s)) := by unfold dNe; rw [okD_row, okD_row, eqD_row]; rfl
theorem memD_map {α : Type} [BEq α] (f : α → D) (x : α) : ∀ l : List α, (∀ a ∈ l, eqD (f a) (f x) = (a == x)) → memD (f x) (l.map f) = l.any fun a => a == x
  | [], _ => rfl
  | a :: l, h => by rw [List.map_cons, memD, h a List.mem_cons_self, memD_map f x l fun a ha => h a (List.mem_cons_of_mem _ ha), List.any_cons]
theorem any_contains {α : Type} [BEq α] [LawfulBEq α] (x : α) (l : List α) : (l.any fun a => a == x) = l.contains x := by
  rw [Bool.eq_iff_iff]
  simp
theorem dIn_ints (i : Int) (l : List Int) : dIn (.int i) (rowD l) = vB (l.contains i) := by
  unfold rowD dIn
  simp only [itemsOf]
  rw [okD_int, okDs_ints, memD_map D.int i l fun a _ => rfl, any_contains]
  rfl
theorem dIn_rows (x : List Int) (l : List (List Int)) : dIn (rowD x) (.lst (l.map rowD)) = vB (l.contains x) := by
  unfold dIn
  simp only [itemsOf]
  rw [okD_row, okDs_map 63 rowD l fun a _ => okD_row _ _, memD_map rowD x l fun a _ => eqD_row _ _, any_contains]
  rfl
theorem dIn2 (i a b : Int) : dIn (.int i) (.tup [.int a, .int b]) = vB (a == i || b == i) := by
  show (if (true && (true && (true && true))) = true then vB ((a == i) || ((b == i) || false)) else none) = _
  simp
theorem sum_row (r : List Int) : oSum [rowD r] = vI r.sum := by unfold rowD oSum; simp only [allI_map]; rw [sumI_eq]
theorem sum_ints (r : List Int) : oSum [.lst (r.map .int)] = vI r.sum := by unfold oSum; simp only [allI_map]; rw [sumI_eq]
theorem any_bl {α : Type} (l : List α) (f : α → Bool) : oAny [.lst (l.map fun a => .bl (f a))] = vB (l.any f) := by
  unfold oAny; simp only [allB_map]; rw [List.any_map]; rfl
theorem all_bl {α : Type} (l : List α) (f : α → Bool) : oAll [.lst (l.map fun a => .bl (f a))] = vB (l.all f) := by
  unfold oAll; simp only [allB_map]; rw [List.all_map]; rfl
theorem dIx_tup {ds : List D} {i : Nat} {d : D} (h : ds[i]? = some d) : dIx (.tup ds) (.int (i : Int)) = some ⟨d, 0⟩ := by
  obtain ⟨hi, e⟩ := List.getElem?_eq_some_iff.mp h
  unfold dIx
  simp only [atI_nat hi]
  rw [e]
theorem dIx_lst {ds : List D} {i : Nat} {d : D} (h : ds[i]? = some d) : dIx (.lst ds) (.int (i : Int)) = some ⟨d, 0⟩ := by
  obtain ⟨hi, e⟩ := List.getElem?_eq_some_iff.mp h
  unfold dIx
  simp only [atI_nat hi]
  rw [e]
def rAt (r : List Int) (i : Nat) : Int := r.getD i 0
theorem ix_row (r : List Int) (i : Nat) (h : i < r.length) : dIx (rowD r) (.int (i : Int)) = some ⟨.int (rAt r i), 0⟩ :=
  dIx_tup (by simp [rAt, h])
theorem ix_ints (r : List Int) (i : Nat) (h : i < r.length) : dIx (intsD r) (.int (i : Int)) = some ⟨.int (rAt r i), 0⟩ :=
  dIx_lst (by simp [rAt, h])
theorem len_row (r : List Int) : oLen [rowD r] = vI r.length := by simp [rowD]
theorem isi_tup_row (r : List Int) : dIsi "tuple" (rowD r) = vB true := rfl
theorem isi_lst_row (r : List Int) : dIsi "list" (rowD r) = vB false := rfl
theorem isi_int_row (r : List Int) : dIsi "int" (rowD r) = vB false := rfl
theorem cat_row (r s : List Int) (h : r.length + s.length ≤ big) : dAdd (rowD r) (rowD s) = some ⟨rowD (r ++ s), 0⟩ := by
  unfold rowD dAdd
  simp only
  rw [if_pos (by simpa using h), List.map_append]
theorem cut_hi (ds : List D) (i : Nat) (h : i ≤ ds.length) : cutD ds none (some (i : Int)) = ds.take i := by
  unfold cutD
  rw [HT.sIx_none, HT.sIx_nat, Nat.min_eq_left h]
  simp
theorem cut_lo (ds : List D) (i : Nat) (h : i ≤ ds.length) : cutD ds (some (i : Int)) none = ds.drop i := by
  unfold cutD
  rw [HT.sIx_none, HT.sIx_nat, Nat.min_eq_left h, List.take_of_length_le (by simp)]
/-! ranges -/
def natsD (n : Nat) : List D := (List.range n).map fun (i : Nat) => .int (i : Int)
theorem rngD_nats (n : Nat) : rngD 0 n = (List.range n).map fun (i : Nat) => .int (i : Int) := by
  unfold rngD
  simp
theorem rng1_nat {g : Env} {n : Nat} (h : n ≤ big) : rng1 (.int (n : Int)) g = .ok ((List.range n).map fun (i : Nat) => .int (i : Int)) g := by
  rw [rng1_ap h, rngD_nats]
theorem rng1_int {g : Env} {i : Int} {n : Nat} (e : i = n) (h : n ≤ big) : rng1 (.int i) g = .ok ((List.range n).map fun (i : Nat) => .int (i : Int)) g := by
  subst e; exact rng1_nat h
theorem rng1_neg {g : Env} {i : Int} (h : i ≤ 0) (h2 : -1000000 ≤ i) : rng1 (.int i) g = .ok [] g := by
  unfold rng1
  have hb : (big : Int) = 16777216 := rfl
  simp only
  rw [if_pos (by omega), show i.toNat = 0 by omega]
  rfl
/-! comprehensions over what a list stands for -/
section
variable {α : Type} {t : Tg} {c : Option Ex} {e : Ex} {vs : List Nat} {g : Env}
theorem lcL_fil (enc : α → D) {p : α → Bool} {h : α → D} : ∀ {l : List α}, (∀ a ∈ l, lc1 t c e vs (enc a) g = some (if p a = true then some (h a) else none, g)) → lcL t c e false vs (l.map enc) g = .ok ((l.filter p).map h) g
  | [], _ => rfl
  | a :: l, H => by
    rw [List.map_cons, lcL_step (H a List.mem_cons_self), lcL_fil enc fun a ha => H a (List.mem_cons_of_mem _ ha), List.filter_cons]
    by_cases q : p a = true <;> simp [q]
theorem lcL_mapE (enc : α → D) {h : α → D} {l : List α} (H : ∀ a ∈ l, lc1 t c e vs (enc a) g = some (some (h a), g)) : lcL t c e false vs (l.map enc) g = .ok (l.map h) g := by
  rw [lcL_fil enc (p := fun _ => true) (h := h) (fun a ha => by rw [H a ha]; rfl), List.filter_eq_self.mpr fun _ _ => rfl]
theorem lcO_mapE {M : Nat} {s1 : Src} {t1 : Tg} {c1 : Option Ex} {vs1 : List Nat} (enc : α → D) {h : α → List D} : ∀ {l : List α}, (∀ a ∈ l, lo1 M t c s1 t1 c1 e vs vs1 (enc a) g = some (h a, g)) → lcO M t c s1 t1 c1 e false vs vs1 (l.map enc) g = .ok (l.flatMap h) g
  | [], _ => rfl
  | a :: l, H => by
    have := lcO_pure (M := M) (t := t) (c := c) (s1 := s1) (t1 := t1) (c1 := c1) (e := e) (vs := vs) (vs1 := vs1) (g := g) (h := fun d => ((lo1 M t c s1 t1 c1 e vs vs1 d g).getD ([], g)).1) (ds := (a :: l).map enc) fun d hd => by
      obtain ⟨b, hb, rfl⟩ := List.mem_map.mp hd
      rw [H b hb]
      rfl
    rw [this, List.flatMap_map]
    congr 1
    have key : ∀ l' : List α, (∀ b ∈ l', b ∈ a :: l) → List.flatMap (fun b => ((lo1 M t c s1 t1 c1 e vs vs1 (enc b) g).getD ([], g)).1) l' = List.flatMap h l' := by
      intro l'
      induction l' with
      | nil => intro _; rfl
      | cons b l' ih =>
        intro hb
        rw [List.flatMap_cons, List.flatMap_cons, ih fun x hx => hb x (List.mem_cons_of_mem _ hx), H b (hb b List.mem_cons_self)]
        rfl
    exact key _ fun _ h => h
end
/-! loops -/
section
variable {α S : Type} {t : Tg} {a : Sx} {ks : List Nat}
theorem forL_st (enc : α → D) (env : S → Env) (f : S → α → S) (Iv : S → Prop) : ∀ {l : List α} {s : S}, Iv s → (∀ s, Iv s → ∀ x ∈ l, fo1 t a ks (enc x) (env s) = .nx (env (f s x)) ∧ Iv (f s x)) → forL t a ks (l.map enc) (env s) = .nx (env (l.foldl f s)) ∧ Iv (l.foldl f s)
  | [], s, h, _ => ⟨rfl, h⟩
  | x :: l, s, h, H => by
    obtain ⟨h1, h2⟩ := H s h x List.mem_cons_self
    rw [List.map_cons, forL_nx h1, List.foldl_cons]
    exact forL_st enc env f Iv h2 fun s hs x hx => H s hs x (List.mem_cons_of_mem _ hx)
theorem forL_stA (enc : α → D) (env : S → Env) (f : S → α → S) {l : List α} {s : S} (H : ∀ s, ∀ x ∈ l, fo1 t a ks (enc x) (env s) = .nx (env (f s x))) : forL t a ks (l.map enc) (env s) = .nx (env (l.foldl f s)) :=
  (forL_st enc env f (fun _ => True) trivial fun s _ x hx => ⟨H s x hx, trivial⟩).1
theorem forL_same (enc : α → D) {g : Env} : ∀ {l : List α}, (∀ x ∈ l, fo1 t a ks (enc x) g = .nx g) → forL t a ks (l.map enc) g = .nx g
  | [], _ => rfl
  | x :: l, H => by
    rw [List.map_cons, forL_nx (H x List.mem_cons_self)]
    exact forL_same enc fun x hx => H x (List.mem_cons_of_mem _ hx)
/-- a loop that goes on, or ends with an answer -/
theorem forL_find (enc : α → D) {g : Env} (p : α → Bool) (v : Val) : ∀ {l : List α}, (∀ x ∈ l, (p x = false ∧ fo1 t a ks (enc x) g = .nx g) ∨ (p x = true ∧ ∃ g', fo1 t a ks (enc x) g = .ret v g')) → (l.any p = false ∧ forL t a ks (l.map enc) g = .nx g) ∨ (l.any p = true ∧ ∃ g', forL t a ks (l.map enc) g = .ret v g')
  | [], _ => .inl ⟨rfl, rfl⟩
  | x :: l, H => by
    rcases H x List.mem_cons_self with ⟨h1, h2⟩ | ⟨h1, g', h2⟩
    · rw [List.map_cons, forL_nx h2, List.any_cons, h1, Bool.false_or]
      exact forL_find enc p v fun x hx => H x (List.mem_cons_of_mem _ hx)
    · exact .inr ⟨by rw [List.any_cons, h1]; rfl, g', by rw [List.map_cons, forL_ret h2]⟩
end
theorem forL_range {t : Tg} {a : Sx} {ks : List Nat} (env : Nat → Env) : ∀ (m : Nat), (∀ i < m, fo1 t a ks (.int (i : Int)) (env i) = .nx (env (i + 1))) → forL t a ks ((List.range m).map fun (i : Nat) => .int (i : Int)) (env 0) = .nx (env m) := by
  have key : ∀ (m k : Nat), (∀ i < m, fo1 t a ks (.int ((k + i : Nat) : Int)) (env (k + i)) = .nx (env (k + i + 1))) → forL t a ks ((List.range' k m).map fun (i : Nat) => D.int (i : Int)) (env k) = .nx (env (k + m)) := by
    intro m
    induction m with
    | zero => intro k h; rfl
    | succ m ih =>
      intro k h
      rw [List.range'_succ, List.map_cons]
      have h0 := h 0 (by omega)
      rw [forL_nx (by simpa using h0)]
      have q := ih (k + 1) fun i hi => by
        have := h (i + 1) (by omega)
        rw [show k + 1 + i = k + (i + 1) by omega]
        exact this
      rw [show k + 1 + m = k + (m + 1) by omega] at q
      exact q
  intro m h
  have := key m 0 fun i hi => by rw [Nat.zero_add]; exact h i hi
  rw [List.range_eq_range']
  rwa [Nat.zero_add] at this
/-! draws, sameness, refusals -/
/-- a draw below lim -/
theorem dr {v : Val} (hv : Dw v) {lim : Int} (h0 : 0 < lim) (h1 : lim < 1000000) : ∃ (r : Nat) (v' : Val), fnIO 4 1 bDraw v [.int lim] = .ok ⟨.int (r : Int), 0⟩ v' ∧ Dw v' ∧ (r : Int) < lim := by
  obtain ⟨r, v', e, hd, h2, h3⟩ := draw_ok hv h0 h1
  obtain ⟨m, rfl⟩ := Int.eq_ofNat_of_zero_le h2
  exact ⟨m, v', e, hd, h3⟩
theorem smDs_ints : ∀ (n : Nat) (r : List Int), smDs n (r.map .int) = true
  | _, [] => by cases ‹Nat› <;> rfl
  | n, a :: r => by
    rw [List.map_cons, smDs, smDs_ints n r]
    cases n <;> rfl
theorem smD_int (n : Nat) (i : Int) : smD n (.int i) = true := by cases n <;> rfl
theorem smD_row (n : Nat) (r : List Int) (h : r.length ≤ big) : smD (n + 1) (rowD r) = true := by
  unfold rowD
  rw [smD, smDs_ints]
  simpa using h
theorem smDs_map {α : Type} (n : Nat) (f : α → D) : ∀ l : List α, (∀ a ∈ l, smD n (f a) = true) → smDs n (l.map f) = true
  | [], _ => by cases n <;> rfl
  | a :: l, h => by rw [List.map_cons, smDs, h a List.mem_cons_self, smDs_map n f l fun a ha => h a (List.mem_cons_of_mem _ ha)]; rfl
theorem ok_puz : PyData.strOk "puzzle" = true := by decide +kernel
theorem ne_puz : dNe (.str "puzzle") (.str "puzzle") = vB false := by
  unfold dNe
  simp [okD, eqD, ok_puz]
end PL
namespace PL
open PySem
/-! what a closed call gives, looked at by the kernel -/
def unRow : D → Option (List Int)
  | .tup ds => allI ds
  | _ => none
def unRows : List D → Option (List (List Int))
  | [] => some []
  | d :: ds => match unRow d, unRows ds with
    | some r, some rs => some (r :: rs)
    | _, _ => none
theorem unRow_eq {d : D} {r : List Int} (h : unRow d = some r) : d = rowD r := by
  unfold unRow at h
  split at h
  · rw [allI_eq h]; rfl
  · cases h
theorem unRows_eq : ∀ {ds : List D} {rs : List (List Int)}, unRows ds = some rs → ds = rs.map rowD
  | [], rs, h => by cases h; rfl
  | d :: ds, rs, h => by
    unfold unRows at h
    split at h
    · rename_i r rs' h1 h2
      cases h
      rw [unRow_eq h1, unRows_eq h2]
      rfl
    · cases h
def unTup : FOut → Option (List (List Int))
  | .ok ⟨.tup ds, 0⟩ => unRows ds
  | _ => none
theorem unTup_eq {o : FOut} {rs : List (List Int)} (h : unTup o = some rs) : o = .ok ⟨.tup (rs.map rowD), 0⟩ := by
  unfold unTup at h
  split at h
  · rw [unRows_eq h]
  · cases h
def unInt : FOut → Option Int
  | .ok ⟨.int i, 0⟩ => some i
  | _ => none
theorem unInt_eq {o : FOut} {i : Int} (h : unInt o = some i) : o = .ok ⟨.int i, 0⟩ := by
  unfold unInt at h
  split at h
  · cases h; rfl
  · cases h
section
variable {g : Env}
@[simp] theorem iZipS_ap {fa fb : Ex} : iZipS fa fb g = iOf (fa g) fun v g1 => iOf (fb g1) fun w g2 => zipI v.d w.d g2 := nr rfl
theorem zipL_map {α β : Type} (f : α → D) (h : β → D) : ∀ (a : List α) (b : List β), zipL (a.map f) (b.map h) = (a.zip b).map fun p => .tup [f p.1, h p.2]
  | [], _ => rfl
  | _ :: _, [] => rfl
  | x :: a, y :: b => by rw [List.map_cons, List.map_cons, zipL, zipL_map f h a b]; rfl
theorem zipI_rows (a b : List Int) : zipI (rowD a) (rowD b) g = .ok ((a.zip b).map fun p => .tup [.int p.1, .int p.2]) g := by
  show IOut.ok (zipL (a.map .int) (b.map .int)) g = _
  rw [zipL_map]
end
end PL

/-! PM2: dicts as lists of pairs. -/
namespace PL
open PySem
section
variable {α β : Type} [BEq α] [LawfulBEq α]
def aget (l : List (α × β)) (k : α) : Option β := (l.find? fun p => p.1 == k).map (·.2)
def aput (l : List (α × β)) (k : α) (v : β) : List (α × β) := if (l.find? fun p => p.1 == k).isSome then l.map (fun p => if (p.1 == k) = true then (p.1, v) else p) else l ++ [(k, v)]
theorem find_mapv (k j : α) (v : β) : ∀ l : List (α × β), ((l.map fun p => if (p.1 == k) = true then (p.1, v) else p).find? fun p => p.1 == j).map (·.2) = if (k == j) = true ∧ (l.find? fun p => p.1 == k).isSome then some v else (l.find? fun p => p.1 == j).map (·.2)
  | [] => by simp
  | p :: l => by
    have ih := find_mapv k j v l
    rw [List.map_cons, List.find?_cons, List.find?_cons, List.find?_cons]
    by_cases h1 : p.1 = k
    · have e1 : (p.1 == k) = true := by simpa using h1
      simp only [e1, if_true]
      by_cases h2 : p.1 = j
      · have e2 : (p.1 == j) = true := by simpa using h2
        have e3 : (k == j) = true := by rw [← h1]; exact e2
        simp [e2, e3]
      · have e2 : (p.1 == j) = false := by simpa using h2
        have e3 : (k == j) = false := by rw [← h1]; exact e2
        rw [e3] at ih
        simpa [e2, e3] using ih
    · have e1 : (p.1 == k) = false := by simpa using h1
      simp only [e1, Bool.false_eq_true, if_false]
      by_cases h2 : p.1 = j
      · have e2 : (p.1 == j) = true := by simpa using h2
        have e3 : (k == j) = false := by
          rw [← h2]
          simpa using fun h => h1 h.symm
        simp [e2, e3]
      · have e2 : (p.1 == j) = false := by simpa using h2
        simpa [e2] using ih
theorem aget_aput (l : List (α × β)) (k j : α) (v : β) : aget (aput l k v) j = if (k == j) = true then some v else aget l j := by
  unfold aget aput
  by_cases h : (l.find? fun p => p.1 == k).isSome = true
  · rw [if_pos h, find_mapv]
    by_cases e : (k == j) = true
    · rw [if_pos ⟨e, h⟩, if_pos e]
    · rw [if_neg fun z => e z.1, if_neg e]
  · rw [if_neg h, List.find?_append]
    have hn : (l.find? fun p => p.1 == k) = none := by
      cases q : l.find? fun p => p.1 == k with
      | none => rfl
      | some z => rw [q] at h; exact absurd rfl h
    by_cases e : k = j
    · subst e
      rw [hn, if_pos (beq_self_eq_true k)]
      simp
    · have e3 : (k == j) = false := by simpa using e
      rw [e3, if_neg (by decide), List.find?_cons, e3]
      simp
theorem aput_len (l : List (α × β)) (k : α) (v : β) : (aput l k v).length ≤ l.length + 1 := by
  unfold aput
  split
  · simp
  · simp
def encL (enc : α → D) (val : β → D) (l : List (α × β)) : List (D × D) := l.map fun p => (enc p.1, val p.2)
variable {enc : α → D} {val : β → D} {l : List (α × β)} {k : α} {v : β}
theorem find_enc (h : ∀ a b, eqD (enc a) (enc b) = (a == b)) : ∀ l : List (α × β), (encL enc val l).find? (fun p => eqD p.1 (enc k)) = (l.find? fun p => p.1 == k).map fun p => (enc p.1, val p.2)
  | [] => rfl
  | p :: l => by
    show ((enc p.1, val p.2) :: encL enc val l).find? _ = _
    rw [List.find?_cons, List.find?_cons, h, find_enc h l]
    cases p.1 == k <;> rfl
theorem getD_enc (h : ∀ a b, eqD (enc a) (enc b) = (a == b)) : getD (encL enc val l) (enc k) = (aget l k).map val := by
  unfold getD aget
  rw [find_enc h]
  cases l.find? fun p => p.1 == k <;> rfl
theorem putD_enc (h : ∀ a b, eqD (enc a) (enc b) = (a == b)) : putD (encL enc val l) (enc k) (val v) = encL enc val (aput l k v) := by
  unfold putD aput
  rw [find_enc h, Option.isSome_map]
  split
  · unfold encL
    rw [List.map_map, List.map_map]
    refine List.map_congr_left fun p _ => ?_
    simp only [Function.comp_def, h]
    split <;> rfl
  · unfold encL
    rw [List.map_append]
    rfl
theorem fit_flat (h : ∀ a, flatK (enc a) = true) : fitK (encL enc val l) (enc k) = true := by
  cases l with
  | nil => show (flatK (enc k) || _) = true; rw [h]; rfl
  | cons p l => show ((flatK (enc p.1) && flatK (enc k)) || _) = true; rw [h, h]; rfl
theorem fit_tup (h : ∀ a, tupK (enc a) = true) : fitK (encL enc val l) (enc k) = true := by
  cases l with
  | nil => show (_ || tupK (enc k)) = true; rw [h, Bool.or_true]
  | cons p l => show (_ || (tupK (enc p.1) && tupK (enc k))) = true; rw [h, h]; simp
theorem encL_len : (encL enc val l).length = l.length := by unfold encL; simp
end
theorem key_ints : ∀ r : List Int, keyD.go (r.map .int) = some (r.map NestedKey.num)
  | [] => rfl
  | a :: r => by rw [List.map_cons, keyD.go, key_ints r]; rfl
theorem depth_nums : ∀ r : List Int, NestedKey.depthAll (r.map NestedKey.num) = 0
  | [] => rfl
  | a :: r => by rw [List.map_cons, NestedKey.depthAll, depth_nums r]; rfl
theorem tupK_row (r : List Int) : tupK (rowD r) = true := by
  have e : keyD (rowD r) = some (.tup (r.map NestedKey.num)) := by
    show (keyD.go (r.map .int)).map NestedKey.tup = _
    rw [key_ints]; rfl
  unfold tupK
  rw [e]
  simp [NestedKey.depth, depth_nums, rowD, isTup]
theorem dIx_dct {kvs : List (D × D)} {k d : D} (hf : fitK kvs k = true) (h : getD kvs k = some d) : dIx (.dct kvs) k = some ⟨d, 0⟩ := by
  unfold dIx
  cases k <;> simp only [hf, h, if_true]
section
variable {g g1 : Env} {i : Nat} {fk fv : Ex} {kvs : List (D × D)} {k d : D}
@[simp] theorem endD_some : endD (some kvs) g = .ok ⟨.dct kvs, 1⟩ g := nr rfl
@[simp] theorem goP_nil {r : List D → Env → Out} : goP [] r g = r [] g := nr rfl
@[simp] theorem goP_cons {r : List D → Env → Out} {fs : List (Ex × Ex)} : goP ((fk, fv) :: fs) r g = bindO (fk g) fun v g1 => bindO (fv g1) fun w g2 => goP fs (fun ds g3 => r (.tup [v.d, w.d] :: ds) g3) g2 := nr rfl
@[simp] theorem eDisp_ap {fs : List (Ex × Ex)} : eDisp fs g = goP fs (fun ds g => endD (putAll [] ds) g) g := nr rfl
@[simp] theorem eD0_ap : eD0 g = .ok ⟨.dct [], 1⟩ g := nr rfl
def setDk (i : Nat) (fk : Ex) (d : D) (g1 : Env) : SOut := match g1[i]? with
  | some (some ⟨.dct _, 1⟩) => bindE (fk g1) fun k g2 => match g2[i]? with
    | some (some ⟨.dct kvs, 1⟩) => if fitK kvs k.d = true ∧ kvs.length < big then .nx (g2.set i (some ⟨.dct (putD kvs k.d d), 1⟩)) else .bad
    | _ => .bad
  | _ => .bad
@[simp] theorem sSetD_ap : sSetD i fk fv g = bindE (fv g) fun v g1 => setDk i fk v.d g1 := nr rfl
theorem setDk_ap {n : Nat} (h : g[i]? = some (some ⟨.dct kvs, 1⟩)) (hk : fk g = .ok ⟨k, n⟩ g) (hf : fitK kvs k = true) (hl : kvs.length < big) : setDk i fk d g = .nx (g.set i (some ⟨.dct (putD kvs k d), 1⟩)) := by
  unfold setDk
  simp only [h, hk, bindE_ok]
  rw [if_pos ⟨hf, hl⟩]
end
/-- a loop over a range, by what holds after each turn -/
theorem forL_inv {t : Tg} {a : Sx} {ks : List Nat} {P : Nat → Env → Prop} (n : Nat) (H : ∀ i < n, ∀ g, P i g → ∃ g', fo1 t a ks (.int (i : Int)) g = .nx g' ∧ P (i + 1) g') {g : Env} (h0 : P 0 g) : ∃ g', forL t a ks ((List.range n).map fun (i : Nat) => .int (i : Int)) g = .nx g' ∧ P n g' := by
  have key : ∀ (m k : Nat) (g : Env), k + m ≤ n → P k g → ∃ g', forL t a ks ((List.range' k m).map fun (i : Nat) => D.int (i : Int)) g = .nx g' ∧ P (k + m) g' := by
    intro m
    induction m with
    | zero => intro k g _ h; exact ⟨g, rfl, h⟩
    | succ m ih =>
      intro k g hk h
      obtain ⟨g1, e1, h1⟩ := H k (by omega) g h
      obtain ⟨g2, e2, h2⟩ := ih (k + 1) g1 (by omega) h1
      refine ⟨g2, ?_, by rw [show k + (m + 1) = k + 1 + m by omega]; exact h2⟩
      rw [List.range'_succ, List.map_cons, forL_nx e1]
      exact e2
  have := key n 0 g (by omega) h0
  rw [Nat.zero_add] at this
  rw [List.range_eq_range']
  exact this
end PL
namespace PL
open PySem
/-- a comprehension over a range, by what holds after each item -/
theorem lcL_inv {t : Tg} {c : Option Ex} {e : Ex} {vs : List Nat} {P : Nat → List D → Env → Prop} (n : Nat) (H : ∀ i < n, ∀ acc g, P i acc g → ∃ d g', lc1 t c e vs (.int (i : Int)) g = some (some d, g') ∧ P (i + 1) (acc ++ [d]) g') {g : Env} (h0 : P 0 [] g) :
    ∃ ds g', lcL t c e false vs ((List.range n).map fun (i : Nat) => .int (i : Int)) g = .ok ds g' ∧ P n ds g' := by
  have key : ∀ (m k : Nat) (acc : List D) (g : Env), k + m ≤ n → P k acc g → ∃ ds g', lcL t c e false vs ((List.range' k m).map fun (i : Nat) => D.int (i : Int)) g = .ok ds g' ∧ P (k + m) (acc ++ ds) g' := by
    intro m
    induction m with
    | zero => intro k acc g _ h; exact ⟨[], g, rfl, by rw [List.append_nil]; exact h⟩
    | succ m ih =>
      intro k acc g hk h
      obtain ⟨d, g1, e1, h1⟩ := H k (by omega) acc g h
      obtain ⟨ds, g2, e2, h2⟩ := ih (k + 1) (acc ++ [d]) g1 (by omega) h1
      refine ⟨d :: ds, g2, ?_, by rw [show k + (m + 1) = k + 1 + m by omega]; simpa using h2⟩
      rw [List.range'_succ, List.map_cons, lcL_step e1, e2]
      rfl
  obtain ⟨ds, g', e1, h1⟩ := key n 0 [] g (by omega) h0
  rw [Nat.zero_add] at h1
  rw [List.range_eq_range']
  exact ⟨ds, g', e1, by simpa using h1⟩
/-! refusals, answers -/
def tryO (cat : Nat → Bool) (i : Nat) (h : Exc → Sx) (o : SOut) : SOut := match o with
  | .exc x g1 => if cat x.c = true then (match h x (killG [i] g1) with
    | .nx g2 => .nx (killG [i] g2)
    | .brk g2 => .brk (killG [i] g2)
    | .ct g2 => .ct (killG [i] g2)
    | .ret v g2 => .ret v g2
    | _ => .bad) else .exc x g1
  | r => r
@[simp] theorem bindS_bad {k : Env → SOut} : bindS .bad k = .bad := nr rfl
@[simp] theorem sTry_ap {b : Sx} {cat : Nat → Bool} {i : Nat} {h : Exc → Sx} {g : Env} : sTry b cat i h g = tryO cat i h (b g) := nr rfl
@[simp] theorem tryO_ret {cat : Nat → Bool} {i : Nat} {h : Exc → Sx} {v : Val} {g : Env} : tryO cat i h (.ret v g) = .ret v g := nr rfl
@[simp] theorem tryO_nx {cat : Nat → Bool} {i : Nat} {h : Exc → Sx} {g : Env} : tryO cat i h (.nx g) = .nx g := nr rfl
theorem tryO_exc {cat : Nat → Bool} {i : Nat} {h : Exc → Sx} {x : Exc} {v : Val} {g g2 : Env} (h1 : cat x.c = true) (h2 : h x (killG [i] g) = .ret v g2) : tryO cat i h (.exc x g) = .ret v g2 := by
  unfold tryO
  simp only [h1, if_true, h2]
/-- an answer, or that it was refused -/
def ansO (o : FOut) : FOut := match o with
  | .ok v => .ok v
  | .exc _ => .ok ⟨.str "puzzle", 0⟩
  | .bad => .bad
theorem try_ans {e : Ex} {cat : Nat → Bool} {i : Nat} {g g0 : Env} {F : FOut} (hc : ∀ n, cat n = true) (h : e g = ofF F g0) (hF : F ≠ .bad) : fnO (sTry (sRet e) cat i (fun _ => sRet (eIf (eC (.bl true)) (eC (.str "puzzle")) (eC (.str "other")))) g) = ansO F := by
  rw [sTry_ap, sRet_ap, h]
  cases F with
  | ok v => rfl
  | exc x =>
    rw [ofF_exc, bindE_exc, tryO_exc (v := ⟨.str "puzzle", 0⟩) (g2 := killG [i] g0) (hc _) (by simp)]
    rfl
  | bad => exact absurd rfl hF
end PL
namespace PL
open PySem
section
variable {g : Env} {i : Nat} {fe : Ex} {kvs : List (D × D)} {k d : D} {ds : List D}
@[simp] theorem okSrc_some : okSrc (some ds) g = .ok ds g := nr rfl
@[simp] theorem iDv_ap {o : D → Option (List D)} : iDv o fe g = iOf (fe g) fun v g1 => okSrc (o v.d) g1 := nr rfl
@[simp] theorem itemsO_dct : itemsO (.dct kvs) = some (kvs.map fun p => .tup [p.1, p.2]) := nr rfl
@[simp] theorem keysO_dct : keysO (.dct kvs) = some (kvs.map (·.1)) := nr rfl
@[simp] theorem valsO_dct : valsO (.dct kvs) = some (kvs.map (·.2)) := nr rfl
theorem chkT_ap {T : D → Bool} {o : Out} (h : T d = true) : chkT T (some d) o = o := by
  unfold chkT
  simp only [h, if_true]
@[simp] theorem chkT_dct {o : Out} : chkT isDct (some (.dct kvs)) o = o := chkT_ap rfl
@[simp] theorem eMeth_ap {T : D → Bool} {o : List D → Option Val} {a : Opd} {as : List Opd} : eMeth T o a as g = a.go (fun ra g1 => chkT T (ra g1) (goN as (fun rs g2 => finN o (allS (ra :: rs) g2) g2) g1)) g := nr rfl
theorem oGet_ap {z : D} (h : fitK kvs k = true) (hz : isMut z = false) : oGet [.dct kvs, k, z] = some ⟨(getD kvs k).getD z, 0⟩ := by
  unfold oGet
  simp only
  rw [if_pos ⟨h, hz⟩]
end
end PL
namespace PL
theorem eVar_o1 {g : Env} {i : Nat} {d : D} (h : g[i]? = some (some ⟨d, 1⟩)) : eVar i g = .ok ⟨d, 0⟩ (g.set i (some ⟨d, 0⟩)) := eVar_ap1 (n := 0) h
end PL
namespace PL
/-- a loop that goes on, or ends with an answer; what it gathers meanwhile -/
theorem forL_until {α S : Type} {t : Tg} {a : Sx} {ks : List Nat} (enc : α → D) (env : S → Env) (f : S → α → S) (good : α → Bool) (v : Val) (Iv : S → Prop) : ∀ {l : List α} {s : S}, Iv s → (∀ s, Iv s → ∀ x ∈ l, (good x = true ∧ fo1 t a ks (enc x) (env s) = .nx (env (f s x)) ∧ Iv (f s x)) ∨ (good x = false ∧ ∃ g', fo1 t a ks (enc x) (env s) = .ret v g')) →
    (l.all good = true ∧ forL t a ks (l.map enc) (env s) = .nx (env (l.foldl f s)) ∧ Iv (l.foldl f s)) ∨ (l.all good = false ∧ ∃ g', forL t a ks (l.map enc) (env s) = .ret v g')
  | [], s, h, _ => .inl ⟨rfl, rfl, h⟩
  | x :: l, s, h, H => by
    rcases H s h x List.mem_cons_self with ⟨h1, h2, h3⟩ | ⟨h1, g', h2⟩
    · rw [List.map_cons, forL_nx h2, List.all_cons, h1, Bool.true_and, List.foldl_cons]
      exact forL_until enc env f good v Iv h3 fun s hs x hx => H s hs x (List.mem_cons_of_mem _ hx)
    · exact .inr ⟨by rw [List.all_cons, h1]; rfl, g', by rw [List.map_cons, forL_ret h2]⟩
/-! sorting keeps the items -/
theorem sort_mem {ds : List D} {d : D} : d ∈ sortD ds ↔ d ∈ ds := (isort_perm ds).mem_iff
theorem sort_len (ds : List D) : (sortD ds).length = ds.length := (isort_perm ds).length_eq
theorem eqDs_mem : ∀ {a b : List D}, eqDs a b = true → ∀ x ∈ a, ∃ y ∈ b, eqD x y = true
  | [], _, _, _, h => nomatch h
  | x :: a, [], h, _, _ => by simp [eqDs] at h
  | x :: a, y :: b, h, z, hz => by
    unfold eqDs at h
    obtain ⟨h1, h2⟩ := Bool.and_eq_true_iff.mp h
    rcases List.mem_cons.mp hz with rfl | hz
    · exact ⟨y, List.mem_cons_self, h1⟩
    · obtain ⟨w, hw, e⟩ := eqDs_mem h2 z hz
      exact ⟨w, List.mem_cons_of_mem _ hw, e⟩
theorem okDs_of {n : Nat} : ∀ {ds : List D}, (∀ d ∈ ds, okD n d = true) → okDs n ds = true
  | [], _ => by cases n <;> rfl
  | d :: ds, h => by rw [okDs, h d List.mem_cons_self, okDs_of fun x hx => h x (List.mem_cons_of_mem _ hx)]; rfl
/-- items that are alike tuples can be sorted -/
theorem sortOk_of {ds : List D} (h1 : ∀ d ∈ ds, okD 60 d = true) (h2 : ∀ a ∈ ds, ∀ b ∈ ds, alkD a b = true) (h3 : ∀ d ∈ ds, tupNe d = true) : sortOk ds = true := by
  unfold sortOk sKind
  rw [okDs_of h1, List.all_eq_true.mpr fun a ha => List.all_eq_true.mpr fun b hb => h2 a ha b hb, List.all_eq_true.mpr h3]
  rfl
theorem oSorted_lst {ds : List D} (h : sortOk ds = true) : oSorted [.lst ds] = some ⟨.lst (sortD ds), 1⟩ := by
  unfold oSorted
  simp only
  rw [if_pos h]
theorem oSorted_tup {ds : List D} (h : sortOk ds = true) : oSorted [.tup ds] = some ⟨.lst (sortD ds), 1⟩ := by
  unfold oSorted
  simp only
  rw [if_pos h]
/-! cells -/
def cD (c : Int × Int) : D := .tup [.int c.1, .int c.2]
theorem eqD_cell (a b : Int × Int) : eqD (cD a) (cD b) = (a == b) := by
  show ((a.1 == b.1) && ((a.2 == b.2) && true)) = _
  rw [Bool.and_true]
  rfl
theorem okD_cell (n : Nat) (a : Int × Int) : okD (n + 1) (cD a) = true := by
  unfold cD
  rw [okD, okDs, okDs, okD_int, okD_int]
  cases n <;> rfl
theorem alk_cell (a b : Int × Int) : alkD (cD a) (cD b) = true := rfl
theorem dIn_cells (x : Int × Int) (l : List (Int × Int)) : dIn (cD x) (.lst (l.map cD)) = vB (l.contains x) := by
  unfold dIn
  simp only [itemsOf]
  rw [okD_cell, okDs_map 63 cD l fun a _ => okD_cell _ _, memD_map cD x l fun a _ => eqD_cell _ _, any_contains]
  rfl
theorem dIn_cellsT (x : Int × Int) (l : List (Int × Int)) : dIn (cD x) (.tup (l.map cD)) = vB (l.contains x) := by
  unfold dIn
  simp only [itemsOf]
  rw [okD_cell, okDs_map 63 cD l fun a _ => okD_cell _ _, memD_map cD x l fun a _ => eqD_cell _ _, any_contains]
  rfl
theorem dNin_cells (x : Int × Int) (l : List (Int × Int)) : dNin (cD x) (.lst (l.map cD)) = vB (!l.contains x) := by
  unfold dNin
  simp only [itemsOf]
  rw [okD_cell, okDs_map 63 cD l fun a _ => okD_cell _ _, memD_map cD x l fun a _ => eqD_cell _ _, any_contains]
  rfl
theorem dNin_cellsT (x : Int × Int) (l : List (Int × Int)) : dNin (cD x) (.tup (l.map cD)) = vB (!l.contains x) := by
  unfold dNin
  simp only [itemsOf]
  rw [okD_cell, okDs_map 63 cD l fun a _ => okD_cell _ _, memD_map cD x l fun a _ => eqD_cell _ _, any_contains]
  rfl
theorem sortOk_cells (l : List (Int × Int)) : sortOk (l.map cD) = true := by
  refine sortOk_of (fun d hd => ?_) (fun a ha b hb => ?_) fun d hd => ?_
  · obtain ⟨c, _, rfl⟩ := List.mem_map.mp hd; exact okD_cell _ _
  · obtain ⟨c, _, rfl⟩ := List.mem_map.mp ha
    obtain ⟨c', _, rfl⟩ := List.mem_map.mp hb
    exact alk_cell _ _
  · obtain ⟨c, _, rfl⟩ := List.mem_map.mp hd; rfl
def ltC (a b : Int × Int) : Bool := if a.1 = b.1 then decide (a.2 < b.2) else decide (a.1 < b.1)
theorem dLt_cell (a b : Int × Int) : dLt (cD a) (cD b) = vB (ltC a b) := by
  show (if (okD 60 (cD a) && okD 60 (cD b) && (alkD (cD a) (cD b) && alkD (cD b) (cD a))) = true then vB (ltD (cD a) (cD b)) else none) = _
  rw [okD_cell, okD_cell, alk_cell, alk_cell]
  show vB (ltD (cD a) (cD b)) = _
  congr 1
  show (if (a.1 == b.1) = true then (if (a.2 == b.2) = true then false else decide (a.2 < b.2)) else decide (a.1 < b.1)) = _
  unfold ltC
  by_cases h : a.1 = b.1
  · rw [if_pos h, if_pos (by simpa using h)]
    by_cases h2 : a.2 = b.2
    · rw [if_pos (by simpa using h2), h2]; simp
    · rw [if_neg (by simpa using h2)]
  · rw [if_neg h, if_neg (by simpa using h)]
theorem cat_lst {a b : List D} (h : a.length + b.length ≤ big) : dAdd (.lst a) (.lst b) = some ⟨.lst (a ++ b), 1⟩ := if_pos h
theorem cat_tup {a b : List D} (h : a.length + b.length ≤ big) : dAdd (.tup a) (.tup b) = some ⟨.tup (a ++ b), 0⟩ := if_pos h
end PL
namespace PL
/-- a loop by what was gone through -/
theorem forL_pre {α : Type} {t : Tg} {a : Sx} {ks : List Nat} (enc : α → D) (env : List α → Env) {l : List α} (H : ∀ p x q, l = p ++ x :: q → fo1 t a ks (enc x) (env p) = .nx (env (p ++ [x]))) : forL t a ks (l.map enc) (env []) = .nx (env l) := by
  have key : ∀ (q p : List α), l = p ++ q → forL t a ks (q.map enc) (env p) = .nx (env l) := by
    intro q
    induction q with
    | nil => intro p e; rw [List.append_nil] at e; subst e; rfl
    | cons x q ih =>
      intro p e
      rw [List.map_cons, forL_nx (H p x q e)]
      exact ih (p ++ [x]) (by rw [e]; simp)
  exact key l [] rfl
end PL
namespace PL
theorem forL_untilP {α : Type} {t : Tg} {a : Sx} {ks : List Nat} (enc : α → D) (env : List α → Env) (good : α → Bool) (v : Val) {l : List α} (H : ∀ p x q, l = p ++ x :: q → p.all good = true → (good x = true ∧ fo1 t a ks (enc x) (env p) = .nx (env (p ++ [x]))) ∨ (good x = false ∧ ∃ g', fo1 t a ks (enc x) (env p) = .ret v g')) :
    (l.all good = true ∧ forL t a ks (l.map enc) (env []) = .nx (env l)) ∨ (l.all good = false ∧ ∃ g', forL t a ks (l.map enc) (env []) = .ret v g') := by
  have key : ∀ (q p : List α), l = p ++ q → p.all good = true → (q.all good = true ∧ forL t a ks (q.map enc) (env p) = .nx (env l)) ∨ (q.all good = false ∧ ∃ g', forL t a ks (q.map enc) (env p) = .ret v g') := by
    intro q
    induction q with
    | nil => intro p e _; rw [List.append_nil] at e; subst e; exact .inl ⟨rfl, rfl⟩
    | cons x q ih =>
      intro p e hp
      rw [List.map_cons, List.all_cons]
      rcases H p x q e hp with ⟨h1, h2⟩ | ⟨h1, g', h2⟩
      · rw [h1, forL_nx h2, Bool.true_and]
        exact ih (p ++ [x]) (by rw [e]; simp) (by rw [List.all_append, hp]; simp [h1])
      · exact .inr ⟨by rw [h1]; rfl, g', by rw [forL_ret h2]⟩
  exact key l [] rfl rfl
theorem dEq_lst {a b : List D} (ha : okDs 63 a = true) (hb : okDs 63 b = true) : dEq (.lst a) (.lst b) = vB (eqDs a b) := by
  unfold dEq
  rw [okD, okD, ha, hb, eqD]
  rfl
theorem dNe_lst {a b : List D} (ha : okDs 63 a = true) (hb : okDs 63 b = true) : dNe (.lst a) (.lst b) = vB (!eqDs a b) := by
  unfold dNe
  rw [okD, okD, ha, hb, eqD]
  rfl
theorem okDs_sort {n : Nat} {ds : List D} (h : ∀ d ∈ ds, okD n d = true) : okDs n (sortD ds) = true := okDs_of fun d hd => h d (sort_mem.mp hd)
end PL
namespace PL
theorem oSl_loT {ds : List D} {i : Nat} (h : i ≤ ds.length) : oSl true false [.tup ds, .int (i : Int)] = some ⟨.tup (ds.drop i), 0⟩ := by
  show (if true = true ∧ false = false then dSl (.tup ds) (some (i : Int)) none else if true = false ∧ false = true then dSl (.tup ds) none (some (i : Int)) else none) = _
  rw [if_pos ⟨rfl, rfl⟩]
  unfold dSl
  simp only [cut_lo ds i h]
theorem oSl_hiT {ds : List D} {i : Nat} (h : i ≤ ds.length) : oSl false true [.tup ds, .int (i : Int)] = some ⟨.tup (ds.take i), 0⟩ := by
  show (if false = true ∧ true = false then dSl (.tup ds) (some (i : Int)) none else if false = false ∧ true = true then dSl (.tup ds) none (some (i : Int)) else none) = _
  rw [if_neg (by simp), if_pos ⟨rfl, rfl⟩]
  unfold dSl
  simp only [cut_hi ds i h]
theorem oSl_loL {ds : List D} {i : Nat} (h : i ≤ ds.length) : oSl true false [.lst ds, .int (i : Int)] = some ⟨.lst (ds.drop i), 1⟩ := by
  show (if true = true ∧ false = false then dSl (.lst ds) (some (i : Int)) none else if true = false ∧ false = true then dSl (.lst ds) none (some (i : Int)) else none) = _
  rw [if_pos ⟨rfl, rfl⟩]
  unfold dSl
  simp only [cut_lo ds i h]
theorem oSl_hiL {ds : List D} {i : Nat} (h : i ≤ ds.length) : oSl false true [.lst ds, .int (i : Int)] = some ⟨.lst (ds.take i), 1⟩ := by
  show (if false = true ∧ true = false then dSl (.lst ds) (some (i : Int)) none else if false = false ∧ true = true then dSl (.lst ds) none (some (i : Int)) else none) = _
  rw [if_neg (by simp), if_pos ⟨rfl, rfl⟩]
  unfold dSl
  simp only [cut_hi ds i h]
theorem pickL (ds : List D) (i : Nat) (h : i < ds.length) : ∃ x, dIx (.lst ds) (.int (i : Int)) = some ⟨x, 0⟩ ∧ x ∈ ds :=
  ⟨ds[i], dIx_lst (by simp [h]), List.getElem_mem h⟩
end PL

namespace Law
open PySem PySem.Spec PySem.Calls L2 PL
def top (i : Nat) : Stmt := PySem.Challenge.pw_pencilrows_k66_whole_layings_counted.main.body.getD i (.Pass ⟨0, 0, 0, 0⟩)
abbrev st__law_draws : Stmt := top 18
abbrev st__law_same : Stmt := top 20
abbrev st__law_layings : Stmt := top 21
abbrev st_is_whole : Stmt := top 5
abbrev st_is_side : Stmt := top 6
abbrev st_look_at_sides : Stmt := top 7
abbrev st_all_cells : Stmt := top 8
abbrev st_steps_of : Stmt := top 16
abbrev st_count_layings : Stmt := top 15
abbrev st_is_pair : Stmt := top 13
abbrev st_is_cell : Stmt := top 9
abbrev st_look_at_cell : Stmt := top 10
abbrev st_beside : Stmt := top 11
abbrev st_is_laying : Stmt := top 14
abbrev st__law_asked : Stmt := top 23
abbrev st__law_draw : Stmt := top 19
abbrev st__law_right : Stmt := top 22
abbrev st_law : Stmt := top 24
def catP : Nat → Bool := fun _ => true
def body__law_draws : Sx := sRet (eLst [en oList [.pk 0], eC (.int 0), eC (.int 0), eC (.int 1)])
def sem__law_draws : List D → FOut := fnS 1 1 body__law_draws
def C__law_same_1 (rec : List D → FOut) : Ex := eLc (iR1 (en oLen [.pk 1])) (.n 2) (some (eNot (eCall rec [e2 dIx (.pk 0) (.pk 2), e2 dIx (.pk 1) (.pk 2)]))) (eVar 2) false [2] []
def body__law_same (rec : List D → FOut) : Sx := seq (sIf (eOr (e1 (dIsi "tuple") (.pk 1)) (e1 (dIsi "list") (.pk 1))) (seq (sIf (eOr (e2 dNe (.ex (e1 (dIsi "tuple") (.pk 1))) (.ex (e1 (dIsi "tuple") (.pk 0)))) (e2 dNe (.ex (e1 (dIsi "list") (.pk 1))) (.ex (e1 (dIsi "list") (.pk 0))))) (sRet (eC (.bl false))) (skip)) (seq (sIf (e2 dNe (.ex (en oLen [.pk 0])) (.ex (en oLen [.pk 1]))) (sRet (eC (.bl false))) (skip)) (sRet (e2 dEq (.ex (en oLen [.ex (C__law_same_1 rec)])) (.ex (eC (.int 0))))))) (skip)) (seq (sIf (e1 (dIsi "str") (.pk 1)) (sRet (eAnd (e1 (dIsi "str") (.pk 0)) (e2 dEq (.pk 0) (.pk 1)))) (skip)) (seq (sIf (e2 dIs (.pk 1) (.ex (eC .non))) (sRet (e2 dIs (.pk 0) (.ex (eC .non)))) (skip)) (seq (sIf (eOr (e1 (dIsi "bool") (.pk 1)) (e1 (dIsi "bool") (.pk 0))) (sRet (eAnd (e1 (dIsi "bool") (.pk 1)) (eAnd (e1 (dIsi "bool") (.pk 0)) (e2 dEq (.pk 0) (.pk 1))))) (skip)) (sRet (eAnd (e1 (dIsi "int") (.pk 0)) (eAnd (e1 (dIsi "int") (.pk 1)) (e2 dEq (.pk 0) (.pk 1))))))))
def sem__law_same : Nat → List D → FOut
  | 0 => fnS 3 2 (body__law_same fun _ => .bad)
  | k + 1 => fnS 3 2 (body__law_same (sem__law_same k))
def C__law_layings_1 : Ex := eLc (iR1 (eVar 1)) (.n 12) none (eTup [eVar 4, eVar 12]) false [12] []
def B__law_layings_1 : Sx := sSet 3 false (e2 dAdd (.pk 3) (.ex (C__law_layings_1)))
def F__law_layings_1 : Sx := sFor (iR1 (eVar 0)) (.n 4) (B__law_layings_1) [4]
def B__law_layings_2 : Sx := sSet 8 false (e2 dAdd (.pk 8) (.ex (en oList [.pk 9])))
def F__law_layings_2 : Sx := sFor (iV (eVar 7)) (.n 9) (B__law_layings_2) [9]
def C__law_layings_2 : Ex := eLc (iV (eVar 3)) (.n 13) (some (e2 dNin (.pk 13) (.pk 8))) (eVar 13) false [13] []
def B__law_layings_3 : Sx := sIf (eAnd (e2 dIn (.pk 11) (.pk 3)) (e2 dNin (.pk 11) (.pk 8))) (sEx (eMut 6 [e2 dAdd (.pk 7) (.ex (eTup [eTup [eVar 10, eVar 11]]))] opApp)) (skip)
def F__law_layings_3 : Sx := sFor (iV (eLst [eTup [e2 dIx (.pk 10) (.ex (eC (.int 0))), e2 dAdd (.ex (e2 dIx (.pk 10) (.ex (eC (.int 1))))) (.ex (eC (.int 1)))], eTup [e2 dAdd (.ex (e2 dIx (.pk 10) (.ex (eC (.int 0))))) (.ex (eC (.int 1))), e2 dIx (.pk 10) (.ex (eC (.int 1)))]])) (.n 11) (B__law_layings_3) [11]
def B__law_layings_4 : Sx := seq (sSet 8 false (eLst [])) (seq (F__law_layings_2) (seq (sSet 10 false (e2 dIx (.ex (C__law_layings_2)) (.ex (eC (.int 0))))) (F__law_layings_3)))
def F__law_layings_4 : Sx := sFor (iV (eVar 2)) (.n 7) (B__law_layings_4) [7, 8, 9, 10, 11]
def B__law_layings_5 : Sx := seq (sSet 6 true (eLst [])) (seq (F__law_layings_4) (sSet 2 false (eVar 6)))
def F__law_layings_5 : Sx := sFor (iR1 (e2 dDiv (.ex (e2 dAdd (.ex (e2 dMul (.pk 0) (.pk 1))) (.ex (eC (.int 1))))) (.ex (eC (.int 2))))) (.n 5) (B__law_layings_5) [5, 6, 7, 8, 9, 10, 11]
def body__law_layings : Sx := seq (sPar [(2, false), (3, false)] [eLst [eTup []], eLst []]) (seq (F__law_layings_1) (seq (F__law_layings_5) (sRet (en oSorted [.pk 2]))))
def sem__law_layings : List D → FOut := fnS 14 2 body__law_layings
def body_is_whole : Sx := sRet (eAnd (e1 (dIsi "int") (.pk 0)) (eNot (e1 (dIsi "bool") (.pk 0))))
def sem_is_whole : List D → FOut := fnS 1 1 body_is_whole
def body_is_side : Sx := sRet (eAnd (eCall sem_is_whole [eVar 0]) (e3 dLe dLe (.ex (eC (.int 1))) (.pk 0) (.ex (eC (.int 12)))))
def sem_is_side : List D → FOut := fnS 1 1 body_is_side
def body_look_at_sides : Sx := sIf (eOr (eNot (eCall sem_is_side [eVar 0])) (eNot (eCall sem_is_side [eVar 1]))) (sRaise ⟨0, noW⟩) (skip)
def sem_look_at_sides : List D → FOut := fnS 2 2 body_look_at_sides
def C_all_cells_1 : Ex := eLc2 (iR1 (eVar 0)) (.n 2) none (iR1 (eVar 1)) (.n 3) none (eTup [eVar 2, eVar 3]) false [2, 3] [3] []
def body_all_cells : Sx := seq (sEx (eCall sem_look_at_sides [eVar 0, eVar 1])) (sRet (en oTuple [.ex (C_all_cells_1)]))
def sem_all_cells : List D → FOut := fnS 4 2 body_all_cells
def S_steps_of_1 : Sx := sSet 3 false (e2 dShl (.ex (eC (.int 1))) (.pk 1))
def S_steps_of_2 : Sx := sIf (e2 dGt (.ex (e2 dBand (.pk 0) (.pk 3))) (.ex (eC (.int 0)))) (sRet (eLst [e2 dSub (.pk 0) (.pk 3)])) (skip)
def S_steps_of_3 : Sx := sSet 4 true (eLst [e2 dAdd (.pk 0) (.pk 3)])
def S_steps_of_4 : Sx := sIf (eAnd (e2 dLt (.ex (e2 dAdd (.pk 1) (.ex (eC (.int 1))))) (.pk 2)) (e2 dEq (.ex (e2 dBand (.pk 0) (.ex (e2 dMul (.pk 3) (.ex (eC (.int 2))))))) (.ex (eC (.int 0))))) (sEx (eMut 4 [e2 dAdd (.pk 0) (.ex (e2 dMul (.pk 3) (.ex (eC (.int 2)))))] opApp)) (skip)
def S_steps_of_5 : Sx := sRet (eVar 4)
def body_steps_of : Sx := seq (S_steps_of_1) (seq (S_steps_of_2) (seq (S_steps_of_3) (seq (S_steps_of_4) (S_steps_of_5))))
def sem_steps_of : List D → FOut := fnS 5 3 body_steps_of
def B_count_layings_1 : Sx := sSetD 5 (eVar 8) (e2 dAdd (.ex (eMeth isDct oGet (.pk 5) [.pk 8, .ex (eC (.int 0))])) (.pk 7))
def F_count_layings_1 : Sx := sFor (iV (eCall sem_steps_of [eVar 6, eVar 4, eVar 1])) (.n 8) (B_count_layings_1) [8]
def B_count_layings_2 : Sx := F_count_layings_1
def F_count_layings_2 : Sx := sFor (iDv itemsO (eVar 2)) (.t [.n 6, .n 7]) (B_count_layings_2) [6, 7, 8]
def B_count_layings_3 : Sx := seq (sSet 5 true (eD0)) (seq (F_count_layings_2) (sSet 2 false (eVar 5)))
def F_count_layings_3 : Sx := sFor (iR1 (eVar 1)) (.n 4) (B_count_layings_3) [4, 5, 6, 7, 8]
def B_count_layings_4 : Sx := F_count_layings_3
def F_count_layings_4 : Sx := sFor (iR1 (eVar 0)) (.n 3) (B_count_layings_4) [3, 4, 5, 6, 7, 8]
def body_count_layings : Sx := seq (sEx (eCall sem_all_cells [eVar 0, eVar 1])) (seq (sSet 2 false (eDisp [((eC (.int 0)), (eC (.int 1)))])) (seq (F_count_layings_4) (sRet (eMeth isDct oGet (.pk 2) [.ex (eC (.int 0)), .ex (eC (.int 0))]))))
def sem_count_layings : List D → FOut := fnS 9 2 body_count_layings
def C_is_pair_1 : Ex := eLc (iV (eVar 0)) (.n 1) none (e1 (dIsi "tuple") (.pk 1)) false [1] []
def E_is_pair_1 : Ex := eAnd (e2 dEq (.ex (en oLen [.pk 1])) (.ex (eC (.int 2)))) (eAnd (eCall sem_is_whole [e2 dIx (.pk 1) (.ex (eC (.int 0)))]) (eCall sem_is_whole [e2 dIx (.pk 1) (.ex (eC (.int 1)))]))
def C_is_pair_2 : Ex := eLc (iV (eVar 0)) (.n 1) none (E_is_pair_1) false [1] []
def body_is_pair : Sx := seq (sIf (eOr (eNot (e1 (dIsi "tuple") (.pk 0))) (eOr (e2 dNe (.ex (en oLen [.pk 0])) (.ex (eC (.int 2)))) (eNot (en oAll [.ex (C_is_pair_1)])))) (sRet (eC (.bl false))) (skip)) (sRet (en oAll [.ex (C_is_pair_2)]))
def sem_is_pair : List D → FOut := fnS 2 1 body_is_pair
def body_is_cell : Sx := seq (sIf (eOr (eNot (e1 (dIsi "tuple") (.pk 2))) (eOr (e2 dNe (.ex (en oLen [.pk 2])) (.ex (eC (.int 2)))) (eOr (eNot (eCall sem_is_whole [e2 dIx (.pk 2) (.ex (eC (.int 0)))])) (eNot (eCall sem_is_whole [e2 dIx (.pk 2) (.ex (eC (.int 1)))]))))) (sRet (eC (.bl false))) (skip)) (sRet (eAnd (e3 dLe dLt (.ex (eC (.int 0))) (.ex (e2 dIx (.pk 2) (.ex (eC (.int 0))))) (.pk 0)) (e3 dLe dLt (.ex (eC (.int 0))) (.ex (e2 dIx (.pk 2) (.ex (eC (.int 1))))) (.pk 1))))
def sem_is_cell : List D → FOut := fnS 3 3 body_is_cell
def body_look_at_cell : Sx := seq (sEx (eCall sem_look_at_sides [eVar 0, eVar 1])) (sIf (eNot (eCall sem_is_cell [eVar 0, eVar 1, eVar 2])) (sRaise ⟨0, noW⟩) (skip))
def sem_look_at_cell : List D → FOut := fnS 3 3 body_look_at_cell
def C_beside_1 : Ex := eLc (iV (eVar 5)) (.n 6) (some (eCall sem_is_cell [eVar 0, eVar 1, eVar 6])) (eVar 6) false [6] []
def body_beside : Sx := seq (sEx (eCall sem_look_at_cell [eVar 0, eVar 1, eVar 2])) (seq (sAsg (.t [.n 3, .n 4]) (eVar 2)) (seq (sSet 5 false (eLst [eTup [e2 dSub (.pk 3) (.ex (eC (.int 1))), eVar 4], eTup [eVar 3, e2 dSub (.pk 4) (.ex (eC (.int 1)))], eTup [eVar 3, e2 dAdd (.pk 4) (.ex (eC (.int 1)))], eTup [e2 dAdd (.pk 3) (.ex (eC (.int 1))), eVar 4]])) (sRet (en oTuple [.ex (C_beside_1)]))))
def sem_beside : List D → FOut := fnS 7 3 body_beside
def C_is_laying_1 : Ex := eLc (iV (eVar 2)) (.n 5) none (eCall sem_is_pair [eVar 5]) false [5] []
def C_is_laying_2 : Ex := eLc2 (iV (eVar 2)) (.n 5) none (iV (eVar 5)) (.n 6) none (eVar 6) false [5, 6] [6] []
def E_is_laying_1 : Ex := eAnd (e2 dLt (.pk 7) (.pk 8)) (e2 dIn (.pk 8) (.ex (eCall sem_beside [eVar 0, eVar 1, eVar 7])))
def C_is_laying_3 : Ex := eLc (iV (eVar 2)) (.t [.n 7, .n 8]) none (E_is_laying_1) false [7, 8] []
def S_is_laying_1 : Sx := sSet 3 false (eCall sem_all_cells [eVar 0, eVar 1])
def S_is_laying_2 : Sx := sIf (eOr (eNot (e1 (dIsi "tuple") (.pk 2))) (eOr (eNot (en oAll [.ex (C_is_laying_1)])) (e2 dNe (.ex (en oList [.pk 2])) (.ex (en oSorted [.pk 2]))))) (sRet (eC (.bl false))) (skip)
def S_is_laying_3 : Sx := sSet 4 false (C_is_laying_2)
def S_is_laying_4 : Sx := sIf (e2 dNe (.ex (en oSorted [.pk 4])) (.ex (en oList [.pk 3]))) (sRet (eC (.bl false))) (skip)
def S_is_laying_5 : Sx := sRet (en oAll [.ex (C_is_laying_3)])
def body_is_laying : Sx := seq (S_is_laying_1) (seq (S_is_laying_2) (seq (S_is_laying_3) (seq (S_is_laying_4) (S_is_laying_5))))
def sem_is_laying : List D → FOut := fnS 9 3 body_is_laying
def body__law_asked : Sx := sTry (sRet (eIf (e2 dEq (.pk 0) (.ex (eC (.int 0)))) (eCall sem_count_layings [eVar 1, eVar 2]) (eCall sem_is_laying [eVar 1, eVar 2, eVar 3]))) catP 4 (fun _ => sRet (eIf (eC (.bl true)) (eC (.str "puzzle")) (eC (.str "other"))))
def sem__law_asked : List D → FOut := fnS 5 4 body__law_asked
def body__law_draw : Sx := seq (sIf (eAnd (e2 dEq (.ex (e2 dIx (.pk 0) (.ex (eC (.int 2))))) (.ex (eC (.int 0)))) (e2 dLt (.ex (e2 dIx (.pk 0) (.ex (eC (.int 1))))) (.ex (en oLen [.ex (e2 dIx (.pk 0) (.ex (eC (.int 0))))])))) (seq (sSet 2 false (e2 dIx (.ex (e2 dIx (.pk 0) (.ex (eC (.int 0))))) (.ex (e2 dIx (.pk 0) (.ex (eC (.int 1))))))) (seq (sSetI 0 (eC (.int 1)) (e2 dAdd (.ex (e2 dIx (.pk 0) (.ex (eC (.int 1))))) (.ex (eC (.int 1))))) (seq (sIf (e2 dGe (.pk 2) (.ex (e2 dPow (.ex (eC (.int 10))) (.ex (eC (.int 18)))))) (sSetI 0 (eC (.int 2)) (eVar 2)) (skip)) (sSetI 0 (eC (.int 3)) (e2 dMod (.ex (en oInt [.ex (e2 dAdd (.ex (e2 dAdd (.ex (e2 dMul (.ex (e2 dIx (.pk 0) (.ex (eC (.int 3))))) (.ex (eC (.int 48271))))) (.pk 2))) (.ex (eC (.int 13))))])) (.ex (eC (.int 2147483647)))))))) (skip)) (seq (sIf (e2 dGt (.ex (e2 dIx (.pk 0) (.ex (eC (.int 2))))) (.ex (eC (.int 0)))) (seq (sSet 3 false (e2 dMod (.ex (en oInt [.ex (e2 dIx (.pk 0) (.ex (eC (.int 2))))])) (.pk 1))) (seq (sSetI 0 (eC (.int 2)) (e2 dDiv (.ex (e2 dIx (.pk 0) (.ex (eC (.int 2))))) (.pk 1))) (sRet (eVar 3)))) (skip)) (seq (sSetI 0 (eC (.int 3)) (e2 dMod (.ex (en oInt [.ex (e2 dAdd (.ex (e2 dMul (.ex (e2 dIx (.pk 0) (.ex (eC (.int 3))))) (.ex (eC (.int 69621))))) (.ex (eC (.int 7))))])) (.ex (eC (.int 2147483629))))) (sRet (e2 dMod (.ex (en oInt [.ex (e2 dDiv (.ex (e2 dIx (.pk 0) (.ex (eC (.int 3))))) (.ex (eC (.int 11))))])) (.pk 1)))))
def sem__law_draw : Val → List D → FIO := fnIO 4 1 body__law_draw
def E__law_right_1 : Ex := eAnd (e1 (dIsi "int") (.pk 9)) (eNot (e1 (dIsi "bool") (.pk 9)))
def C__law_right_1 : Ex := eLc (iV (eVar 5)) (.n 9) none (E__law_right_1) false [9] []
def B__law_right_1 : Sx := sIf (eOr (eNot (e1 (dIsi "tuple") (.pk 5))) (eOr (e2 dNe (.ex (en oLen [.pk 5])) (.ex (eC (.int 2)))) (eNot (en oAll [.ex (C__law_right_1)])))) (sRet (eC (.bl false))) (skip)
def F__law_right_1 : Sx := sFor (iV (eVar 4)) (.n 5) (B__law_right_1) [5]
def B__law_right_2 : Sx := seq (sIf (eOr (eNot (e1 (dIsi "tuple") (.pk 4))) (e2 dNe (.ex (en oLen [.pk 4])) (.ex (eC (.int 2))))) (sRet (eC (.bl false))) (skip)) (seq (F__law_right_1) (seq (sIf (e2 dNin (.ex (e2 dIx (.pk 4) (.ex (eC (.int 1))))) (.ex (eTup [eTup [e2 dIx (.ex (e2 dIx (.pk 4) (.ex (eC (.int 0))))) (.ex (eC (.int 0))), e2 dAdd (.ex (e2 dIx (.ex (e2 dIx (.pk 4) (.ex (eC (.int 0))))) (.ex (eC (.int 1))))) (.ex (eC (.int 1)))], eTup [e2 dAdd (.ex (e2 dIx (.ex (e2 dIx (.pk 4) (.ex (eC (.int 0))))) (.ex (eC (.int 0))))) (.ex (eC (.int 1))), e2 dIx (.ex (e2 dIx (.pk 4) (.ex (eC (.int 0))))) (.ex (eC (.int 1)))]]))) (sRet (eC (.bl false))) (skip)) (sSet 3 false (e2 dAdd (.pk 3) (.ex (en oList [.pk 4]))))))
def F__law_right_2 : Sx := sFor (iV (eVar 2)) (.n 4) (B__law_right_2) [4, 5]
def C__law_right_2 : Ex := eLc (iR1 (eVar 1)) (.n 8) none (eTup [eVar 7, eVar 8]) false [8] []
def B__law_right_3 : Sx := sSet 6 false (e2 dAdd (.pk 6) (.ex (C__law_right_2)))
def F__law_right_3 : Sx := sFor (iR1 (eVar 0)) (.n 7) (B__law_right_3) [7]
def S__law_right_1 : Sx := sIf (eNot (e1 (dIsi "tuple") (.pk 2))) (sRet (eC (.bl false))) (skip)
def S__law_right_2 : Sx := sSet 3 false (eLst [])
def S__law_right_3 : Sx := sSet 6 false (eLst [])
def S__law_right_4 : Sx := sRet (eAnd (e2 dEq (.ex (en oSorted [.pk 3])) (.pk 6)) (e2 dEq (.ex (en oList [.pk 2])) (.ex (en oSorted [.pk 2]))))
def body__law_right : Sx := seq (S__law_right_1) (seq (S__law_right_2) (seq (F__law_right_2) (seq (S__law_right_3) (seq (F__law_right_3) (S__law_right_4)))))
def sem__law_right : List D → FOut := fnS 10 3 body__law_right
def B_law_1 : Sx := sEx (eMut 2 [e2 dAdd (.ex (e2 dIx (.pk 2) (.pk 4))) (.ex (e2 dIx (.pk 2) (.ex (e2 dAdd (.pk 4) (.ex (eC (.int 1)))))))] opApp)
def F_law_1 : Sx := sFor (iR1 (eC (.int 11))) (.n 4) (B_law_1) [4]
def B_law_2 : Sx := sEx (eMut 3 [e2 dSub (.ex (e2 dMul (.ex (eC (.int 4))) (.ex (e2 dIx (.pk 3) (.ex (e2 dAdd (.pk 4) (.ex (eC (.int 1))))))))) (.ex (e2 dIx (.pk 3) (.pk 4)))] opApp)
def F_law_2 : Sx := sFor (iR1 (eC (.int 5))) (.n 4) (B_law_2) [4]
def B_law_3 : Sx := sIf (eNot (eCall (sem__law_same 8) [eLst [eCall sem__law_asked [eC (.int 0), eVar 6, eVar 7, eC .non], eCall sem__law_asked [eC (.int 0), eVar 7, eVar 6, eC .non]], eLst [en oLen [.pk 8], en oLen [.pk 8]]])) (sRet (eC (.bl false))) (skip)
def F_law_3 : Sx := sFor (iR1 (eC (.int 2))) (.n 9) (B_law_3) [9]
def B_law_4 : Sx := sIf (eNot (eCall (sem__law_same 8) [eCall sem__law_asked [eC (.int 1), eVar 6, eVar 7, eVar 13], eCall sem__law_right [eVar 6, eVar 7, eVar 13]])) (sRet (eC (.bl false))) (skip)
def F_law_4 : Sx := sFor (iV (eVar 10)) (.n 13) (B_law_4) [13]
def S_law_1 : Sx := sPar [(6, false), (7, false)] [e2 dAdd (.ex (eC (.int 1))) (.ex (eCallIO sem__law_draw 1 [eC (.int 4)])), e2 dAdd (.ex (eC (.int 1))) (.ex (eCallIO sem__law_draw 1 [eC (.int 5)]))]
def S_law_2 : Sx := sSet 8 false (eCall sem__law_layings [eVar 6, eVar 7])
def S_law_3 : Sx := sSet 10 false (eLst [eC .non, eTup [], eTup [eTup [eC (.int 0), eC (.int 0)]], eTup [eTup [eTup [eC (.int 0), eC (.int 0)], eTup [eC (.int 0), eC (.int 1)]]], eLst [eTup [eTup [eC (.int 0), eC (.int 0)], eTup [eC (.int 0), eC (.int 1)]]], eTup [eTup [eTup [eC (.bl true), eC (.int 0)], eTup [eC (.int 0), eC (.int 1)]]], eTup [eC .non], eTup [eTup [eTup [eC (.int 0), eC (.int 0)], eC .non]]])
def S_law_4 : Sx := sIf (e2 dGt (.ex (en oLen [.pk 8])) (.ex (eC (.int 0)))) (seq (sSet 11 false (e2 dIx (.pk 8) (.ex (eCallIO sem__law_draw 1 [en oLen [.pk 8]])))) (seq (sSet 12 false (eCallIO sem__law_draw 1 [en oLen [.pk 11]])) (seq (sSet 10 false (e2 dAdd (.pk 10) (.ex (eLst [eVar 11, e1 dRev (.pk 11), en oList [.pk 11], en (oSl true false) [.pk 11, .ex (eC (.int 1))], e2 dAdd (.pk 11) (.ex (en (oSl false true) [.pk 11, .ex (eC (.int 1))])), e2 dAdd (.ex (e2 dAdd (.ex (en (oSl false true) [.pk 11, .pk 12])) (.ex (eTup [e1 dRev (.ex (e2 dIx (.pk 11) (.pk 12)))])))) (.ex (en (oSl true false) [.pk 11, .ex (e2 dAdd (.pk 12) (.ex (eC (.int 1))))]))])))) (sSet 10 false (e2 dAdd (.pk 10) (.ex (eLst [e2 dAdd (.ex (e2 dAdd (.ex (en (oSl false true) [.pk 11, .pk 12])) (.ex (eTup [eTup [eTup [eC (.int 0), eC (.int 0)], eTup [eC (.int 1), eC (.int 1)]]])))) (.ex (en (oSl true false) [.pk 11, .ex (e2 dAdd (.pk 12) (.ex (eC (.int 1))))])), e2 dAdd (.ex (e2 dAdd (.ex (en (oSl false true) [.pk 11, .pk 12])) (.ex (eTup [eTup [e2 dIx (.ex (e2 dIx (.pk 11) (.pk 12))) (.ex (eC (.int 0)))]])))) (.ex (en (oSl true false) [.pk 11, .ex (e2 dAdd (.pk 12) (.ex (eC (.int 1))))]))]))))))) (skip)
def S_law_5 : Sx := sSet 14 false (e2 dAdd (.ex (eC (.int 1))) (.ex (eCallIO sem__law_draw 1 [eC (.int 12)])))
def S_law_6 : Sx := sSet 15 false (e2 dEq (.ex (e2 dMod (.ex (en oInt [.pk 14])) (.ex (eC (.int 2))))) (.ex (eC (.int 0))))
def S_law_7 : Sx := sIf (eNot (eCall (sem__law_same 8) [eLst [eCall sem__law_asked [eC (.int 0), eC (.int 2), eVar 14, eC .non], eCall sem__law_asked [eC (.int 0), eVar 14, eC (.int 1), eC .non], eCall sem__law_asked [eC (.int 0), eC (.int 3), eVar 14, eC .non]], eLst [e2 dIx (.pk 2) (.pk 14), en oInt [.pk 15], eIf (eVar 15) (e2 dIx (.pk 3) (.ex (e2 dDiv (.pk 14) (.ex (eC (.int 2)))))) (eC (.int 0))]])) (sRet (eC (.bl false))) (skip)
def S_law_8 : Sx := sPar [(16, false), (17, false)] [e2 dAdd (.ex (eC (.int 1))) (.ex (eCallIO sem__law_draw 1 [eC (.int 12)])), e2 dAdd (.ex (eC (.int 1))) (.ex (eCallIO sem__law_draw 1 [eC (.int 12)]))]
def S_law_9 : Sx := sSet 18 false (eCall sem__law_asked [eC (.int 0), eVar 16, eVar 17, eC .non])
def S_law_10 : Sx := sIf (eOr (e2 dNe (.pk 18) (.ex (eCall sem__law_asked [eC (.int 0), eVar 17, eVar 16, eC .non]))) (e2 dNe (.ex (e2 dGt (.pk 18) (.ex (eC (.int 0))))) (.ex (e2 dEq (.ex (e2 dMod (.ex (en oInt [.ex (e2 dMul (.pk 16) (.pk 17))])) (.ex (eC (.int 2))))) (.ex (eC (.int 0))))))) (sRet (eC (.bl false))) (skip)
def S_law_11 : Sx := sIf (eOr (e2 dNe (.ex (eCall sem__law_asked [eCallIO sem__law_draw 1 [eC (.int 2)], e2 dIx (.ex (eLst [eC (.int 0), eC (.int 13), eC .non, eC (.bl true)])) (.ex (eCallIO sem__law_draw 1 [eC (.int 4)])), eC (.int 2), eTup []])) (.ex (eC (.str "puzzle")))) (e2 dNe (.ex (eCall sem__law_asked [eCallIO sem__law_draw 1 [eC (.int 2)], eC (.int 2), e2 dIx (.ex (eLst [eC (.int 0), eC (.int 13), eC .non, eC (.bl true)])) (.ex (eCallIO sem__law_draw 1 [eC (.int 4)])), eTup []])) (.ex (eC (.str "puzzle"))))) (sRet (eC (.bl false))) (skip)
def B_law_5 : Sx := seq (S_law_1) (seq (S_law_2) (seq (F_law_3) (seq (S_law_3) (seq (S_law_4) (seq (F_law_4) (seq (S_law_5) (seq (S_law_6) (seq (S_law_7) (seq (S_law_8) (seq (S_law_9) (seq (S_law_10) (S_law_11))))))))))))
def F_law_5 : Sx := sFor (iR1 (eC (.int 3))) (.n 5) (B_law_5) [5, 6, 7, 8, 9, 10, 11, 12, 13, 14, 15, 16, 17, 18]
def S_law_12 : Sx := sSet 1 true (eCall sem__law_draws [eVar 0])
def S_law_13 : Sx := sPar [(2, true), (3, true)] [eLst [eC (.int 1), eC (.int 1)], eLst [eC (.int 1), eC (.int 3)]]
def S_law_14 : Sx := sRet (eCall (sem__law_same 8) [eCall sem_count_layings [eC (.int 8), eC (.int 8)], eC (.int 12988816)])
def body_law : Sx := seq (S_law_12) (seq (S_law_13) (seq (F_law_1) (seq (F_law_2) (seq (F_law_5) (S_law_14)))))
def sem_law : List D → FOut := fnS 19 1 body_law
def d__law_draws : He.DefD := ⟨("_law_draws", none), "_law_draws", "_law_draws", defArgs st__law_draws, defBody st__law_draws, defScope st__law_draws, [], []⟩
def d__law_same : He.DefD := ⟨("_law_same", none), "_law_same", "_law_same", defArgs st__law_same, defBody st__law_same, defScope st__law_same, [], []⟩
def d__law_layings : He.DefD := ⟨("_law_layings", none), "_law_layings", "_law_layings", defArgs st__law_layings, defBody st__law_layings, defScope st__law_layings, [], []⟩
def d_is_whole : He.DefD := ⟨("is_whole", none), "is_whole", "is_whole", defArgs st_is_whole, defBody st_is_whole, defScope st_is_whole, [], []⟩
def d_is_side : He.DefD := ⟨("is_side", none), "is_side", "is_side", defArgs st_is_side, defBody st_is_side, defScope st_is_side, [], []⟩
def d_look_at_sides : He.DefD := ⟨("look_at_sides", none), "look_at_sides", "look_at_sides", defArgs st_look_at_sides, defBody st_look_at_sides, defScope st_look_at_sides, [], []⟩
def d_all_cells : He.DefD := ⟨("all_cells", none), "all_cells", "all_cells", defArgs st_all_cells, defBody st_all_cells, defScope st_all_cells, [], []⟩
def d_steps_of : He.DefD := ⟨("steps_of", none), "steps_of", "steps_of", defArgs st_steps_of, defBody st_steps_of, defScope st_steps_of, [], []⟩
def d_count_layings : He.DefD := ⟨("count_layings", none), "count_layings", "count_layings", defArgs st_count_layings, defBody st_count_layings, defScope st_count_layings, [], []⟩
def d_is_pair : He.DefD := ⟨("is_pair", none), "is_pair", "is_pair", defArgs st_is_pair, defBody st_is_pair, defScope st_is_pair, [], []⟩
def d_is_cell : He.DefD := ⟨("is_cell", none), "is_cell", "is_cell", defArgs st_is_cell, defBody st_is_cell, defScope st_is_cell, [], []⟩
def d_look_at_cell : He.DefD := ⟨("look_at_cell", none), "look_at_cell", "look_at_cell", defArgs st_look_at_cell, defBody st_look_at_cell, defScope st_look_at_cell, [], []⟩
def d_beside : He.DefD := ⟨("beside", none), "beside", "beside", defArgs st_beside, defBody st_beside, defScope st_beside, [], []⟩
def d_is_laying : He.DefD := ⟨("is_laying", none), "is_laying", "is_laying", defArgs st_is_laying, defBody st_is_laying, defScope st_is_laying, [], []⟩
def d__law_asked : He.DefD := ⟨("_law_asked", none), "_law_asked", "_law_asked", defArgs st__law_asked, defBody st__law_asked, defScope st__law_asked, [], []⟩
def d__law_draw : He.DefD := ⟨("_law_draw", none), "_law_draw", "_law_draw", defArgs st__law_draw, defBody st__law_draw, defScope st__law_draw, [], []⟩
def d__law_right : He.DefD := ⟨("_law_right", none), "_law_right", "_law_right", defArgs st__law_right, defBody st__law_right, defScope st__law_right, [], []⟩
def d_law : He.DefD := ⟨("law", none), "law", "law", defArgs st_law, defBody st_law, defScope st_law, [], []⟩
def fn : List He.DefD := [d__law_draws, d__law_same, d__law_layings, d_is_whole, d_is_side, d_look_at_sides, d_all_cells, d_steps_of, d_count_layings, d_is_pair, d_is_cell, d_look_at_cell, d_beside, d_is_laying, d__law_asked, d__law_draw, d__law_right, d_law]
def fa : List He.Fa := [.free "list", .free "isinstance", .free "tuple", .free "len", .free "range", .glo "_law_same", .free "str", .free "bool", .free "int", .free "sorted", .glo "is_whole", .int "MOST_SIDE" 12, .glo "is_side", .glo "BadPuzzle", .glo "look_at_sides", .glo "all_cells", .glo "steps_of", .free "all", .glo "is_cell", .glo "look_at_cell", .glo "is_pair", .glo "beside", .glo "count_layings", .glo "is_laying", .glo "PencilError", .glo "_law_draws", .glo "_law_draw", .glo "_law_layings", .glo "_law_asked", .glo "_law_right", .glo "law", .exm "BadPuzzle" "PencilError" true]
def ex : List Str := ["BadPuzzle"]
def ck (K : PySem.W.Frag) : Bool := factsB fa ex K && decide (PySem.W.kitOne K (.ref (He.ga K "BadPuzzle")) (.ref (He.ga K "BadPuzzle")) = some true)
abbrev fns (K : PySem.W.Frag) : Fns := fun i => match i with
  | 11 => some (He.ga K "_law_draws")
  | 13 => some (He.ga K "_law_same")
  | 14 => some (He.ga K "_law_layings")
  | 0 => some (He.ga K "is_whole")
  | 1 => some (He.ga K "is_side")
  | 2 => some (He.ga K "look_at_sides")
  | 3 => some (He.ga K "all_cells")
  | 10 => some (He.ga K "steps_of")
  | 9 => some (He.ga K "count_layings")
  | 7 => some (He.ga K "is_pair")
  | 4 => some (He.ga K "is_cell")
  | 5 => some (He.ga K "look_at_cell")
  | 6 => some (He.ga K "beside")
  | 8 => some (He.ga K "is_laying")
  | 16 => some (He.ga K "_law_asked")
  | 12 => some (He.ga K "_law_draw")
  | 15 => some (He.ga K "_law_right")
  | 17 => some (He.ga K "law")
  | _ => none
abbrev cls (K : PySem.W.Frag) : Nat → Option Addr := fun i => match i with
  | 0 => some (He.ga K "BadPuzzle")
  | _ => none
section
variable {P : Program} {w : World} {K : PySem.W.Frag} {mg : Str → Option Value} {base h : Heap}
theorem ckF (c : SaysP ck fn K) : factsB fa ex K = true := by
  have z := c.chk
  unfold ck at z
  simp only [Bool.and_eq_true] at z
  exact z.1
theorem kit_BadPuzzle_BadPuzzle (c : SaysP ck fn K) : PySem.W.kitOne K (.ref (He.ga K "BadPuzzle")) (.ref (He.ga K "BadPuzzle")) = some true := by
  have z := c.chk
  unfold ck at z
  simp only [Bool.and_eq_true] at z
  exact of_decide_eq_true z.2
theorem sc__law_draws : FnScope ["script"] ["script"] (defScope st__law_draws) := ⟨by kernel_rfl, by kernel_rfl, by kernel_rfl, by decide +kernel, by kernel_rfl, by decide +kernel, by decide +kernel⟩
theorem okf__law_draws (KX : K.In h) (G : h.Ns mainGlobals mg) (c : SaysP ck fn K) {fd : FuncData} (Fd : FunD K "_law_draws" "_law_draws" (defArgs st__law_draws) (defBody st__law_draws) (defScope st__law_draws) [] [] (He.ga K "_law_draws") fd) : FnOk P w K mg base (L2.CX P w) 1 (He.ga K "_law_draws") fd ["script"] (spF ⟨K, w, fns K⟩ (cls K) 1 sem__law_draws) := by
  have bd : Binds K fd ["script"] [] := Fd.bindsN fun _ _ _ _ _ _ us hl => match us, hl with | [_], _ => rfl
  have b_list := He.free_ok KX G (factsB_fact (ckF c) 0 (f := .free "list") rfl)
  exact fn_ok (k := 0) Fd sc__law_draws (fns K) (cls K) (by decide) (fun cdv A outer s H E hr => by
    have hN := sc__law_draws.nd
    have hu := room65 hr
    have hp := passes_of (X := cxOf (L2.CX P w) P w K mg base ["script"] "_law_draws" (defScope st__law_draws) (He.ga K "_law_draws") cdv A outer s H E) rfl
    have tk : Takes (cxOf (L2.CX P w) P w K mg base ["script"] "_law_draws" (defScope st__law_draws) (He.ga K "_law_draws") cdv A outer s H E) (parE (fns K) (cls K) E).W := takes_of rfl rfl rfl rfl
    exact (sb_one (s_ret (s_lst (sl_cons (s_callT (c_list rfl) (gl (by kernel_rfl)) b_list rfl (sa_cons (so_pk (by kernel_rfl) (vis (by kernel_rfl))) sa_nil)) (sl_cons s_int (sl_cons s_int (sl_cons s_int sl_nil))))))))
theorem ok__law_draws (KX : K.In h) (G : h.Ns mainGlobals mg) (c : SaysP ck fn K) : ∃ fd, (FnOk P w K mg base (L2.CX P w) 1 (He.ga K "_law_draws") fd ["script"] (spF ⟨K, w, fns K⟩ (cls K) 1 sem__law_draws)) ∧ Binds K fd ["script"] [] ∧ PySem.W.keepIn K (.ref (He.ga K "_law_draws")) = true := by
  obtain ⟨fd, Fd⟩ := c.def_ 0 (d := d__law_draws) rfl
  exact ⟨fd, okf__law_draws KX G c Fd, Fd.bindsN (fun _ _ _ _ _ _ us hl => match us, hl with | [_], _ => rfl), Fd.kp⟩
theorem sc__law_same : FnScope ["actual", "expected", "k"] ["actual", "expected"] (defScope st__law_same) := ⟨by kernel_rfl, by kernel_rfl, by kernel_rfl, by decide +kernel, by kernel_rfl, by decide +kernel, by decide +kernel⟩
theorem okf__law_same (KX : K.In h) (G : h.Ns mainGlobals mg) (c : SaysP ck fn K) {fd : FuncData} (Fd : FunD K "_law_same" "_law_same" (defArgs st__law_same) (defBody st__law_same) (defScope st__law_same) [] [] (He.ga K "_law_same") fd) : ∀ n, FnOk P w K mg base (L2.CX P w) (1 + n) (He.ga K "_law_same") fd ["actual", "expected"] (spF ⟨K, w, fns K⟩ (cls K) 2 (sem__law_same n)) := by
  have bd : Binds K fd ["actual", "expected"] [] := Fd.bindsN fun _ _ _ _ _ _ us hl => match us, hl with | [_, _], _ => rfl
  have b_isinstance := He.free_ok KX G (factsB_fact (ckF c) 1 (f := .free "isinstance") rfl)
  have b_tuple := He.free_ok KX G (factsB_fact (ckF c) 2 (f := .free "tuple") rfl)
  have b_list := He.free_ok KX G (factsB_fact (ckF c) 0 (f := .free "list") rfl)
  have b_len := He.free_ok KX G (factsB_fact (ckF c) 3 (f := .free "len") rfl)
  have b_range := He.free_ok KX G (factsB_fact (ckF c) 4 (f := .free "range") rfl)
  have g__law_same := He.glo_ok KX G (factsB_fact (ckF c) 5 (f := .glo "_law_same") rfl)
  have b_str := He.free_ok KX G (factsB_fact (ckF c) 6 (f := .free "str") rfl)
  have b_bool := He.free_ok KX G (factsB_fact (ckF c) 7 (f := .free "bool") rfl)
  have b_int := He.free_ok KX G (factsB_fact (ckF c) 8 (f := .free "int") rfl)
  intro n
  induction n with
  | zero =>
    have ih := And.intro (fn_bad (Pr := P) (w := w) (K := K) (mg := mg) (base := base) (k := 0) (f := He.ga K "_law_same") (fd := fd) (ps := ["actual", "expected"]) (c := ⟨K, w, fns K⟩) (cls := cls K)) (And.intro bd Fd.kp)
    exact (fn_ok (k := 0) Fd sc__law_same (fns K) (cls K) (by decide) (fun cdv A outer s H E hr => by
    have hN := sc__law_same.nd
    have hu := room65 hr
    have hp := passes_of (X := cxOf (L2.CX P w) P w K mg base ["actual", "expected", "k"] "_law_same" (defScope st__law_same) (He.ga K "_law_same") cdv A outer s H E) rfl
    have tk : Takes (cxOf (L2.CX P w) P w K mg base ["actual", "expected", "k"] "_law_same" (defScope st__law_same) (He.ga K "_law_same") cdv A outer s H E) (parE (fns K) (cls K) E).W := takes_of rfl rfl rfl rfl
    exact (sb_cons (s_ifS (SW.st (sw_or (st_val (s_isi (.inr (.inr (.inr (.inl rfl)))) rfl (gl (by kernel_rfl)) b_isinstance (gl (by kernel_rfl)) b_tuple rfl (so_pk (by kernel_rfl) (vis (by kernel_rfl))))) (sw_or1 (st_val (s_isi (.inr (.inr (.inr (.inr (rfl))))) rfl (gl (by kernel_rfl)) b_isinstance (gl (by kernel_rfl)) b_list rfl (so_pk (by kernel_rfl) (vis (by kernel_rfl)))))))) (sb_cons (s_ifS (SW.st (sw_or (st_cmp (o_ne hu) (so_ex (s_isi (.inr (.inr (.inr (.inl rfl)))) rfl (gl (by kernel_rfl)) b_isinstance (gl (by kernel_rfl)) b_tuple rfl (so_pk (by kernel_rfl) (vis (by kernel_rfl))))) (so_ex (s_isi (.inr (.inr (.inr (.inl rfl)))) rfl (gl (by kernel_rfl)) b_isinstance (gl (by kernel_rfl)) b_tuple rfl (so_pk (by kernel_rfl) (vis (by kernel_rfl))))) rfl) (sw_or1 (st_cmp (o_ne hu) (so_ex (s_isi (.inr (.inr (.inr (.inr (rfl))))) rfl (gl (by kernel_rfl)) b_isinstance (gl (by kernel_rfl)) b_list rfl (so_pk (by kernel_rfl) (vis (by kernel_rfl))))) (so_ex (s_isi (.inr (.inr (.inr (.inr (rfl))))) rfl (gl (by kernel_rfl)) b_isinstance (gl (by kernel_rfl)) b_list rfl (so_pk (by kernel_rfl) (vis (by kernel_rfl))))) rfl)))) (sb_one (s_ret s_bl)) sb_nil)
    (sb_cons (s_ifS (st_cmp (o_ne hu) (so_ex (s_callB c_len (gl (by kernel_rfl)) b_len rfl (sa_cons (so_pk (by kernel_rfl) (vis (by kernel_rfl))) sa_nil))) (so_ex (s_callB c_len (gl (by kernel_rfl)) b_len rfl (sa_cons (so_pk (by kernel_rfl) (vis (by kernel_rfl))) sa_nil))) rfl) (sb_one (s_ret s_bl)) sb_nil)
    (sb_one (s_ret (s_cmp (o_eq hu) (so_ex (s_callB c_len (gl (by kernel_rfl)) b_len rfl (sa_cons (so_ex (s_lc rfl hN (si_r1 (s_callB c_len (gl (by kernel_rfl)) b_len rfl (sa_cons (so_pk (by kernel_rfl) (vis (by kernel_rfl))) sa_nil)) (gl (by kernel_rfl)) b_range) (blkOk_by (own := [("k", 2)]) (by kernel_rfl)) rfl (inB (by kernel_rfl)) pv0 (fun _ _ _ _ _ => (sg_name hN (by kernel_rfl) (loc (by kernel_rfl)) np0 (hfn (by kernel_rfl)))) (fun _ _ _ _ _ => (sc_one (st_not (st_val (s_call (ih.1) (hr.mono (by omega)) calm0 (gl (by kernel_rfl)) g__law_same ih.2.2 ih.2.1 (sl_cons (s_ix (x_ix hu) (so_pk (by kernel_rfl) (vis (by kernel_rfl))) (so_pk (by kernel_rfl) (vis (by kernel_rfl))) (fun _ _ => rfl)) (sl_cons (s_ix (x_ix hu) (so_pk (by kernel_rfl) (vis (by kernel_rfl))) (so_pk (by kernel_rfl) (vis (by kernel_rfl))) (fun _ _ => rfl)) sl_nil))))))) (fun _ _ _ _ _ => (s_var (by kernel_rfl) (vis (by kernel_rfl)))))) sa_nil))) (so_ex s_int) rfl))))) sb_nil)
    (sb_cons (s_ifS (st_val (s_isi (.inr (.inr (.inl rfl))) rfl (gl (by kernel_rfl)) b_isinstance (gl (by kernel_rfl)) b_str rfl (so_pk (by kernel_rfl) (vis (by kernel_rfl))))) (sb_one (s_ret (s_and (s_isi (.inr (.inr (.inl rfl))) rfl (gl (by kernel_rfl)) b_isinstance (gl (by kernel_rfl)) b_str rfl (so_pk (by kernel_rfl) (vis (by kernel_rfl)))) (s_one (s_cmp (o_eq hu) (so_pk (by kernel_rfl) (vis (by kernel_rfl))) (so_pk (by kernel_rfl) (vis (by kernel_rfl))) rfl))))) sb_nil)
    (sb_cons (s_ifS (st_cmp o_is (so_pk (by kernel_rfl) (vis (by kernel_rfl))) (so_ex s_non) rfl) (sb_one (s_ret (s_cmp o_is (so_pk (by kernel_rfl) (vis (by kernel_rfl))) (so_ex s_non) rfl))) sb_nil)
    (sb_cons (s_ifS (SW.st (sw_or (st_val (s_isi (.inr (.inl rfl)) rfl (gl (by kernel_rfl)) b_isinstance (gl (by kernel_rfl)) b_bool rfl (so_pk (by kernel_rfl) (vis (by kernel_rfl))))) (sw_or1 (st_val (s_isi (.inr (.inl rfl)) rfl (gl (by kernel_rfl)) b_isinstance (gl (by kernel_rfl)) b_bool rfl (so_pk (by kernel_rfl) (vis (by kernel_rfl)))))))) (sb_one (s_ret (s_and (s_isi (.inr (.inl rfl)) rfl (gl (by kernel_rfl)) b_isinstance (gl (by kernel_rfl)) b_bool rfl (so_pk (by kernel_rfl) (vis (by kernel_rfl)))) (s_and (s_isi (.inr (.inl rfl)) rfl (gl (by kernel_rfl)) b_isinstance (gl (by kernel_rfl)) b_bool rfl (so_pk (by kernel_rfl) (vis (by kernel_rfl)))) (s_one (s_cmp (o_eq hu) (so_pk (by kernel_rfl) (vis (by kernel_rfl))) (so_pk (by kernel_rfl) (vis (by kernel_rfl))) rfl)))))) sb_nil)
    (sb_one (s_ret (s_and (s_isi (.inl rfl) rfl (gl (by kernel_rfl)) b_isinstance (gl (by kernel_rfl)) b_int rfl (so_pk (by kernel_rfl) (vis (by kernel_rfl)))) (s_and (s_isi (.inl rfl) rfl (gl (by kernel_rfl)) b_isinstance (gl (by kernel_rfl)) b_int rfl (so_pk (by kernel_rfl) (vis (by kernel_rfl)))) (s_one (s_cmp (o_eq hu) (so_pk (by kernel_rfl) (vis (by kernel_rfl))) (so_pk (by kernel_rfl) (vis (by kernel_rfl))) rfl)))))))))))).mono (by omega)
  | succ n ih =>
    have ih := And.intro ih (And.intro bd Fd.kp)
    exact (fn_ok (k := 1 + n) Fd sc__law_same (fns K) (cls K) (by decide) (fun cdv A outer s H E hr => by
    have hN := sc__law_same.nd
    have hu := room65 hr
    have hp := passes_of (X := cxOf (L2.CX P w) P w K mg base ["actual", "expected", "k"] "_law_same" (defScope st__law_same) (He.ga K "_law_same") cdv A outer s H E) rfl
    have tk : Takes (cxOf (L2.CX P w) P w K mg base ["actual", "expected", "k"] "_law_same" (defScope st__law_same) (He.ga K "_law_same") cdv A outer s H E) (parE (fns K) (cls K) E).W := takes_of rfl rfl rfl rfl
    exact (sb_cons (s_ifS (SW.st (sw_or (st_val (s_isi (.inr (.inr (.inr (.inl rfl)))) rfl (gl (by kernel_rfl)) b_isinstance (gl (by kernel_rfl)) b_tuple rfl (so_pk (by kernel_rfl) (vis (by kernel_rfl))))) (sw_or1 (st_val (s_isi (.inr (.inr (.inr (.inr (rfl))))) rfl (gl (by kernel_rfl)) b_isinstance (gl (by kernel_rfl)) b_list rfl (so_pk (by kernel_rfl) (vis (by kernel_rfl)))))))) (sb_cons (s_ifS (SW.st (sw_or (st_cmp (o_ne hu) (so_ex (s_isi (.inr (.inr (.inr (.inl rfl)))) rfl (gl (by kernel_rfl)) b_isinstance (gl (by kernel_rfl)) b_tuple rfl (so_pk (by kernel_rfl) (vis (by kernel_rfl))))) (so_ex (s_isi (.inr (.inr (.inr (.inl rfl)))) rfl (gl (by kernel_rfl)) b_isinstance (gl (by kernel_rfl)) b_tuple rfl (so_pk (by kernel_rfl) (vis (by kernel_rfl))))) rfl) (sw_or1 (st_cmp (o_ne hu) (so_ex (s_isi (.inr (.inr (.inr (.inr (rfl))))) rfl (gl (by kernel_rfl)) b_isinstance (gl (by kernel_rfl)) b_list rfl (so_pk (by kernel_rfl) (vis (by kernel_rfl))))) (so_ex (s_isi (.inr (.inr (.inr (.inr (rfl))))) rfl (gl (by kernel_rfl)) b_isinstance (gl (by kernel_rfl)) b_list rfl (so_pk (by kernel_rfl) (vis (by kernel_rfl))))) rfl)))) (sb_one (s_ret s_bl)) sb_nil)
    (sb_cons (s_ifS (st_cmp (o_ne hu) (so_ex (s_callB c_len (gl (by kernel_rfl)) b_len rfl (sa_cons (so_pk (by kernel_rfl) (vis (by kernel_rfl))) sa_nil))) (so_ex (s_callB c_len (gl (by kernel_rfl)) b_len rfl (sa_cons (so_pk (by kernel_rfl) (vis (by kernel_rfl))) sa_nil))) rfl) (sb_one (s_ret s_bl)) sb_nil)
    (sb_one (s_ret (s_cmp (o_eq hu) (so_ex (s_callB c_len (gl (by kernel_rfl)) b_len rfl (sa_cons (so_ex (s_lc rfl hN (si_r1 (s_callB c_len (gl (by kernel_rfl)) b_len rfl (sa_cons (so_pk (by kernel_rfl) (vis (by kernel_rfl))) sa_nil)) (gl (by kernel_rfl)) b_range) (blkOk_by (own := [("k", 2)]) (by kernel_rfl)) rfl (inB (by kernel_rfl)) pv0 (fun _ _ _ _ _ => (sg_name hN (by kernel_rfl) (loc (by kernel_rfl)) np0 (hfn (by kernel_rfl)))) (fun _ _ _ _ _ => (sc_one (st_not (st_val (s_call (ih.1) (hr.mono (by omega)) calm0 (gl (by kernel_rfl)) g__law_same ih.2.2 ih.2.1 (sl_cons (s_ix (x_ix hu) (so_pk (by kernel_rfl) (vis (by kernel_rfl))) (so_pk (by kernel_rfl) (vis (by kernel_rfl))) (fun _ _ => rfl)) (sl_cons (s_ix (x_ix hu) (so_pk (by kernel_rfl) (vis (by kernel_rfl))) (so_pk (by kernel_rfl) (vis (by kernel_rfl))) (fun _ _ => rfl)) sl_nil))))))) (fun _ _ _ _ _ => (s_var (by kernel_rfl) (vis (by kernel_rfl)))))) sa_nil))) (so_ex s_int) rfl))))) sb_nil)
    (sb_cons (s_ifS (st_val (s_isi (.inr (.inr (.inl rfl))) rfl (gl (by kernel_rfl)) b_isinstance (gl (by kernel_rfl)) b_str rfl (so_pk (by kernel_rfl) (vis (by kernel_rfl))))) (sb_one (s_ret (s_and (s_isi (.inr (.inr (.inl rfl))) rfl (gl (by kernel_rfl)) b_isinstance (gl (by kernel_rfl)) b_str rfl (so_pk (by kernel_rfl) (vis (by kernel_rfl)))) (s_one (s_cmp (o_eq hu) (so_pk (by kernel_rfl) (vis (by kernel_rfl))) (so_pk (by kernel_rfl) (vis (by kernel_rfl))) rfl))))) sb_nil)
    (sb_cons (s_ifS (st_cmp o_is (so_pk (by kernel_rfl) (vis (by kernel_rfl))) (so_ex s_non) rfl) (sb_one (s_ret (s_cmp o_is (so_pk (by kernel_rfl) (vis (by kernel_rfl))) (so_ex s_non) rfl))) sb_nil)
    (sb_cons (s_ifS (SW.st (sw_or (st_val (s_isi (.inr (.inl rfl)) rfl (gl (by kernel_rfl)) b_isinstance (gl (by kernel_rfl)) b_bool rfl (so_pk (by kernel_rfl) (vis (by kernel_rfl))))) (sw_or1 (st_val (s_isi (.inr (.inl rfl)) rfl (gl (by kernel_rfl)) b_isinstance (gl (by kernel_rfl)) b_bool rfl (so_pk (by kernel_rfl) (vis (by kernel_rfl)))))))) (sb_one (s_ret (s_and (s_isi (.inr (.inl rfl)) rfl (gl (by kernel_rfl)) b_isinstance (gl (by kernel_rfl)) b_bool rfl (so_pk (by kernel_rfl) (vis (by kernel_rfl)))) (s_and (s_isi (.inr (.inl rfl)) rfl (gl (by kernel_rfl)) b_isinstance (gl (by kernel_rfl)) b_bool rfl (so_pk (by kernel_rfl) (vis (by kernel_rfl)))) (s_one (s_cmp (o_eq hu) (so_pk (by kernel_rfl) (vis (by kernel_rfl))) (so_pk (by kernel_rfl) (vis (by kernel_rfl))) rfl)))))) sb_nil)
    (sb_one (s_ret (s_and (s_isi (.inl rfl) rfl (gl (by kernel_rfl)) b_isinstance (gl (by kernel_rfl)) b_int rfl (so_pk (by kernel_rfl) (vis (by kernel_rfl)))) (s_and (s_isi (.inl rfl) rfl (gl (by kernel_rfl)) b_isinstance (gl (by kernel_rfl)) b_int rfl (so_pk (by kernel_rfl) (vis (by kernel_rfl)))) (s_one (s_cmp (o_eq hu) (so_pk (by kernel_rfl) (vis (by kernel_rfl))) (so_pk (by kernel_rfl) (vis (by kernel_rfl))) rfl)))))))))))).mono (by omega)
theorem ok__law_same (KX : K.In h) (G : h.Ns mainGlobals mg) (c : SaysP ck fn K) : ∃ fd, (∀ n, FnOk P w K mg base (L2.CX P w) (1 + n) (He.ga K "_law_same") fd ["actual", "expected"] (spF ⟨K, w, fns K⟩ (cls K) 2 (sem__law_same n))) ∧ Binds K fd ["actual", "expected"] [] ∧ PySem.W.keepIn K (.ref (He.ga K "_law_same")) = true := by
  obtain ⟨fd, Fd⟩ := c.def_ 1 (d := d__law_same) rfl
  exact ⟨fd, okf__law_same KX G c Fd, Fd.bindsN (fun _ _ _ _ _ _ us hl => match us, hl with | [_, _], _ => rfl), Fd.kp⟩
theorem sc__law_layings : FnScope ["high", "wide", "rows", "cells", "i", "turn", "fresh", "row", "taken", "pair", "first", "other", "j", "cell"] ["high", "wide"] (defScope st__law_layings) := ⟨by kernel_rfl, by kernel_rfl, by kernel_rfl, by decide +kernel, by kernel_rfl, by decide +kernel, by decide +kernel⟩
theorem okf__law_layings (KX : K.In h) (G : h.Ns mainGlobals mg) (c : SaysP ck fn K) {fd : FuncData} (Fd : FunD K "_law_layings" "_law_layings" (defArgs st__law_layings) (defBody st__law_layings) (defScope st__law_layings) [] [] (He.ga K "_law_layings") fd) : FnOk P w K mg base (L2.CX P w) 1 (He.ga K "_law_layings") fd ["high", "wide"] (spF ⟨K, w, fns K⟩ (cls K) 2 sem__law_layings) := by
  have bd : Binds K fd ["high", "wide"] [] := Fd.bindsN fun _ _ _ _ _ _ us hl => match us, hl with | [_, _], _ => rfl
  have b_range := He.free_ok KX G (factsB_fact (ckF c) 4 (f := .free "range") rfl)
  have b_list := He.free_ok KX G (factsB_fact (ckF c) 0 (f := .free "list") rfl)
  have b_sorted := He.free_ok KX G (factsB_fact (ckF c) 9 (f := .free "sorted") rfl)
  exact fn_ok (k := 0) Fd sc__law_layings (fns K) (cls K) (by decide) (fun cdv A outer s H E hr => by
    have hN := sc__law_layings.nd
    have hu := room65 hr
    have hp := passes_of (X := cxOf (L2.CX P w) P w K mg base ["high", "wide", "rows", "cells", "i", "turn", "fresh", "row", "taken", "pair", "first", "other", "j", "cell"] "_law_layings" (defScope st__law_layings) (He.ga K "_law_layings") cdv A outer s H E) rfl
    have tk : Takes (cxOf (L2.CX P w) P w K mg base ["high", "wide", "rows", "cells", "i", "turn", "fresh", "row", "taken", "pair", "first", "other", "j", "cell"] "_law_layings" (defScope st__law_layings) (He.ga K "_law_layings") cdv A outer s H E) (parE (fns K) (cls K) E).W := takes_of rfl rfl rfl rfl
    exact (sb_cons (s_par2 rfl hN (by kernel_rfl) (by kernel_rfl) (neB (by kernel_rfl)) (by kernel_rfl) (by kernel_rfl) (sl_cons (s_lst (sl_cons (s_tup sl_nil) sl_nil)) (sl_cons (s_lst sl_nil) sl_nil)) np0 np0 (by rfl))
    (sb_cons (s_for hp rfl (si_r1 (s_var (by kernel_rfl) (vis (by kernel_rfl))) (gl (by kernel_rfl)) b_range) (sg_name hN (by kernel_rfl) (loc (by kernel_rfl)) np0 (hfn (by kernel_rfl))) (sb_one (s_set hN (by kernel_rfl) (loc (by kernel_rfl)) (s_bin o_add (so_pk (by kernel_rfl) (vis (by kernel_rfl))) (so_ex (s_lc rfl hN (si_r1 (s_var (by kernel_rfl) (vis (by kernel_rfl))) (gl (by kernel_rfl)) b_range) (blkOk_by (own := [("j", 12)]) (by kernel_rfl)) rfl (inB (by kernel_rfl)) pv0 (fun _ _ _ _ _ => (sg_name hN (by kernel_rfl) (loc (by kernel_rfl)) np0 (hfn (by kernel_rfl)))) (fun _ _ _ _ _ => sc_nil) (fun _ _ _ _ _ => (s_tup (sl_cons (s_var (by kernel_rfl) (vis (by kernel_rfl))) (sl_cons (s_var (by kernel_rfl) (vis (by kernel_rfl))) sl_nil))))))) np0 (by rfl) (hfn (by kernel_rfl)))))
    (sb_cons (s_for hp rfl (si_r1 (s_bin o_div (so_ex (s_bin o_add (so_ex (s_bin o_mul (so_pk (by kernel_rfl) (vis (by kernel_rfl))) (so_pk (by kernel_rfl) (vis (by kernel_rfl))))) (so_ex s_int))) (so_ex s_int)) (gl (by kernel_rfl)) b_range) (sg_name hN (by kernel_rfl) (loc (by kernel_rfl)) np0 (hfn (by kernel_rfl))) (sb_cons (s_set hN (by kernel_rfl) (loc (by kernel_rfl)) (s_lst sl_nil) np0 (by rfl) (hfn (by kernel_rfl)))
    (sb_cons (s_for hp rfl (si_v (s_var (by kernel_rfl) (vis (by kernel_rfl)))) (sg_name hN (by kernel_rfl) (loc (by kernel_rfl)) np0 (hfn (by kernel_rfl))) (sb_cons (s_set hN (by kernel_rfl) (loc (by kernel_rfl)) (s_lst sl_nil) np0 (by rfl) (hfn (by kernel_rfl)))
    (sb_cons (s_for hp rfl (si_v (s_var (by kernel_rfl) (vis (by kernel_rfl)))) (sg_name hN (by kernel_rfl) (loc (by kernel_rfl)) np0 (hfn (by kernel_rfl))) (sb_one (s_set hN (by kernel_rfl) (loc (by kernel_rfl)) (s_bin o_add (so_pk (by kernel_rfl) (vis (by kernel_rfl))) (so_ex (s_callT (c_list rfl) (gl (by kernel_rfl)) b_list rfl (sa_cons (so_pk (by kernel_rfl) (vis (by kernel_rfl))) sa_nil)))) np0 (by rfl) (hfn (by kernel_rfl)))))
    (sb_cons (s_set hN (by kernel_rfl) (loc (by kernel_rfl)) (s_ix (x_ix hu) (so_ex (s_lc rfl hN (si_v (s_var (by kernel_rfl) (vis (by kernel_rfl)))) (blkOk_by (own := [("cell", 13)]) (by kernel_rfl)) rfl (inB (by kernel_rfl)) pv0 (fun _ _ _ _ _ => (sg_name hN (by kernel_rfl) (loc (by kernel_rfl)) np0 (hfn (by kernel_rfl)))) (fun _ _ _ _ _ => (sc_one (st_cmp (o_nin hu) (so_pk (by kernel_rfl) (vis (by kernel_rfl))) (so_pk (by kernel_rfl) (vis (by kernel_rfl))) rfl))) (fun _ _ _ _ _ => (s_var (by kernel_rfl) (vis (by kernel_rfl)))))) (so_ex s_int) (fun _ _ => rfl)) np0 (by rfl) (hfn (by kernel_rfl)))
    (sb_one (s_for hp rfl (si_v (s_lst (sl_cons (s_tup (sl_cons (s_ix (x_ix hu) (so_pk (by kernel_rfl) (vis (by kernel_rfl))) (so_ex s_int) (fun _ _ => rfl)) (sl_cons (s_bin o_add (so_ex (s_ix (x_ix hu) (so_pk (by kernel_rfl) (vis (by kernel_rfl))) (so_ex s_int) (fun _ _ => rfl))) (so_ex s_int)) sl_nil))) (sl_cons (s_tup (sl_cons (s_bin o_add (so_ex (s_ix (x_ix hu) (so_pk (by kernel_rfl) (vis (by kernel_rfl))) (so_ex s_int) (fun _ _ => rfl))) (so_ex s_int)) (sl_cons (s_ix (x_ix hu) (so_pk (by kernel_rfl) (vis (by kernel_rfl))) (so_ex s_int) (fun _ _ => rfl)) sl_nil))) sl_nil)))) (sg_name hN (by kernel_rfl) (loc (by kernel_rfl)) np0 (hfn (by kernel_rfl))) (sb_one (s_ifS (SW.st (sw_and (st_cmp (o_in hu) (so_pk (by kernel_rfl) (vis (by kernel_rfl))) (so_pk (by kernel_rfl) (vis (by kernel_rfl))) rfl) (sw_and1 (st_cmp (o_nin hu) (so_pk (by kernel_rfl) (vis (by kernel_rfl))) (so_pk (by kernel_rfl) (vis (by kernel_rfl))) rfl)))) (sb_one (s_expr (s_mut PySem.F.slot_list_append rfl m_append (by kernel_rfl) (vis (by kernel_rfl)) (sl_cons (s_bin o_add (so_pk (by kernel_rfl) (vis (by kernel_rfl))) (so_ex (s_tup (sl_cons (s_tup (sl_cons (s_var (by kernel_rfl) (vis (by kernel_rfl))) (sl_cons (s_var (by kernel_rfl) (vis (by kernel_rfl))) sl_nil))) sl_nil)))) sl_nil)))) sb_nil))))))))
    (sb_one (s_set hN (by kernel_rfl) (loc (by kernel_rfl)) (s_var (by kernel_rfl) (vis (by kernel_rfl))) np0 (by rfl) (hfn (by kernel_rfl)))))))
    (sb_one (s_ret (s_callB (c_sorted rfl hu) (gl (by kernel_rfl)) b_sorted rfl (sa_cons (so_pk (by kernel_rfl) (vis (by kernel_rfl))) sa_nil))))))))
theorem ok__law_layings (KX : K.In h) (G : h.Ns mainGlobals mg) (c : SaysP ck fn K) : ∃ fd, (FnOk P w K mg base (L2.CX P w) 1 (He.ga K "_law_layings") fd ["high", "wide"] (spF ⟨K, w, fns K⟩ (cls K) 2 sem__law_layings)) ∧ Binds K fd ["high", "wide"] [] ∧ PySem.W.keepIn K (.ref (He.ga K "_law_layings")) = true := by
  obtain ⟨fd, Fd⟩ := c.def_ 2 (d := d__law_layings) rfl
  exact ⟨fd, okf__law_layings KX G c Fd, Fd.bindsN (fun _ _ _ _ _ _ us hl => match us, hl with | [_, _], _ => rfl), Fd.kp⟩
theorem sc_is_whole : FnScope ["value"] ["value"] (defScope st_is_whole) := ⟨by kernel_rfl, by kernel_rfl, by kernel_rfl, by decide +kernel, by kernel_rfl, by decide +kernel, by decide +kernel⟩
theorem okf_is_whole (KX : K.In h) (G : h.Ns mainGlobals mg) (c : SaysP ck fn K) {fd : FuncData} (Fd : FunD K "is_whole" "is_whole" (defArgs st_is_whole) (defBody st_is_whole) (defScope st_is_whole) [] [] (He.ga K "is_whole") fd) : FnOk P w K mg base (L2.CX P w) 1 (He.ga K "is_whole") fd ["value"] (spF ⟨K, w, fns K⟩ (cls K) 1 sem_is_whole) := by
  have bd : Binds K fd ["value"] [] := Fd.bindsN fun _ _ _ _ _ _ us hl => match us, hl with | [_], _ => rfl
  have b_isinstance := He.free_ok KX G (factsB_fact (ckF c) 1 (f := .free "isinstance") rfl)
  have b_int := He.free_ok KX G (factsB_fact (ckF c) 8 (f := .free "int") rfl)
  have b_bool := He.free_ok KX G (factsB_fact (ckF c) 7 (f := .free "bool") rfl)
  exact fn_ok (k := 0) Fd sc_is_whole (fns K) (cls K) (by decide) (fun cdv A outer s H E hr => by
    have hN := sc_is_whole.nd
    have hu := room65 hr
    have hp := passes_of (X := cxOf (L2.CX P w) P w K mg base ["value"] "is_whole" (defScope st_is_whole) (He.ga K "is_whole") cdv A outer s H E) rfl
    have tk : Takes (cxOf (L2.CX P w) P w K mg base ["value"] "is_whole" (defScope st_is_whole) (He.ga K "is_whole") cdv A outer s H E) (parE (fns K) (cls K) E).W := takes_of rfl rfl rfl rfl
    exact (sb_one (s_ret (s_and (s_isi (.inl rfl) rfl (gl (by kernel_rfl)) b_isinstance (gl (by kernel_rfl)) b_int rfl (so_pk (by kernel_rfl) (vis (by kernel_rfl)))) (s_one (s_not (s_isi (.inr (.inl rfl)) rfl (gl (by kernel_rfl)) b_isinstance (gl (by kernel_rfl)) b_bool rfl (so_pk (by kernel_rfl) (vis (by kernel_rfl))))))))))
theorem ok_is_whole (KX : K.In h) (G : h.Ns mainGlobals mg) (c : SaysP ck fn K) : ∃ fd, (FnOk P w K mg base (L2.CX P w) 1 (He.ga K "is_whole") fd ["value"] (spF ⟨K, w, fns K⟩ (cls K) 1 sem_is_whole)) ∧ Binds K fd ["value"] [] ∧ PySem.W.keepIn K (.ref (He.ga K "is_whole")) = true := by
  obtain ⟨fd, Fd⟩ := c.def_ 3 (d := d_is_whole) rfl
  exact ⟨fd, okf_is_whole KX G c Fd, Fd.bindsN (fun _ _ _ _ _ _ us hl => match us, hl with | [_], _ => rfl), Fd.kp⟩
theorem sc_is_side : FnScope ["value"] ["value"] (defScope st_is_side) := ⟨by kernel_rfl, by kernel_rfl, by kernel_rfl, by decide +kernel, by kernel_rfl, by decide +kernel, by decide +kernel⟩
theorem okf_is_side (KX : K.In h) (G : h.Ns mainGlobals mg) (c : SaysP ck fn K) {fd : FuncData} (Fd : FunD K "is_side" "is_side" (defArgs st_is_side) (defBody st_is_side) (defScope st_is_side) [] [] (He.ga K "is_side") fd) : FnOk P w K mg base (L2.CX P w) 2 (He.ga K "is_side") fd ["value"] (spF ⟨K, w, fns K⟩ (cls K) 1 sem_is_side) := by
  have bd : Binds K fd ["value"] [] := Fd.bindsN fun _ _ _ _ _ _ us hl => match us, hl with | [_], _ => rfl
  obtain ⟨_, k_is_whole⟩ := ok_is_whole (P := P) (w := w) (base := base) KX G c
  have g_is_whole := He.glo_ok KX G (factsB_fact (ckF c) 10 (f := .glo "is_whole") rfl)
  obtain ⟨_, c_MOST_SIDE⟩ := He.int_ok KX G (factsB_fact (ckF c) 11 (f := .int "MOST_SIDE" 12) rfl)
  exact fn_ok (k := 1) Fd sc_is_side (fns K) (cls K) (by decide) (fun cdv A outer s H E hr => by
    have hN := sc_is_side.nd
    have hu := room65 hr
    have hp := passes_of (X := cxOf (L2.CX P w) P w K mg base ["value"] "is_side" (defScope st_is_side) (He.ga K "is_side") cdv A outer s H E) rfl
    have tk : Takes (cxOf (L2.CX P w) P w K mg base ["value"] "is_side" (defScope st_is_side) (He.ga K "is_side") cdv A outer s H E) (parE (fns K) (cls K) E).W := takes_of rfl rfl rfl rfl
    exact (sb_one (s_ret (s_and (s_call (k_is_whole.1) (hr.mono (by decide)) tk (gl (by kernel_rfl)) g_is_whole k_is_whole.2.2 k_is_whole.2.1 (sl_cons (s_var (by kernel_rfl) (vis (by kernel_rfl))) sl_nil)) (s_one (s_chain (o_le hu) (o_le hu) (so_ex s_int) (so_pk (by kernel_rfl) (vis (by kernel_rfl))) (so_ex (s_gint (gl (by kernel_rfl)) c_MOST_SIDE))))))))
theorem ok_is_side (KX : K.In h) (G : h.Ns mainGlobals mg) (c : SaysP ck fn K) : ∃ fd, (FnOk P w K mg base (L2.CX P w) 2 (He.ga K "is_side") fd ["value"] (spF ⟨K, w, fns K⟩ (cls K) 1 sem_is_side)) ∧ Binds K fd ["value"] [] ∧ PySem.W.keepIn K (.ref (He.ga K "is_side")) = true := by
  obtain ⟨fd, Fd⟩ := c.def_ 4 (d := d_is_side) rfl
  exact ⟨fd, okf_is_side KX G c Fd, Fd.bindsN (fun _ _ _ _ _ _ us hl => match us, hl with | [_], _ => rfl), Fd.kp⟩
theorem sc_look_at_sides : FnScope ["high", "wide"] ["high", "wide"] (defScope st_look_at_sides) := ⟨by kernel_rfl, by kernel_rfl, by kernel_rfl, by decide +kernel, by kernel_rfl, by decide +kernel, by decide +kernel⟩
theorem okf_look_at_sides (KX : K.In h) (G : h.Ns mainGlobals mg) (c : SaysP ck fn K) {fd : FuncData} (Fd : FunD K "look_at_sides" "look_at_sides" (defArgs st_look_at_sides) (defBody st_look_at_sides) (defScope st_look_at_sides) [] [] (He.ga K "look_at_sides") fd) : FnOk P w K mg base (L2.CX P w) 3 (He.ga K "look_at_sides") fd ["high", "wide"] (spF ⟨K, w, fns K⟩ (cls K) 2 sem_look_at_sides) := by
  have bd : Binds K fd ["high", "wide"] [] := Fd.bindsN fun _ _ _ _ _ _ us hl => match us, hl with | [_, _], _ => rfl
  obtain ⟨_, k_is_side⟩ := ok_is_side (P := P) (w := w) (base := base) KX G c
  have g_is_side := He.glo_ok KX G (factsB_fact (ckF c) 12 (f := .glo "is_side") rfl)
  have g_BadPuzzle := He.glo_ok KX G (factsB_fact (ckF c) 13 (f := .glo "BadPuzzle") rfl)
  have x_BadPuzzle := He.exc_ok (factsB_exc (ckF c) 0 (f := "BadPuzzle") rfl).1
  exact fn_ok (k := 2) Fd sc_look_at_sides (fns K) (cls K) (by decide) (fun cdv A outer s H E hr => by
    have hN := sc_look_at_sides.nd
    have hu := room65 hr
    have hp := passes_of (X := cxOf (L2.CX P w) P w K mg base ["high", "wide"] "look_at_sides" (defScope st_look_at_sides) (He.ga K "look_at_sides") cdv A outer s H E) rfl
    have tk : Takes (cxOf (L2.CX P w) P w K mg base ["high", "wide"] "look_at_sides" (defScope st_look_at_sides) (He.ga K "look_at_sides") cdv A outer s H E) (parE (fns K) (cls K) E).W := takes_of rfl rfl rfl rfl
    exact (sb_one (s_ifS (SW.st (sw_or (st_not (st_val (s_call (k_is_side.1) (hr.mono (by decide)) tk (gl (by kernel_rfl)) g_is_side k_is_side.2.2 k_is_side.2.1 (sl_cons (s_var (by kernel_rfl) (vis (by kernel_rfl))) sl_nil)))) (sw_or1 (st_not (st_val (s_call (k_is_side.1) (hr.mono (by decide)) tk (gl (by kernel_rfl)) g_is_side k_is_side.2.2 k_is_side.2.1 (sl_cons (s_var (by kernel_rfl) (vis (by kernel_rfl))) sl_nil))))))) (sb_one (s_raise rfl tk PySem.F.excBase_ValueError x_BadPuzzle.1 g_BadPuzzle x_BadPuzzle.2.1 (raises_own x_BadPuzzle.2.2.1 x_BadPuzzle.2.2.2) (by decide) rfl (gl (by kernel_rfl)))) sb_nil)))
theorem ok_look_at_sides (KX : K.In h) (G : h.Ns mainGlobals mg) (c : SaysP ck fn K) : ∃ fd, (FnOk P w K mg base (L2.CX P w) 3 (He.ga K "look_at_sides") fd ["high", "wide"] (spF ⟨K, w, fns K⟩ (cls K) 2 sem_look_at_sides)) ∧ Binds K fd ["high", "wide"] [] ∧ PySem.W.keepIn K (.ref (He.ga K "look_at_sides")) = true := by
  obtain ⟨fd, Fd⟩ := c.def_ 5 (d := d_look_at_sides) rfl
  exact ⟨fd, okf_look_at_sides KX G c Fd, Fd.bindsN (fun _ _ _ _ _ _ us hl => match us, hl with | [_, _], _ => rfl), Fd.kp⟩
theorem sc_all_cells : FnScope ["high", "wide", "row", "column"] ["high", "wide"] (defScope st_all_cells) := ⟨by kernel_rfl, by kernel_rfl, by kernel_rfl, by decide +kernel, by kernel_rfl, by decide +kernel, by decide +kernel⟩
theorem okf_all_cells (KX : K.In h) (G : h.Ns mainGlobals mg) (c : SaysP ck fn K) {fd : FuncData} (Fd : FunD K "all_cells" "all_cells" (defArgs st_all_cells) (defBody st_all_cells) (defScope st_all_cells) [] [] (He.ga K "all_cells") fd) : FnOk P w K mg base (L2.CX P w) 4 (He.ga K "all_cells") fd ["high", "wide"] (spF ⟨K, w, fns K⟩ (cls K) 2 sem_all_cells) := by
  have bd : Binds K fd ["high", "wide"] [] := Fd.bindsN fun _ _ _ _ _ _ us hl => match us, hl with | [_, _], _ => rfl
  obtain ⟨_, k_look_at_sides⟩ := ok_look_at_sides (P := P) (w := w) (base := base) KX G c
  have g_look_at_sides := He.glo_ok KX G (factsB_fact (ckF c) 14 (f := .glo "look_at_sides") rfl)
  have b_range := He.free_ok KX G (factsB_fact (ckF c) 4 (f := .free "range") rfl)
  have b_tuple := He.free_ok KX G (factsB_fact (ckF c) 2 (f := .free "tuple") rfl)
  exact fn_ok (k := 3) Fd sc_all_cells (fns K) (cls K) (by decide) (fun cdv A outer s H E hr => by
    have hN := sc_all_cells.nd
    have hu := room65 hr
    have hp := passes_of (X := cxOf (L2.CX P w) P w K mg base ["high", "wide", "row", "column"] "all_cells" (defScope st_all_cells) (He.ga K "all_cells") cdv A outer s H E) rfl
    have tk : Takes (cxOf (L2.CX P w) P w K mg base ["high", "wide", "row", "column"] "all_cells" (defScope st_all_cells) (He.ga K "all_cells") cdv A outer s H E) (parE (fns K) (cls K) E).W := takes_of rfl rfl rfl rfl
    exact (sb_cons (s_expr (s_call (k_look_at_sides.1) (hr.mono (by decide)) tk (gl (by kernel_rfl)) g_look_at_sides k_look_at_sides.2.2 k_look_at_sides.2.1 (sl_cons (s_var (by kernel_rfl) (vis (by kernel_rfl))) (sl_cons (s_var (by kernel_rfl) (vis (by kernel_rfl))) sl_nil))))
    (sb_one (s_ret (s_callT c_tuple (gl (by kernel_rfl)) b_tuple rfl (sa_cons (so_ex (s_lc2 rfl hN (si_r1 (s_var (by kernel_rfl) (vis (by kernel_rfl))) (gl (by kernel_rfl)) b_range) (blkOk_by (own := [("row", 2), ("column", 3)]) (by kernel_rfl)) rfl (inB (by kernel_rfl)) (inB (by kernel_rfl)) (inB (by kernel_rfl)) pv0 (fun _ _ _ _ _ => (sg_name hN (by kernel_rfl) (loc (by kernel_rfl)) np0 (hfn (by kernel_rfl)))) (fun _ _ _ _ _ => sc_nil) (fun _ _ _ _ _ => (si_r1 (s_var (by kernel_rfl) (vis (by kernel_rfl))) (gl (by kernel_rfl)) b_range)) (fun _ _ _ _ _ => (sg_name hN (by kernel_rfl) (loc (by kernel_rfl)) np0 (hfn (by kernel_rfl)))) (fun _ _ _ _ _ => sc_nil) (fun _ _ _ _ _ => (s_tup (sl_cons (s_var (by kernel_rfl) (vis (by kernel_rfl))) (sl_cons (s_var (by kernel_rfl) (vis (by kernel_rfl))) sl_nil)))))) sa_nil))))))
theorem ok_all_cells (KX : K.In h) (G : h.Ns mainGlobals mg) (c : SaysP ck fn K) : ∃ fd, (FnOk P w K mg base (L2.CX P w) 4 (He.ga K "all_cells") fd ["high", "wide"] (spF ⟨K, w, fns K⟩ (cls K) 2 sem_all_cells)) ∧ Binds K fd ["high", "wide"] [] ∧ PySem.W.keepIn K (.ref (He.ga K "all_cells")) = true := by
  obtain ⟨fd, Fd⟩ := c.def_ 6 (d := d_all_cells) rfl
  exact ⟨fd, okf_all_cells KX G c Fd, Fd.bindsN (fun _ _ _ _ _ _ us hl => match us, hl with | [_, _], _ => rfl), Fd.kp⟩
theorem sc_steps_of : FnScope ["mask", "column", "wide", "here", "found"] ["mask", "column", "wide"] (defScope st_steps_of) := ⟨by kernel_rfl, by kernel_rfl, by kernel_rfl, by decide +kernel, by kernel_rfl, by decide +kernel, by decide +kernel⟩
theorem okf_steps_of (KX : K.In h) (G : h.Ns mainGlobals mg) (c : SaysP ck fn K) {fd : FuncData} (Fd : FunD K "steps_of" "steps_of" (defArgs st_steps_of) (defBody st_steps_of) (defScope st_steps_of) [] [] (He.ga K "steps_of") fd) : FnOk P w K mg base (L2.CX P w) 1 (He.ga K "steps_of") fd ["mask", "column", "wide"] (spF ⟨K, w, fns K⟩ (cls K) 3 sem_steps_of) := by
  have bd : Binds K fd ["mask", "column", "wide"] [] := Fd.bindsN fun _ _ _ _ _ _ us hl => match us, hl with | [_, _, _], _ => rfl
  exact fn_ok (k := 0) Fd sc_steps_of (fns K) (cls K) (by decide) (fun cdv A outer s H E hr => by
    have hN := sc_steps_of.nd
    have hu := room65 hr
    have hp := passes_of (X := cxOf (L2.CX P w) P w K mg base ["mask", "column", "wide", "here", "found"] "steps_of" (defScope st_steps_of) (He.ga K "steps_of") cdv A outer s H E) rfl
    have tk : Takes (cxOf (L2.CX P w) P w K mg base ["mask", "column", "wide", "here", "found"] "steps_of" (defScope st_steps_of) (He.ga K "steps_of") cdv A outer s H E) (parE (fns K) (cls K) E).W := takes_of rfl rfl rfl rfl
    exact (sb_cons (s_set hN (by kernel_rfl) (loc (by kernel_rfl)) (s_bin o_shl (so_ex s_int) (so_pk (by kernel_rfl) (vis (by kernel_rfl)))) np0 (by rfl) (hfn (by kernel_rfl)))
    (sb_cons (s_ifS (st_cmp (o_gt hu) (so_ex (s_bin o_band (so_pk (by kernel_rfl) (vis (by kernel_rfl))) (so_pk (by kernel_rfl) (vis (by kernel_rfl))))) (so_ex s_int) rfl) (sb_one (s_ret (s_lst (sl_cons (s_bin o_sub (so_pk (by kernel_rfl) (vis (by kernel_rfl))) (so_pk (by kernel_rfl) (vis (by kernel_rfl)))) sl_nil)))) sb_nil)
    (sb_cons (s_set hN (by kernel_rfl) (loc (by kernel_rfl)) (s_lst (sl_cons (s_bin o_add (so_pk (by kernel_rfl) (vis (by kernel_rfl))) (so_pk (by kernel_rfl) (vis (by kernel_rfl)))) sl_nil)) np0 (by rfl) (hfn (by kernel_rfl)))
    (sb_cons (s_ifS (SW.st (sw_and (st_cmp (o_lt hu) (so_ex (s_bin o_add (so_pk (by kernel_rfl) (vis (by kernel_rfl))) (so_ex s_int))) (so_pk (by kernel_rfl) (vis (by kernel_rfl))) rfl) (sw_and1 (st_cmp (o_eq hu) (so_ex (s_bin o_band (so_pk (by kernel_rfl) (vis (by kernel_rfl))) (so_ex (s_bin o_mul (so_pk (by kernel_rfl) (vis (by kernel_rfl))) (so_ex s_int))))) (so_ex s_int) rfl)))) (sb_one (s_expr (s_mut PySem.F.slot_list_append rfl m_append (by kernel_rfl) (vis (by kernel_rfl)) (sl_cons (s_bin o_add (so_pk (by kernel_rfl) (vis (by kernel_rfl))) (so_ex (s_bin o_mul (so_pk (by kernel_rfl) (vis (by kernel_rfl))) (so_ex s_int)))) sl_nil)))) sb_nil)
    (sb_one (s_ret (s_var (by kernel_rfl) (vis (by kernel_rfl))))))))))
theorem ok_steps_of (KX : K.In h) (G : h.Ns mainGlobals mg) (c : SaysP ck fn K) : ∃ fd, (FnOk P w K mg base (L2.CX P w) 1 (He.ga K "steps_of") fd ["mask", "column", "wide"] (spF ⟨K, w, fns K⟩ (cls K) 3 sem_steps_of)) ∧ Binds K fd ["mask", "column", "wide"] [] ∧ PySem.W.keepIn K (.ref (He.ga K "steps_of")) = true := by
  obtain ⟨fd, Fd⟩ := c.def_ 7 (d := d_steps_of) rfl
  exact ⟨fd, okf_steps_of KX G c Fd, Fd.bindsN (fun _ _ _ _ _ _ us hl => match us, hl with | [_, _, _], _ => rfl), Fd.kp⟩
theorem sc_count_layings : FnScope ["high", "wide", "rows", "_", "column", "fresh", "mask", "many", "after"] ["high", "wide"] (defScope st_count_layings) := ⟨by kernel_rfl, by kernel_rfl, by kernel_rfl, by decide +kernel, by kernel_rfl, by decide +kernel, by decide +kernel⟩
theorem okf_count_layings (KX : K.In h) (G : h.Ns mainGlobals mg) (c : SaysP ck fn K) {fd : FuncData} (Fd : FunD K "count_layings" "count_layings" (defArgs st_count_layings) (defBody st_count_layings) (defScope st_count_layings) [] [] (He.ga K "count_layings") fd) : FnOk P w K mg base (L2.CX P w) 5 (He.ga K "count_layings") fd ["high", "wide"] (spF ⟨K, w, fns K⟩ (cls K) 2 sem_count_layings) := by
  have bd : Binds K fd ["high", "wide"] [] := Fd.bindsN fun _ _ _ _ _ _ us hl => match us, hl with | [_, _], _ => rfl
  obtain ⟨_, k_all_cells⟩ := ok_all_cells (P := P) (w := w) (base := base) KX G c
  obtain ⟨_, k_steps_of⟩ := ok_steps_of (P := P) (w := w) (base := base) KX G c
  have g_all_cells := He.glo_ok KX G (factsB_fact (ckF c) 15 (f := .glo "all_cells") rfl)
  have b_range := He.free_ok KX G (factsB_fact (ckF c) 4 (f := .free "range") rfl)
  have g_steps_of := He.glo_ok KX G (factsB_fact (ckF c) 16 (f := .glo "steps_of") rfl)
  exact fn_ok (k := 4) Fd sc_count_layings (fns K) (cls K) (by decide) (fun cdv A outer s H E hr => by
    have hN := sc_count_layings.nd
    have hu := room65 hr
    have hp := passes_of (X := cxOf (L2.CX P w) P w K mg base ["high", "wide", "rows", "_", "column", "fresh", "mask", "many", "after"] "count_layings" (defScope st_count_layings) (He.ga K "count_layings") cdv A outer s H E) rfl
    have tk : Takes (cxOf (L2.CX P w) P w K mg base ["high", "wide", "rows", "_", "column", "fresh", "mask", "many", "after"] "count_layings" (defScope st_count_layings) (He.ga K "count_layings") cdv A outer s H E) (parE (fns K) (cls K) E).W := takes_of rfl rfl rfl rfl
    exact (sb_cons (s_expr (s_call (k_all_cells.1) (hr.mono (by decide)) tk (gl (by kernel_rfl)) g_all_cells k_all_cells.2.2 k_all_cells.2.1 (sl_cons (s_var (by kernel_rfl) (vis (by kernel_rfl))) (sl_cons (s_var (by kernel_rfl) (vis (by kernel_rfl))) sl_nil))))
    (sb_cons (s_set hN (by kernel_rfl) (loc (by kernel_rfl)) (s_disp hu (sp_cons s_int s_int sp_nil) rfl rfl (fun h => nomatch h) (Nat.le_of_ble_eq_true rfl)) np0 (by rfl) (hfn (by kernel_rfl)))
    (sb_cons (s_for hp rfl (si_r1 (s_var (by kernel_rfl) (vis (by kernel_rfl))) (gl (by kernel_rfl)) b_range) (sg_name hN (by kernel_rfl) (loc (by kernel_rfl)) np0 (hfn (by kernel_rfl))) (sb_one (s_for hp rfl (si_r1 (s_var (by kernel_rfl) (vis (by kernel_rfl))) (gl (by kernel_rfl)) b_range) (sg_name hN (by kernel_rfl) (loc (by kernel_rfl)) np0 (hfn (by kernel_rfl))) (sb_cons (s_set hN (by kernel_rfl) (loc (by kernel_rfl)) s_dict0 np0 (by rfl) (hfn (by kernel_rfl)))
    (sb_cons (s_for hp rfl (si_items (s_var (by kernel_rfl) (vis (by kernel_rfl)))) (sg_tup rfl (sgs_cons (sg_name hN (by kernel_rfl) (loc (by kernel_rfl)) np0 (hfn (by kernel_rfl))) (sgs_cons (sg_name hN (by kernel_rfl) (loc (by kernel_rfl)) np0 (hfn (by kernel_rfl))) sgs_nil))) (sb_one (s_for hp rfl (si_v (s_call (k_steps_of.1) (hr.mono (by decide)) tk (gl (by kernel_rfl)) g_steps_of k_steps_of.2.2 k_steps_of.2.1 (sl_cons (s_var (by kernel_rfl) (vis (by kernel_rfl))) (sl_cons (s_var (by kernel_rfl) (vis (by kernel_rfl))) (sl_cons (s_var (by kernel_rfl) (vis (by kernel_rfl))) sl_nil))))) (sg_name hN (by kernel_rfl) (loc (by kernel_rfl)) np0 (hfn (by kernel_rfl))) (sb_one (s_setD hu (by kernel_rfl) (vis (by kernel_rfl)) (s_var (by kernel_rfl) (vis (by kernel_rfl))) (s_bin o_add (so_ex (s_meth tyw_dict ty_dct PySem.F.plainAttrs_dict PySem.F.slot_dict_get rfl (m_get hu) (so_pk (by kernel_rfl) (vis (by kernel_rfl))) (sa_cons (so_pk (by kernel_rfl) (vis (by kernel_rfl))) (sa_cons (so_ex s_int) sa_nil)))) (so_pk (by kernel_rfl) (vis (by kernel_rfl)))))))))
    (sb_one (s_set hN (by kernel_rfl) (loc (by kernel_rfl)) (s_var (by kernel_rfl) (vis (by kernel_rfl))) np0 (by rfl) (hfn (by kernel_rfl)))))))))
    (sb_one (s_ret (s_meth tyw_dict ty_dct PySem.F.plainAttrs_dict PySem.F.slot_dict_get rfl (m_get hu) (so_pk (by kernel_rfl) (vis (by kernel_rfl))) (sa_cons (so_ex s_int) (sa_cons (so_ex s_int) sa_nil)))))))))
theorem ok_count_layings (KX : K.In h) (G : h.Ns mainGlobals mg) (c : SaysP ck fn K) : ∃ fd, (FnOk P w K mg base (L2.CX P w) 5 (He.ga K "count_layings") fd ["high", "wide"] (spF ⟨K, w, fns K⟩ (cls K) 2 sem_count_layings)) ∧ Binds K fd ["high", "wide"] [] ∧ PySem.W.keepIn K (.ref (He.ga K "count_layings")) = true := by
  obtain ⟨fd, Fd⟩ := c.def_ 8 (d := d_count_layings) rfl
  exact ⟨fd, okf_count_layings KX G c Fd, Fd.bindsN (fun _ _ _ _ _ _ us hl => match us, hl with | [_, _], _ => rfl), Fd.kp⟩
theorem sc_is_pair : FnScope ["value", "cell"] ["value"] (defScope st_is_pair) := ⟨by kernel_rfl, by kernel_rfl, by kernel_rfl, by decide +kernel, by kernel_rfl, by decide +kernel, by decide +kernel⟩
theorem okf_is_pair (KX : K.In h) (G : h.Ns mainGlobals mg) (c : SaysP ck fn K) {fd : FuncData} (Fd : FunD K "is_pair" "is_pair" (defArgs st_is_pair) (defBody st_is_pair) (defScope st_is_pair) [] [] (He.ga K "is_pair") fd) : FnOk P w K mg base (L2.CX P w) 2 (He.ga K "is_pair") fd ["value"] (spF ⟨K, w, fns K⟩ (cls K) 1 sem_is_pair) := by
  have bd : Binds K fd ["value"] [] := Fd.bindsN fun _ _ _ _ _ _ us hl => match us, hl with | [_], _ => rfl
  obtain ⟨_, k_is_whole⟩ := ok_is_whole (P := P) (w := w) (base := base) KX G c
  have b_isinstance := He.free_ok KX G (factsB_fact (ckF c) 1 (f := .free "isinstance") rfl)
  have b_tuple := He.free_ok KX G (factsB_fact (ckF c) 2 (f := .free "tuple") rfl)
  have b_len := He.free_ok KX G (factsB_fact (ckF c) 3 (f := .free "len") rfl)
  have b_all := He.free_ok KX G (factsB_fact (ckF c) 17 (f := .free "all") rfl)
  have g_is_whole := He.glo_ok KX G (factsB_fact (ckF c) 10 (f := .glo "is_whole") rfl)
  exact fn_ok (k := 1) Fd sc_is_pair (fns K) (cls K) (by decide) (fun cdv A outer s H E hr => by
    have hN := sc_is_pair.nd
    have hu := room65 hr
    have hp := passes_of (X := cxOf (L2.CX P w) P w K mg base ["value", "cell"] "is_pair" (defScope st_is_pair) (He.ga K "is_pair") cdv A outer s H E) rfl
    have tk : Takes (cxOf (L2.CX P w) P w K mg base ["value", "cell"] "is_pair" (defScope st_is_pair) (He.ga K "is_pair") cdv A outer s H E) (parE (fns K) (cls K) E).W := takes_of rfl rfl rfl rfl
    exact (sb_cons (s_ifS (SW.st (sw_or (st_not (st_val (s_isi (.inr (.inr (.inr (.inl rfl)))) rfl (gl (by kernel_rfl)) b_isinstance (gl (by kernel_rfl)) b_tuple rfl (so_pk (by kernel_rfl) (vis (by kernel_rfl)))))) (sw_or (st_cmp (o_ne hu) (so_ex (s_callB c_len (gl (by kernel_rfl)) b_len rfl (sa_cons (so_pk (by kernel_rfl) (vis (by kernel_rfl))) sa_nil))) (so_ex s_int) rfl) (sw_or1 (st_not (st_val (s_callB (c_all rfl) (gl (by kernel_rfl)) b_all rfl (sa_cons (so_ex (s_lc rfl hN (si_v (s_var (by kernel_rfl) (vis (by kernel_rfl)))) (blkOk_by (own := [("cell", 1)]) (by kernel_rfl)) rfl (inB (by kernel_rfl)) pv0 (fun _ _ _ _ _ => (sg_name hN (by kernel_rfl) (loc (by kernel_rfl)) np0 (hfn (by kernel_rfl)))) (fun _ _ _ _ _ => sc_nil) (fun _ _ _ _ _ => (s_isi (.inr (.inr (.inr (.inl rfl)))) rfl (gl (by kernel_rfl)) b_isinstance (gl (by kernel_rfl)) b_tuple rfl (so_pk (by kernel_rfl) (vis (by kernel_rfl))))))) sa_nil)))))))) (sb_one (s_ret s_bl)) sb_nil)
    (sb_one (s_ret (s_callB (c_all rfl) (gl (by kernel_rfl)) b_all rfl (sa_cons (so_ex (s_lc rfl hN (si_v (s_var (by kernel_rfl) (vis (by kernel_rfl)))) (blkOk_by (own := [("cell", 1)]) (by kernel_rfl)) rfl (inB (by kernel_rfl)) pv0 (fun _ _ _ _ _ => (sg_name hN (by kernel_rfl) (loc (by kernel_rfl)) np0 (hfn (by kernel_rfl)))) (fun _ _ _ _ _ => sc_nil) (fun _ _ _ _ _ => (s_and (s_cmp (o_eq hu) (so_ex (s_callB c_len (gl (by kernel_rfl)) b_len rfl (sa_cons (so_pk (by kernel_rfl) (vis (by kernel_rfl))) sa_nil))) (so_ex s_int) rfl) (s_and (s_call (k_is_whole.1) (hr.mono (by decide)) calm0 (gl (by kernel_rfl)) g_is_whole k_is_whole.2.2 k_is_whole.2.1 (sl_cons (s_ix (x_ix hu) (so_pk (by kernel_rfl) (vis (by kernel_rfl))) (so_ex s_int) (fun _ _ => rfl)) sl_nil)) (s_one (s_call (k_is_whole.1) (hr.mono (by decide)) calm0 (gl (by kernel_rfl)) g_is_whole k_is_whole.2.2 k_is_whole.2.1 (sl_cons (s_ix (x_ix hu) (so_pk (by kernel_rfl) (vis (by kernel_rfl))) (so_ex s_int) (fun _ _ => rfl)) sl_nil)))))))) sa_nil))))))
theorem ok_is_pair (KX : K.In h) (G : h.Ns mainGlobals mg) (c : SaysP ck fn K) : ∃ fd, (FnOk P w K mg base (L2.CX P w) 2 (He.ga K "is_pair") fd ["value"] (spF ⟨K, w, fns K⟩ (cls K) 1 sem_is_pair)) ∧ Binds K fd ["value"] [] ∧ PySem.W.keepIn K (.ref (He.ga K "is_pair")) = true := by
  obtain ⟨fd, Fd⟩ := c.def_ 9 (d := d_is_pair) rfl
  exact ⟨fd, okf_is_pair KX G c Fd, Fd.bindsN (fun _ _ _ _ _ _ us hl => match us, hl with | [_], _ => rfl), Fd.kp⟩
theorem sc_is_cell : FnScope ["high", "wide", "value"] ["high", "wide", "value"] (defScope st_is_cell) := ⟨by kernel_rfl, by kernel_rfl, by kernel_rfl, by decide +kernel, by kernel_rfl, by decide +kernel, by decide +kernel⟩
theorem okf_is_cell (KX : K.In h) (G : h.Ns mainGlobals mg) (c : SaysP ck fn K) {fd : FuncData} (Fd : FunD K "is_cell" "is_cell" (defArgs st_is_cell) (defBody st_is_cell) (defScope st_is_cell) [] [] (He.ga K "is_cell") fd) : FnOk P w K mg base (L2.CX P w) 2 (He.ga K "is_cell") fd ["high", "wide", "value"] (spF ⟨K, w, fns K⟩ (cls K) 3 sem_is_cell) := by
  have bd : Binds K fd ["high", "wide", "value"] [] := Fd.bindsN fun _ _ _ _ _ _ us hl => match us, hl with | [_, _, _], _ => rfl
  obtain ⟨_, k_is_whole⟩ := ok_is_whole (P := P) (w := w) (base := base) KX G c
  have b_isinstance := He.free_ok KX G (factsB_fact (ckF c) 1 (f := .free "isinstance") rfl)
  have b_tuple := He.free_ok KX G (factsB_fact (ckF c) 2 (f := .free "tuple") rfl)
  have b_len := He.free_ok KX G (factsB_fact (ckF c) 3 (f := .free "len") rfl)
  have g_is_whole := He.glo_ok KX G (factsB_fact (ckF c) 10 (f := .glo "is_whole") rfl)
  exact fn_ok (k := 1) Fd sc_is_cell (fns K) (cls K) (by decide) (fun cdv A outer s H E hr => by
    have hN := sc_is_cell.nd
    have hu := room65 hr
    have hp := passes_of (X := cxOf (L2.CX P w) P w K mg base ["high", "wide", "value"] "is_cell" (defScope st_is_cell) (He.ga K "is_cell") cdv A outer s H E) rfl
    have tk : Takes (cxOf (L2.CX P w) P w K mg base ["high", "wide", "value"] "is_cell" (defScope st_is_cell) (He.ga K "is_cell") cdv A outer s H E) (parE (fns K) (cls K) E).W := takes_of rfl rfl rfl rfl
    exact (sb_cons (s_ifS (SW.st (sw_or (st_not (st_val (s_isi (.inr (.inr (.inr (.inl rfl)))) rfl (gl (by kernel_rfl)) b_isinstance (gl (by kernel_rfl)) b_tuple rfl (so_pk (by kernel_rfl) (vis (by kernel_rfl)))))) (sw_or (st_cmp (o_ne hu) (so_ex (s_callB c_len (gl (by kernel_rfl)) b_len rfl (sa_cons (so_pk (by kernel_rfl) (vis (by kernel_rfl))) sa_nil))) (so_ex s_int) rfl) (sw_or (st_not (st_val (s_call (k_is_whole.1) (hr.mono (by decide)) tk (gl (by kernel_rfl)) g_is_whole k_is_whole.2.2 k_is_whole.2.1 (sl_cons (s_ix (x_ix hu) (so_pk (by kernel_rfl) (vis (by kernel_rfl))) (so_ex s_int) (fun _ _ => rfl)) sl_nil)))) (sw_or1 (st_not (st_val (s_call (k_is_whole.1) (hr.mono (by decide)) tk (gl (by kernel_rfl)) g_is_whole k_is_whole.2.2 k_is_whole.2.1 (sl_cons (s_ix (x_ix hu) (so_pk (by kernel_rfl) (vis (by kernel_rfl))) (so_ex s_int) (fun _ _ => rfl)) sl_nil))))))))) (sb_one (s_ret s_bl)) sb_nil)
    (sb_one (s_ret (s_and (s_chain (o_le hu) (o_lt hu) (so_ex s_int) (so_ex (s_ix (x_ix hu) (so_pk (by kernel_rfl) (vis (by kernel_rfl))) (so_ex s_int) (fun _ _ => rfl))) (so_pk (by kernel_rfl) (vis (by kernel_rfl)))) (s_one (s_chain (o_le hu) (o_lt hu) (so_ex s_int) (so_ex (s_ix (x_ix hu) (so_pk (by kernel_rfl) (vis (by kernel_rfl))) (so_ex s_int) (fun _ _ => rfl))) (so_pk (by kernel_rfl) (vis (by kernel_rfl))))))))))
theorem ok_is_cell (KX : K.In h) (G : h.Ns mainGlobals mg) (c : SaysP ck fn K) : ∃ fd, (FnOk P w K mg base (L2.CX P w) 2 (He.ga K "is_cell") fd ["high", "wide", "value"] (spF ⟨K, w, fns K⟩ (cls K) 3 sem_is_cell)) ∧ Binds K fd ["high", "wide", "value"] [] ∧ PySem.W.keepIn K (.ref (He.ga K "is_cell")) = true := by
  obtain ⟨fd, Fd⟩ := c.def_ 10 (d := d_is_cell) rfl
  exact ⟨fd, okf_is_cell KX G c Fd, Fd.bindsN (fun _ _ _ _ _ _ us hl => match us, hl with | [_, _, _], _ => rfl), Fd.kp⟩
theorem sc_look_at_cell : FnScope ["high", "wide", "value"] ["high", "wide", "value"] (defScope st_look_at_cell) := ⟨by kernel_rfl, by kernel_rfl, by kernel_rfl, by decide +kernel, by kernel_rfl, by decide +kernel, by decide +kernel⟩
theorem okf_look_at_cell (KX : K.In h) (G : h.Ns mainGlobals mg) (c : SaysP ck fn K) {fd : FuncData} (Fd : FunD K "look_at_cell" "look_at_cell" (defArgs st_look_at_cell) (defBody st_look_at_cell) (defScope st_look_at_cell) [] [] (He.ga K "look_at_cell") fd) : FnOk P w K mg base (L2.CX P w) 4 (He.ga K "look_at_cell") fd ["high", "wide", "value"] (spF ⟨K, w, fns K⟩ (cls K) 3 sem_look_at_cell) := by
  have bd : Binds K fd ["high", "wide", "value"] [] := Fd.bindsN fun _ _ _ _ _ _ us hl => match us, hl with | [_, _, _], _ => rfl
  obtain ⟨_, k_is_cell⟩ := ok_is_cell (P := P) (w := w) (base := base) KX G c
  obtain ⟨_, k_look_at_sides⟩ := ok_look_at_sides (P := P) (w := w) (base := base) KX G c
  have g_look_at_sides := He.glo_ok KX G (factsB_fact (ckF c) 14 (f := .glo "look_at_sides") rfl)
  have g_is_cell := He.glo_ok KX G (factsB_fact (ckF c) 18 (f := .glo "is_cell") rfl)
  have g_BadPuzzle := He.glo_ok KX G (factsB_fact (ckF c) 13 (f := .glo "BadPuzzle") rfl)
  have x_BadPuzzle := He.exc_ok (factsB_exc (ckF c) 0 (f := "BadPuzzle") rfl).1
  exact fn_ok (k := 3) Fd sc_look_at_cell (fns K) (cls K) (by decide) (fun cdv A outer s H E hr => by
    have hN := sc_look_at_cell.nd
    have hu := room65 hr
    have hp := passes_of (X := cxOf (L2.CX P w) P w K mg base ["high", "wide", "value"] "look_at_cell" (defScope st_look_at_cell) (He.ga K "look_at_cell") cdv A outer s H E) rfl
    have tk : Takes (cxOf (L2.CX P w) P w K mg base ["high", "wide", "value"] "look_at_cell" (defScope st_look_at_cell) (He.ga K "look_at_cell") cdv A outer s H E) (parE (fns K) (cls K) E).W := takes_of rfl rfl rfl rfl
    exact (sb_cons (s_expr (s_call (k_look_at_sides.1) (hr.mono (by decide)) tk (gl (by kernel_rfl)) g_look_at_sides k_look_at_sides.2.2 k_look_at_sides.2.1 (sl_cons (s_var (by kernel_rfl) (vis (by kernel_rfl))) (sl_cons (s_var (by kernel_rfl) (vis (by kernel_rfl))) sl_nil))))
    (sb_one (s_ifS (st_not (st_val (s_call (k_is_cell.1) (hr.mono (by decide)) tk (gl (by kernel_rfl)) g_is_cell k_is_cell.2.2 k_is_cell.2.1 (sl_cons (s_var (by kernel_rfl) (vis (by kernel_rfl))) (sl_cons (s_var (by kernel_rfl) (vis (by kernel_rfl))) (sl_cons (s_var (by kernel_rfl) (vis (by kernel_rfl))) sl_nil)))))) (sb_one (s_raise rfl tk PySem.F.excBase_ValueError x_BadPuzzle.1 g_BadPuzzle x_BadPuzzle.2.1 (raises_own x_BadPuzzle.2.2.1 x_BadPuzzle.2.2.2) (by decide) rfl (gl (by kernel_rfl)))) sb_nil))))
theorem ok_look_at_cell (KX : K.In h) (G : h.Ns mainGlobals mg) (c : SaysP ck fn K) : ∃ fd, (FnOk P w K mg base (L2.CX P w) 4 (He.ga K "look_at_cell") fd ["high", "wide", "value"] (spF ⟨K, w, fns K⟩ (cls K) 3 sem_look_at_cell)) ∧ Binds K fd ["high", "wide", "value"] [] ∧ PySem.W.keepIn K (.ref (He.ga K "look_at_cell")) = true := by
  obtain ⟨fd, Fd⟩ := c.def_ 11 (d := d_look_at_cell) rfl
  exact ⟨fd, okf_look_at_cell KX G c Fd, Fd.bindsN (fun _ _ _ _ _ _ us hl => match us, hl with | [_, _, _], _ => rfl), Fd.kp⟩
theorem sc_beside : FnScope ["high", "wide", "cell", "row", "column", "near", "one"] ["high", "wide", "cell"] (defScope st_beside) := ⟨by kernel_rfl, by kernel_rfl, by kernel_rfl, by decide +kernel, by kernel_rfl, by decide +kernel, by decide +kernel⟩
theorem okf_beside (KX : K.In h) (G : h.Ns mainGlobals mg) (c : SaysP ck fn K) {fd : FuncData} (Fd : FunD K "beside" "beside" (defArgs st_beside) (defBody st_beside) (defScope st_beside) [] [] (He.ga K "beside") fd) : FnOk P w K mg base (L2.CX P w) 5 (He.ga K "beside") fd ["high", "wide", "cell"] (spF ⟨K, w, fns K⟩ (cls K) 3 sem_beside) := by
  have bd : Binds K fd ["high", "wide", "cell"] [] := Fd.bindsN fun _ _ _ _ _ _ us hl => match us, hl with | [_, _, _], _ => rfl
  obtain ⟨_, k_is_cell⟩ := ok_is_cell (P := P) (w := w) (base := base) KX G c
  obtain ⟨_, k_look_at_cell⟩ := ok_look_at_cell (P := P) (w := w) (base := base) KX G c
  have g_look_at_cell := He.glo_ok KX G (factsB_fact (ckF c) 19 (f := .glo "look_at_cell") rfl)
  have g_is_cell := He.glo_ok KX G (factsB_fact (ckF c) 18 (f := .glo "is_cell") rfl)
  have b_tuple := He.free_ok KX G (factsB_fact (ckF c) 2 (f := .free "tuple") rfl)
  exact fn_ok (k := 4) Fd sc_beside (fns K) (cls K) (by decide) (fun cdv A outer s H E hr => by
    have hN := sc_beside.nd
    have hu := room65 hr
    have hp := passes_of (X := cxOf (L2.CX P w) P w K mg base ["high", "wide", "cell", "row", "column", "near", "one"] "beside" (defScope st_beside) (He.ga K "beside") cdv A outer s H E) rfl
    have tk : Takes (cxOf (L2.CX P w) P w K mg base ["high", "wide", "cell", "row", "column", "near", "one"] "beside" (defScope st_beside) (He.ga K "beside") cdv A outer s H E) (parE (fns K) (cls K) E).W := takes_of rfl rfl rfl rfl
    exact (sb_cons (s_expr (s_call (k_look_at_cell.1) (hr.mono (by decide)) tk (gl (by kernel_rfl)) g_look_at_cell k_look_at_cell.2.2 k_look_at_cell.2.1 (sl_cons (s_var (by kernel_rfl) (vis (by kernel_rfl))) (sl_cons (s_var (by kernel_rfl) (vis (by kernel_rfl))) (sl_cons (s_var (by kernel_rfl) (vis (by kernel_rfl))) sl_nil)))))
    (sb_cons (s_asg (s_var (by kernel_rfl) (vis (by kernel_rfl))) (sg_tup rfl (sgs_cons (sg_name hN (by kernel_rfl) (loc (by kernel_rfl)) np0 (hfn (by kernel_rfl))) (sgs_cons (sg_name hN (by kernel_rfl) (loc (by kernel_rfl)) np0 (hfn (by kernel_rfl))) sgs_nil))))
    (sb_cons (s_set hN (by kernel_rfl) (loc (by kernel_rfl)) (s_lst (sl_cons (s_tup (sl_cons (s_bin o_sub (so_pk (by kernel_rfl) (vis (by kernel_rfl))) (so_ex s_int)) (sl_cons (s_var (by kernel_rfl) (vis (by kernel_rfl))) sl_nil))) (sl_cons (s_tup (sl_cons (s_var (by kernel_rfl) (vis (by kernel_rfl))) (sl_cons (s_bin o_sub (so_pk (by kernel_rfl) (vis (by kernel_rfl))) (so_ex s_int)) sl_nil))) (sl_cons (s_tup (sl_cons (s_var (by kernel_rfl) (vis (by kernel_rfl))) (sl_cons (s_bin o_add (so_pk (by kernel_rfl) (vis (by kernel_rfl))) (so_ex s_int)) sl_nil))) (sl_cons (s_tup (sl_cons (s_bin o_add (so_pk (by kernel_rfl) (vis (by kernel_rfl))) (so_ex s_int)) (sl_cons (s_var (by kernel_rfl) (vis (by kernel_rfl))) sl_nil))) sl_nil))))) np0 (by rfl) (hfn (by kernel_rfl)))
    (sb_one (s_ret (s_callT c_tuple (gl (by kernel_rfl)) b_tuple rfl (sa_cons (so_ex (s_lc rfl hN (si_v (s_var (by kernel_rfl) (vis (by kernel_rfl)))) (blkOk_by (own := [("one", 6)]) (by kernel_rfl)) rfl (inB (by kernel_rfl)) pv0 (fun _ _ _ _ _ => (sg_name hN (by kernel_rfl) (loc (by kernel_rfl)) np0 (hfn (by kernel_rfl)))) (fun _ _ _ _ _ => (sc_one (st_val (s_call (k_is_cell.1) (hr.mono (by decide)) calm0 (gl (by kernel_rfl)) g_is_cell k_is_cell.2.2 k_is_cell.2.1 (sl_cons (s_var (by kernel_rfl) (vis (by kernel_rfl))) (sl_cons (s_var (by kernel_rfl) (vis (by kernel_rfl))) (sl_cons (s_var (by kernel_rfl) (vis (by kernel_rfl))) sl_nil))))))) (fun _ _ _ _ _ => (s_var (by kernel_rfl) (vis (by kernel_rfl)))))) sa_nil))))))))
theorem ok_beside (KX : K.In h) (G : h.Ns mainGlobals mg) (c : SaysP ck fn K) : ∃ fd, (FnOk P w K mg base (L2.CX P w) 5 (He.ga K "beside") fd ["high", "wide", "cell"] (spF ⟨K, w, fns K⟩ (cls K) 3 sem_beside)) ∧ Binds K fd ["high", "wide", "cell"] [] ∧ PySem.W.keepIn K (.ref (He.ga K "beside")) = true := by
  obtain ⟨fd, Fd⟩ := c.def_ 12 (d := d_beside) rfl
  exact ⟨fd, okf_beside KX G c Fd, Fd.bindsN (fun _ _ _ _ _ _ us hl => match us, hl with | [_, _, _], _ => rfl), Fd.kp⟩
theorem sc_is_laying : FnScope ["high", "wide", "value", "cells", "every", "pair", "cell", "one", "two"] ["high", "wide", "value"] (defScope st_is_laying) := ⟨by kernel_rfl, by kernel_rfl, by kernel_rfl, by decide +kernel, by kernel_rfl, by decide +kernel, by decide +kernel⟩
theorem okf_is_laying (KX : K.In h) (G : h.Ns mainGlobals mg) (c : SaysP ck fn K) {fd : FuncData} (Fd : FunD K "is_laying" "is_laying" (defArgs st_is_laying) (defBody st_is_laying) (defScope st_is_laying) [] [] (He.ga K "is_laying") fd) : FnOk P w K mg base (L2.CX P w) 6 (He.ga K "is_laying") fd ["high", "wide", "value"] (spF ⟨K, w, fns K⟩ (cls K) 3 sem_is_laying) := by
  have bd : Binds K fd ["high", "wide", "value"] [] := Fd.bindsN fun _ _ _ _ _ _ us hl => match us, hl with | [_, _, _], _ => rfl
  obtain ⟨_, k_all_cells⟩ := ok_all_cells (P := P) (w := w) (base := base) KX G c
  obtain ⟨_, k_beside⟩ := ok_beside (P := P) (w := w) (base := base) KX G c
  obtain ⟨_, k_is_pair⟩ := ok_is_pair (P := P) (w := w) (base := base) KX G c
  have g_all_cells := He.glo_ok KX G (factsB_fact (ckF c) 15 (f := .glo "all_cells") rfl)
  have b_isinstance := He.free_ok KX G (factsB_fact (ckF c) 1 (f := .free "isinstance") rfl)
  have b_tuple := He.free_ok KX G (factsB_fact (ckF c) 2 (f := .free "tuple") rfl)
  have g_is_pair := He.glo_ok KX G (factsB_fact (ckF c) 20 (f := .glo "is_pair") rfl)
  have b_all := He.free_ok KX G (factsB_fact (ckF c) 17 (f := .free "all") rfl)
  have b_list := He.free_ok KX G (factsB_fact (ckF c) 0 (f := .free "list") rfl)
  have b_sorted := He.free_ok KX G (factsB_fact (ckF c) 9 (f := .free "sorted") rfl)
  have g_beside := He.glo_ok KX G (factsB_fact (ckF c) 21 (f := .glo "beside") rfl)
  exact fn_ok (k := 5) Fd sc_is_laying (fns K) (cls K) (by decide) (fun cdv A outer s H E hr => by
    have hN := sc_is_laying.nd
    have hu := room65 hr
    have hp := passes_of (X := cxOf (L2.CX P w) P w K mg base ["high", "wide", "value", "cells", "every", "pair", "cell", "one", "two"] "is_laying" (defScope st_is_laying) (He.ga K "is_laying") cdv A outer s H E) rfl
    have tk : Takes (cxOf (L2.CX P w) P w K mg base ["high", "wide", "value", "cells", "every", "pair", "cell", "one", "two"] "is_laying" (defScope st_is_laying) (He.ga K "is_laying") cdv A outer s H E) (parE (fns K) (cls K) E).W := takes_of rfl rfl rfl rfl
    exact (sb_cons (s_set hN (by kernel_rfl) (loc (by kernel_rfl)) (s_call (k_all_cells.1) (hr.mono (by decide)) tk (gl (by kernel_rfl)) g_all_cells k_all_cells.2.2 k_all_cells.2.1 (sl_cons (s_var (by kernel_rfl) (vis (by kernel_rfl))) (sl_cons (s_var (by kernel_rfl) (vis (by kernel_rfl))) sl_nil))) np0 (by rfl) (hfn (by kernel_rfl)))
    (sb_cons (s_ifS (SW.st (sw_or (st_not (st_val (s_isi (.inr (.inr (.inr (.inl rfl)))) rfl (gl (by kernel_rfl)) b_isinstance (gl (by kernel_rfl)) b_tuple rfl (so_pk (by kernel_rfl) (vis (by kernel_rfl)))))) (sw_or (st_not (st_val (s_callB (c_all rfl) (gl (by kernel_rfl)) b_all rfl (sa_cons (so_ex (s_lc rfl hN (si_v (s_var (by kernel_rfl) (vis (by kernel_rfl)))) (blkOk_by (own := [("pair", 5)]) (by kernel_rfl)) rfl (inB (by kernel_rfl)) pv0 (fun _ _ _ _ _ => (sg_name hN (by kernel_rfl) (loc (by kernel_rfl)) np0 (hfn (by kernel_rfl)))) (fun _ _ _ _ _ => sc_nil) (fun _ _ _ _ _ => (s_call (k_is_pair.1) (hr.mono (by decide)) calm0 (gl (by kernel_rfl)) g_is_pair k_is_pair.2.2 k_is_pair.2.1 (sl_cons (s_var (by kernel_rfl) (vis (by kernel_rfl))) sl_nil))))) sa_nil)))) (sw_or1 (st_cmp (o_ne hu) (so_ex (s_callT (c_list rfl) (gl (by kernel_rfl)) b_list rfl (sa_cons (so_pk (by kernel_rfl) (vis (by kernel_rfl))) sa_nil))) (so_ex (s_callB (c_sorted rfl hu) (gl (by kernel_rfl)) b_sorted rfl (sa_cons (so_pk (by kernel_rfl) (vis (by kernel_rfl))) sa_nil))) rfl))))) (sb_one (s_ret s_bl)) sb_nil)
    (sb_cons (s_setLc2 rfl hN (by kernel_rfl) (by kernel_rfl) (sw_true rfl (by kernel_rfl) rfl (by kernel_rfl)) np0 (si_v (s_var (by kernel_rfl) (vis (by kernel_rfl)))) (blkOk_by (own := [("pair", 5), ("cell", 6)]) (by kernel_rfl)) rfl (inB (by kernel_rfl)) (inB (by kernel_rfl)) (inB (by kernel_rfl)) pv0 (fun _ _ _ _ _ => (sg_name hN (by kernel_rfl) (loc (by kernel_rfl)) np0 (hfn (by kernel_rfl)))) (fun _ _ _ _ _ => sc_nil) (fun _ _ _ _ _ => (si_v (s_var (by kernel_rfl) (vis (by kernel_rfl))))) (fun _ _ _ _ _ => (sg_name hN (by kernel_rfl) (loc (by kernel_rfl)) np0 (hfn (by kernel_rfl)))) (fun _ _ _ _ _ => sc_nil) (fun _ _ _ _ _ => (s_var (by kernel_rfl) (vis (by kernel_rfl)))))
    (sb_cons (s_ifS (st_cmp (o_ne hu) (so_ex (s_callB (c_sorted rfl hu) (gl (by kernel_rfl)) b_sorted rfl (sa_cons (so_pk (by kernel_rfl) (vis (by kernel_rfl))) sa_nil))) (so_ex (s_callT (c_list rfl) (gl (by kernel_rfl)) b_list rfl (sa_cons (so_pk (by kernel_rfl) (vis (by kernel_rfl))) sa_nil))) rfl) (sb_one (s_ret s_bl)) sb_nil)
    (sb_one (s_ret (s_callB (c_all rfl) (gl (by kernel_rfl)) b_all rfl (sa_cons (so_ex (s_lc rfl hN (si_v (s_var (by kernel_rfl) (vis (by kernel_rfl)))) (blkOk_by (own := [("one", 7), ("two", 8)]) (by kernel_rfl)) rfl (inB (by kernel_rfl)) pv0 (fun _ _ _ _ _ => (sg_tup rfl (sgs_cons (sg_name hN (by kernel_rfl) (loc (by kernel_rfl)) np0 (hfn (by kernel_rfl))) (sgs_cons (sg_name hN (by kernel_rfl) (loc (by kernel_rfl)) np0 (hfn (by kernel_rfl))) sgs_nil)))) (fun _ _ _ _ _ => sc_nil) (fun _ _ _ _ _ => (s_and (s_cmp (o_lt hu) (so_pk (by kernel_rfl) (vis (by kernel_rfl))) (so_pk (by kernel_rfl) (vis (by kernel_rfl))) rfl) (s_one (s_cmp (o_in hu) (so_pk (by kernel_rfl) (vis (by kernel_rfl))) (so_ex (s_call (k_beside.1) (hr.mono (by decide)) calm0 (gl (by kernel_rfl)) g_beside k_beside.2.2 k_beside.2.1 (sl_cons (s_var (by kernel_rfl) (vis (by kernel_rfl))) (sl_cons (s_var (by kernel_rfl) (vis (by kernel_rfl))) (sl_cons (s_var (by kernel_rfl) (vis (by kernel_rfl))) sl_nil))))) rfl)))))) sa_nil)))))))))
theorem ok_is_laying (KX : K.In h) (G : h.Ns mainGlobals mg) (c : SaysP ck fn K) : ∃ fd, (FnOk P w K mg base (L2.CX P w) 6 (He.ga K "is_laying") fd ["high", "wide", "value"] (spF ⟨K, w, fns K⟩ (cls K) 3 sem_is_laying)) ∧ Binds K fd ["high", "wide", "value"] [] ∧ PySem.W.keepIn K (.ref (He.ga K "is_laying")) = true := by
  obtain ⟨fd, Fd⟩ := c.def_ 13 (d := d_is_laying) rfl
  exact ⟨fd, okf_is_laying KX G c Fd, Fd.bindsN (fun _ _ _ _ _ _ us hl => match us, hl with | [_, _, _], _ => rfl), Fd.kp⟩
theorem sc__law_asked : FnScope ["k", "high", "wide", "value", "e"] ["k", "high", "wide", "value"] (defScope st__law_asked) := ⟨by kernel_rfl, by kernel_rfl, by kernel_rfl, by decide +kernel, by kernel_rfl, by decide +kernel, by decide +kernel⟩
theorem okf__law_asked (KX : K.In h) (G : h.Ns mainGlobals mg) (c : SaysP ck fn K) {fd : FuncData} (Fd : FunD K "_law_asked" "_law_asked" (defArgs st__law_asked) (defBody st__law_asked) (defScope st__law_asked) [] [] (He.ga K "_law_asked") fd) : FnOk P w K mg base (L2.CX P w) 7 (He.ga K "_law_asked") fd ["k", "high", "wide", "value"] (spF ⟨K, w, fns K⟩ (cls K) 4 sem__law_asked) := by
  have bd : Binds K fd ["k", "high", "wide", "value"] [] := Fd.bindsN fun _ _ _ _ _ _ us hl => match us, hl with | [_, _, _, _], _ => rfl
  obtain ⟨_, k_count_layings⟩ := ok_count_layings (P := P) (w := w) (base := base) KX G c
  obtain ⟨_, k_is_laying⟩ := ok_is_laying (P := P) (w := w) (base := base) KX G c
  have g_count_layings := He.glo_ok KX G (factsB_fact (ckF c) 22 (f := .glo "count_layings") rfl)
  have g_is_laying := He.glo_ok KX G (factsB_fact (ckF c) 23 (f := .glo "is_laying") rfl)
  have b_isinstance := He.free_ok KX G (factsB_fact (ckF c) 1 (f := .free "isinstance") rfl)
  have g_BadPuzzle := He.glo_ok KX G (factsB_fact (ckF c) 13 (f := .glo "BadPuzzle") rfl)
  have g_PencilError := He.glo_ok KX G (factsB_fact (ckF c) 24 (f := .glo "PencilError") rfl)
  have exC : ExcC K (He.ga K "BadPuzzle") := (factsB_exc (ckF c) 0 (f := "BadPuzzle") rfl).2
  have kE_BadPuzzle := kit_BadPuzzle_BadPuzzle c
  have hE0 : ∀ {e : Exc} {cl : Value} {d : Option Addr}, ExC (cls K) e cl d → cl = .ref (He.ga K "BadPuzzle") ∧ d = none := fun {e cl d} ⟨C, h1, h2, h3⟩ => by
    unfold cls at h1
    split at h1
    · rename_i hc
      cases h1
      exact ⟨h2, h3 (by rw [hc]; decide)⟩
    · cases h1
  have em_PencilError := He.exm_ok (factsB_fact (ckF c) 31 (f := .exm "BadPuzzle" "PencilError" true) rfl)
  have hcat_PencilError : ∀ (e : Exc) (cl : Value) (d : Option Addr), ExC (cls K) e cl d → PySem.W.exmOne K cl (.ref (He.ga K "PencilError")) = some (catP e.c) := fun e cl d z => by
    obtain ⟨h1, _⟩ := hE0 z
    rw [h1]
    exact em_PencilError
  exact fn_ok (k := 6) Fd sc__law_asked (fns K) (cls K) (by decide) (fun cdv A outer s H E hr => by
    have hN := sc__law_asked.nd
    have hu := room65 hr
    have hp := passes_of (X := cxOf (L2.CX P w) P w K mg base ["k", "high", "wide", "value", "e"] "_law_asked" (defScope st__law_asked) (He.ga K "_law_asked") cdv A outer s H E) rfl
    have tk : Takes (cxOf (L2.CX P w) P w K mg base ["k", "high", "wide", "value", "e"] "_law_asked" (defScope st__law_asked) (He.ga K "_law_asked") cdv A outer s H E) (parE (fns K) (cls K) E).W := takes_of rfl rfl rfl rfl
    exact (sb_one (s_try rfl rfl hN (by kernel_rfl) (by kernel_rfl) ⟨(gl (by kernel_rfl)), by decide, .inl g_PencilError⟩ tk np0 hcat_PencilError (fun W pn xe tk hp => (sb_one (s_ret (s_if (st_cmp (o_eq hu) (so_pk (by kernel_rfl) (vis (by kernel_rfl))) (so_ex s_int) rfl) (s_call (k_count_layings.1) (hr.mono (by decide)) tk (gl (by kernel_rfl)) g_count_layings k_count_layings.2.2 k_count_layings.2.1 (sl_cons (s_var (by kernel_rfl) (vis (by kernel_rfl))) (sl_cons (s_var (by kernel_rfl) (vis (by kernel_rfl))) sl_nil))) (s_call (k_is_laying.1) (hr.mono (by decide)) tk (gl (by kernel_rfl)) g_is_laying k_is_laying.2.2 k_is_laying.2.1 (sl_cons (s_var (by kernel_rfl) (vis (by kernel_rfl))) (sl_cons (s_var (by kernel_rfl) (vis (by kernel_rfl))) (sl_cons (s_var (by kernel_rfl) (vis (by kernel_rfl))) sl_nil)))))))) (fun a oe cls d pn e hz hf hE hc => by
      obtain ⟨rfl, rfl⟩ := hE0 hE
      exact (sb_one (s_ret (s_if (st_val (s_isE exC hz hf kE_BadPuzzle rfl (gl (by kernel_rfl)) b_isinstance (by kernel_rfl) (vis (by kernel_rfl)) (gl (by kernel_rfl)) g_BadPuzzle)) s_str s_str)))))))
theorem ok__law_asked (KX : K.In h) (G : h.Ns mainGlobals mg) (c : SaysP ck fn K) : ∃ fd, (FnOk P w K mg base (L2.CX P w) 7 (He.ga K "_law_asked") fd ["k", "high", "wide", "value"] (spF ⟨K, w, fns K⟩ (cls K) 4 sem__law_asked)) ∧ Binds K fd ["k", "high", "wide", "value"] [] ∧ PySem.W.keepIn K (.ref (He.ga K "_law_asked")) = true := by
  obtain ⟨fd, Fd⟩ := c.def_ 14 (d := d__law_asked) rfl
  exact ⟨fd, okf__law_asked KX G c Fd, Fd.bindsN (fun _ _ _ _ _ _ us hl => match us, hl with | [_, _, _, _], _ => rfl), Fd.kp⟩
theorem sc__law_draw : FnScope ["draws", "limit", "cell", "value"] ["draws", "limit"] (defScope st__law_draw) := ⟨by kernel_rfl, by kernel_rfl, by kernel_rfl, by decide +kernel, by kernel_rfl, by decide +kernel, by decide +kernel⟩
theorem okf__law_draw (KX : K.In h) (G : h.Ns mainGlobals mg) (c : SaysP ck fn K) {fd : FuncData} (Fd : FunD K "_law_draw" "_law_draw" (defArgs st__law_draw) (defBody st__law_draw) (defScope st__law_draw) [] [] (He.ga K "_law_draw") fd) : FnOk P w K mg base (L2.CX P w) 1 (He.ga K "_law_draw") fd ["draws", "limit"] (spIO ⟨K, w, fns K⟩ (cls K) 1 sem__law_draw) := by
  have bd : Binds K fd ["draws", "limit"] [] := Fd.bindsN fun _ _ _ _ _ _ us hl => match us, hl with | [_, _], _ => rfl
  have b_len := He.free_ok KX G (factsB_fact (ckF c) 3 (f := .free "len") rfl)
  have b_int := He.free_ok KX G (factsB_fact (ckF c) 8 (f := .free "int") rfl)
  exact fn_okIO (k := 0) (m := 1) Fd sc__law_draw (fns K) (cls K) rfl (by decide) (fun cdv A outer s H E x0 hr => by
    have hN := sc__law_draw.nd
    have hu := room65 hr
    have hp := passes_of (X := cxOf (L2.CX P w) P w K mg base ["draws", "limit", "cell", "value"] "_law_draw" (defScope st__law_draw) (He.ga K "_law_draw") cdv A outer s H E) rfl
    have tk : Takes (cxOf (L2.CX P w) P w K mg base ["draws", "limit", "cell", "value"] "_law_draw" (defScope st__law_draw) (He.ga K "_law_draw") cdv A outer s H E) (parE (fns K) (cls K) E).W := takes_of rfl rfl rfl rfl
    exact (sb_cons (s_ifS (SW.st (sw_and (st_cmp (o_eq hu) (so_ex (s_ix (x_ix hu) (so_pk (by kernel_rfl) (vis (by kernel_rfl))) (so_ex s_int) (fun _ _ => rfl))) (so_ex s_int) rfl) (sw_and1 (st_cmp (o_lt hu) (so_ex (s_ix (x_ix hu) (so_pk (by kernel_rfl) (vis (by kernel_rfl))) (so_ex s_int) (fun _ _ => rfl))) (so_ex (s_callB c_len (gl (by kernel_rfl)) b_len rfl (sa_cons (so_ex (s_ix (x_ix hu) (so_pk (by kernel_rfl) (vis (by kernel_rfl))) (so_ex s_int) (fun _ _ => rfl))) sa_nil))) rfl)))) (sb_cons (s_set hN (by kernel_rfl) (loc (by kernel_rfl)) (s_ix (x_ix hu) (so_ex (s_ix (x_ix hu) (so_pk (by kernel_rfl) (vis (by kernel_rfl))) (so_ex s_int) (fun _ _ => rfl))) (so_ex (s_ix (x_ix hu) (so_pk (by kernel_rfl) (vis (by kernel_rfl))) (so_ex s_int) (fun _ _ => rfl))) (fun _ _ => rfl)) (np1 (by kernel_rfl)) (by rfl) (hfn (by kernel_rfl)))
    (sb_cons (s_setI (by kernel_rfl) (vis (by kernel_rfl)) s_int (s_bin o_add (so_ex (s_ix (x_ix hu) (so_pk (by kernel_rfl) (vis (by kernel_rfl))) (so_ex s_int) (fun _ _ => rfl))) (so_ex s_int)))
    (sb_cons (s_ifS (st_cmp (o_ge hu) (so_pk (by kernel_rfl) (vis (by kernel_rfl))) (so_ex (s_bin o_pow (so_ex s_int) (so_ex s_int))) rfl) (sb_one (s_setI (by kernel_rfl) (vis (by kernel_rfl)) s_int (s_var (by kernel_rfl) (vis (by kernel_rfl))))) sb_nil)
    (sb_one (s_setI (by kernel_rfl) (vis (by kernel_rfl)) s_int (s_bin o_mod (so_ex (s_callT c_int (gl (by kernel_rfl)) b_int rfl (sa_cons (so_ex (s_bin o_add (so_ex (s_bin o_add (so_ex (s_bin o_mul (so_ex (s_ix (x_ix hu) (so_pk (by kernel_rfl) (vis (by kernel_rfl))) (so_ex s_int) (fun _ _ => rfl))) (so_ex s_int))) (so_pk (by kernel_rfl) (vis (by kernel_rfl))))) (so_ex s_int))) sa_nil))) (so_ex s_int))))))) sb_nil)
    (sb_cons (s_ifS (st_cmp (o_gt hu) (so_ex (s_ix (x_ix hu) (so_pk (by kernel_rfl) (vis (by kernel_rfl))) (so_ex s_int) (fun _ _ => rfl))) (so_ex s_int) rfl) (sb_cons (s_set hN (by kernel_rfl) (loc (by kernel_rfl)) (s_bin o_mod (so_ex (s_callT c_int (gl (by kernel_rfl)) b_int rfl (sa_cons (so_ex (s_ix (x_ix hu) (so_pk (by kernel_rfl) (vis (by kernel_rfl))) (so_ex s_int) (fun _ _ => rfl))) sa_nil))) (so_pk (by kernel_rfl) (vis (by kernel_rfl)))) (np1 (by kernel_rfl)) (by rfl) (hfn (by kernel_rfl)))
    (sb_cons (s_setI (by kernel_rfl) (vis (by kernel_rfl)) s_int (s_bin o_div (so_ex (s_ix (x_ix hu) (so_pk (by kernel_rfl) (vis (by kernel_rfl))) (so_ex s_int) (fun _ _ => rfl))) (so_pk (by kernel_rfl) (vis (by kernel_rfl)))))
    (sb_one (s_ret (s_var (by kernel_rfl) (vis (by kernel_rfl))))))) sb_nil)
    (sb_cons (s_setI (by kernel_rfl) (vis (by kernel_rfl)) s_int (s_bin o_mod (so_ex (s_callT c_int (gl (by kernel_rfl)) b_int rfl (sa_cons (so_ex (s_bin o_add (so_ex (s_bin o_mul (so_ex (s_ix (x_ix hu) (so_pk (by kernel_rfl) (vis (by kernel_rfl))) (so_ex s_int) (fun _ _ => rfl))) (so_ex s_int))) (so_ex s_int))) sa_nil))) (so_ex s_int)))
    (sb_one (s_ret (s_bin o_mod (so_ex (s_callT c_int (gl (by kernel_rfl)) b_int rfl (sa_cons (so_ex (s_bin o_div (so_ex (s_ix (x_ix hu) (so_pk (by kernel_rfl) (vis (by kernel_rfl))) (so_ex s_int) (fun _ _ => rfl))) (so_ex s_int))) sa_nil))) (so_pk (by kernel_rfl) (vis (by kernel_rfl))))))))))
theorem ok__law_draw (KX : K.In h) (G : h.Ns mainGlobals mg) (c : SaysP ck fn K) : ∃ fd, (FnOk P w K mg base (L2.CX P w) 1 (He.ga K "_law_draw") fd ["draws", "limit"] (spIO ⟨K, w, fns K⟩ (cls K) 1 sem__law_draw)) ∧ Binds K fd ["draws", "limit"] [] ∧ PySem.W.keepIn K (.ref (He.ga K "_law_draw")) = true := by
  obtain ⟨fd, Fd⟩ := c.def_ 15 (d := d__law_draw) rfl
  exact ⟨fd, okf__law_draw KX G c Fd, Fd.bindsN (fun _ _ _ _ _ _ us hl => match us, hl with | [_, _], _ => rfl), Fd.kp⟩
theorem sc__law_right : FnScope ["high", "wide", "value", "every", "pair", "cell", "cells", "i", "j", "one"] ["high", "wide", "value"] (defScope st__law_right) := ⟨by kernel_rfl, by kernel_rfl, by kernel_rfl, by decide +kernel, by kernel_rfl, by decide +kernel, by decide +kernel⟩
theorem okf__law_right (KX : K.In h) (G : h.Ns mainGlobals mg) (c : SaysP ck fn K) {fd : FuncData} (Fd : FunD K "_law_right" "_law_right" (defArgs st__law_right) (defBody st__law_right) (defScope st__law_right) [] [] (He.ga K "_law_right") fd) : FnOk P w K mg base (L2.CX P w) 1 (He.ga K "_law_right") fd ["high", "wide", "value"] (spF ⟨K, w, fns K⟩ (cls K) 3 sem__law_right) := by
  have bd : Binds K fd ["high", "wide", "value"] [] := Fd.bindsN fun _ _ _ _ _ _ us hl => match us, hl with | [_, _, _], _ => rfl
  have b_isinstance := He.free_ok KX G (factsB_fact (ckF c) 1 (f := .free "isinstance") rfl)
  have b_tuple := He.free_ok KX G (factsB_fact (ckF c) 2 (f := .free "tuple") rfl)
  have b_len := He.free_ok KX G (factsB_fact (ckF c) 3 (f := .free "len") rfl)
  have b_int := He.free_ok KX G (factsB_fact (ckF c) 8 (f := .free "int") rfl)
  have b_bool := He.free_ok KX G (factsB_fact (ckF c) 7 (f := .free "bool") rfl)
  have b_all := He.free_ok KX G (factsB_fact (ckF c) 17 (f := .free "all") rfl)
  have b_list := He.free_ok KX G (factsB_fact (ckF c) 0 (f := .free "list") rfl)
  have b_range := He.free_ok KX G (factsB_fact (ckF c) 4 (f := .free "range") rfl)
  have b_sorted := He.free_ok KX G (factsB_fact (ckF c) 9 (f := .free "sorted") rfl)
  exact fn_ok (k := 0) Fd sc__law_right (fns K) (cls K) (by decide) (fun cdv A outer s H E hr => by
    have hN := sc__law_right.nd
    have hu := room65 hr
    have hp := passes_of (X := cxOf (L2.CX P w) P w K mg base ["high", "wide", "value", "every", "pair", "cell", "cells", "i", "j", "one"] "_law_right" (defScope st__law_right) (He.ga K "_law_right") cdv A outer s H E) rfl
    have tk : Takes (cxOf (L2.CX P w) P w K mg base ["high", "wide", "value", "every", "pair", "cell", "cells", "i", "j", "one"] "_law_right" (defScope st__law_right) (He.ga K "_law_right") cdv A outer s H E) (parE (fns K) (cls K) E).W := takes_of rfl rfl rfl rfl
    exact (sb_cons (s_ifS (st_not (st_val (s_isi (.inr (.inr (.inr (.inl rfl)))) rfl (gl (by kernel_rfl)) b_isinstance (gl (by kernel_rfl)) b_tuple rfl (so_pk (by kernel_rfl) (vis (by kernel_rfl)))))) (sb_one (s_ret s_bl)) sb_nil)
    (sb_cons (s_set hN (by kernel_rfl) (loc (by kernel_rfl)) (s_lst sl_nil) np0 (by rfl) (hfn (by kernel_rfl)))
    (sb_cons (s_for hp rfl (si_v (s_var (by kernel_rfl) (vis (by kernel_rfl)))) (sg_name hN (by kernel_rfl) (loc (by kernel_rfl)) np0 (hfn (by kernel_rfl))) (sb_cons (s_ifS (SW.st (sw_or (st_not (st_val (s_isi (.inr (.inr (.inr (.inl rfl)))) rfl (gl (by kernel_rfl)) b_isinstance (gl (by kernel_rfl)) b_tuple rfl (so_pk (by kernel_rfl) (vis (by kernel_rfl)))))) (sw_or1 (st_cmp (o_ne hu) (so_ex (s_callB c_len (gl (by kernel_rfl)) b_len rfl (sa_cons (so_pk (by kernel_rfl) (vis (by kernel_rfl))) sa_nil))) (so_ex s_int) rfl)))) (sb_one (s_ret s_bl)) sb_nil)
    (sb_cons (s_for hp rfl (si_v (s_var (by kernel_rfl) (vis (by kernel_rfl)))) (sg_name hN (by kernel_rfl) (loc (by kernel_rfl)) np0 (hfn (by kernel_rfl))) (sb_one (s_ifS (SW.st (sw_or (st_not (st_val (s_isi (.inr (.inr (.inr (.inl rfl)))) rfl (gl (by kernel_rfl)) b_isinstance (gl (by kernel_rfl)) b_tuple rfl (so_pk (by kernel_rfl) (vis (by kernel_rfl)))))) (sw_or (st_cmp (o_ne hu) (so_ex (s_callB c_len (gl (by kernel_rfl)) b_len rfl (sa_cons (so_pk (by kernel_rfl) (vis (by kernel_rfl))) sa_nil))) (so_ex s_int) rfl) (sw_or1 (st_not (st_val (s_callB (c_all rfl) (gl (by kernel_rfl)) b_all rfl (sa_cons (so_ex (s_lc rfl hN (si_v (s_var (by kernel_rfl) (vis (by kernel_rfl)))) (blkOk_by (own := [("one", 9)]) (by kernel_rfl)) rfl (inB (by kernel_rfl)) pv0 (fun _ _ _ _ _ => (sg_name hN (by kernel_rfl) (loc (by kernel_rfl)) np0 (hfn (by kernel_rfl)))) (fun _ _ _ _ _ => sc_nil) (fun _ _ _ _ _ => (s_and (s_isi (.inl rfl) rfl (gl (by kernel_rfl)) b_isinstance (gl (by kernel_rfl)) b_int rfl (so_pk (by kernel_rfl) (vis (by kernel_rfl)))) (s_one (s_not (s_isi (.inr (.inl rfl)) rfl (gl (by kernel_rfl)) b_isinstance (gl (by kernel_rfl)) b_bool rfl (so_pk (by kernel_rfl) (vis (by kernel_rfl)))))))))) sa_nil)))))))) (sb_one (s_ret s_bl)) sb_nil)))
    (sb_cons (s_ifS (st_cmp (o_nin hu) (so_ex (s_ix (x_ix hu) (so_pk (by kernel_rfl) (vis (by kernel_rfl))) (so_ex s_int) (fun _ _ => rfl))) (so_ex (s_tup (sl_cons (s_tup (sl_cons (s_ix (x_ix hu) (so_ex (s_ix (x_ix hu) (so_pk (by kernel_rfl) (vis (by kernel_rfl))) (so_ex s_int) (fun _ _ => rfl))) (so_ex s_int) (fun _ _ => rfl)) (sl_cons (s_bin o_add (so_ex (s_ix (x_ix hu) (so_ex (s_ix (x_ix hu) (so_pk (by kernel_rfl) (vis (by kernel_rfl))) (so_ex s_int) (fun _ _ => rfl))) (so_ex s_int) (fun _ _ => rfl))) (so_ex s_int)) sl_nil))) (sl_cons (s_tup (sl_cons (s_bin o_add (so_ex (s_ix (x_ix hu) (so_ex (s_ix (x_ix hu) (so_pk (by kernel_rfl) (vis (by kernel_rfl))) (so_ex s_int) (fun _ _ => rfl))) (so_ex s_int) (fun _ _ => rfl))) (so_ex s_int)) (sl_cons (s_ix (x_ix hu) (so_ex (s_ix (x_ix hu) (so_pk (by kernel_rfl) (vis (by kernel_rfl))) (so_ex s_int) (fun _ _ => rfl))) (so_ex s_int) (fun _ _ => rfl)) sl_nil))) sl_nil)))) rfl) (sb_one (s_ret s_bl)) sb_nil)
    (sb_one (s_set hN (by kernel_rfl) (loc (by kernel_rfl)) (s_bin o_add (so_pk (by kernel_rfl) (vis (by kernel_rfl))) (so_ex (s_callT (c_list rfl) (gl (by kernel_rfl)) b_list rfl (sa_cons (so_pk (by kernel_rfl) (vis (by kernel_rfl))) sa_nil)))) np0 (by rfl) (hfn (by kernel_rfl))))))))
    (sb_cons (s_set hN (by kernel_rfl) (loc (by kernel_rfl)) (s_lst sl_nil) np0 (by rfl) (hfn (by kernel_rfl)))
    (sb_cons (s_for hp rfl (si_r1 (s_var (by kernel_rfl) (vis (by kernel_rfl))) (gl (by kernel_rfl)) b_range) (sg_name hN (by kernel_rfl) (loc (by kernel_rfl)) np0 (hfn (by kernel_rfl))) (sb_one (s_set hN (by kernel_rfl) (loc (by kernel_rfl)) (s_bin o_add (so_pk (by kernel_rfl) (vis (by kernel_rfl))) (so_ex (s_lc rfl hN (si_r1 (s_var (by kernel_rfl) (vis (by kernel_rfl))) (gl (by kernel_rfl)) b_range) (blkOk_by (own := [("j", 8)]) (by kernel_rfl)) rfl (inB (by kernel_rfl)) pv0 (fun _ _ _ _ _ => (sg_name hN (by kernel_rfl) (loc (by kernel_rfl)) np0 (hfn (by kernel_rfl)))) (fun _ _ _ _ _ => sc_nil) (fun _ _ _ _ _ => (s_tup (sl_cons (s_var (by kernel_rfl) (vis (by kernel_rfl))) (sl_cons (s_var (by kernel_rfl) (vis (by kernel_rfl))) sl_nil))))))) np0 (by rfl) (hfn (by kernel_rfl)))))
    (sb_one (s_ret (s_and (s_cmp (o_eq hu) (so_ex (s_callB (c_sorted rfl hu) (gl (by kernel_rfl)) b_sorted rfl (sa_cons (so_pk (by kernel_rfl) (vis (by kernel_rfl))) sa_nil))) (so_pk (by kernel_rfl) (vis (by kernel_rfl))) rfl) (s_one (s_cmp (o_eq hu) (so_ex (s_callT (c_list rfl) (gl (by kernel_rfl)) b_list rfl (sa_cons (so_pk (by kernel_rfl) (vis (by kernel_rfl))) sa_nil))) (so_ex (s_callB (c_sorted rfl hu) (gl (by kernel_rfl)) b_sorted rfl (sa_cons (so_pk (by kernel_rfl) (vis (by kernel_rfl))) sa_nil))) rfl)))))))))))
theorem ok__law_right (KX : K.In h) (G : h.Ns mainGlobals mg) (c : SaysP ck fn K) : ∃ fd, (FnOk P w K mg base (L2.CX P w) 1 (He.ga K "_law_right") fd ["high", "wide", "value"] (spF ⟨K, w, fns K⟩ (cls K) 3 sem__law_right)) ∧ Binds K fd ["high", "wide", "value"] [] ∧ PySem.W.keepIn K (.ref (He.ga K "_law_right")) = true := by
  obtain ⟨fd, Fd⟩ := c.def_ 16 (d := d__law_right) rfl
  exact ⟨fd, okf__law_right KX G c Fd, Fd.bindsN (fun _ _ _ _ _ _ us hl => match us, hl with | [_, _, _], _ => rfl), Fd.kp⟩
theorem sc_law : FnScope ["script", "draws", "two", "three", "k", "turn", "high", "wide", "every", "again", "tried", "laying", "at", "value", "long", "even", "one", "other", "count"] ["script"] (defScope st_law) := ⟨by kernel_rfl, by kernel_rfl, by kernel_rfl, by decide +kernel, by kernel_rfl, by decide +kernel, by decide +kernel⟩
theorem okf_law (KX : K.In h) (G : h.Ns mainGlobals mg) (c : SaysP ck fn K) {fd : FuncData} (Fd : FunD K "law" "law" (defArgs st_law) (defBody st_law) (defScope st_law) [] [] (He.ga K "law") fd) : FnOk P w K mg base (L2.CX P w) 10 (He.ga K "law") fd ["script"] (spF ⟨K, w, fns K⟩ (cls K) 1 sem_law) := by
  have bd : Binds K fd ["script"] [] := Fd.bindsN fun _ _ _ _ _ _ us hl => match us, hl with | [_], _ => rfl
  obtain ⟨_, k__law_asked⟩ := ok__law_asked (P := P) (w := w) (base := base) KX G c
  obtain ⟨_, k__law_draw⟩ := ok__law_draw (P := P) (w := w) (base := base) KX G c
  obtain ⟨_, k__law_draws⟩ := ok__law_draws (P := P) (w := w) (base := base) KX G c
  obtain ⟨_, k__law_layings⟩ := ok__law_layings (P := P) (w := w) (base := base) KX G c
  obtain ⟨_, k__law_right⟩ := ok__law_right (P := P) (w := w) (base := base) KX G c
  obtain ⟨_, k__law_same⟩ := ok__law_same (P := P) (w := w) (base := base) KX G c
  have k__law_same := And.intro (k__law_same.1 8) k__law_same.2
  obtain ⟨_, k_count_layings⟩ := ok_count_layings (P := P) (w := w) (base := base) KX G c
  have g__law_draws := He.glo_ok KX G (factsB_fact (ckF c) 25 (f := .glo "_law_draws") rfl)
  have b_range := He.free_ok KX G (factsB_fact (ckF c) 4 (f := .free "range") rfl)
  have g__law_draw := He.glo_ok KX G (factsB_fact (ckF c) 26 (f := .glo "_law_draw") rfl)
  have g__law_layings := He.glo_ok KX G (factsB_fact (ckF c) 27 (f := .glo "_law_layings") rfl)
  have g__law_same := He.glo_ok KX G (factsB_fact (ckF c) 5 (f := .glo "_law_same") rfl)
  have g__law_asked := He.glo_ok KX G (factsB_fact (ckF c) 28 (f := .glo "_law_asked") rfl)
  have b_len := He.free_ok KX G (factsB_fact (ckF c) 3 (f := .free "len") rfl)
  have b_list := He.free_ok KX G (factsB_fact (ckF c) 0 (f := .free "list") rfl)
  have g__law_right := He.glo_ok KX G (factsB_fact (ckF c) 29 (f := .glo "_law_right") rfl)
  have b_int := He.free_ok KX G (factsB_fact (ckF c) 8 (f := .free "int") rfl)
  have g_count_layings := He.glo_ok KX G (factsB_fact (ckF c) 22 (f := .glo "count_layings") rfl)
  exact fn_ok (k := 9) Fd sc_law (fns K) (cls K) (by decide) (fun cdv A outer s H E hr => by
    have hN := sc_law.nd
    have hu := room65 hr
    have hp := passes_of (X := cxOf (L2.CX P w) P w K mg base ["script", "draws", "two", "three", "k", "turn", "high", "wide", "every", "again", "tried", "laying", "at", "value", "long", "even", "one", "other", "count"] "law" (defScope st_law) (He.ga K "law") cdv A outer s H E) rfl
    have tk : Takes (cxOf (L2.CX P w) P w K mg base ["script", "draws", "two", "three", "k", "turn", "high", "wide", "every", "again", "tried", "laying", "at", "value", "long", "even", "one", "other", "count"] "law" (defScope st_law) (He.ga K "law") cdv A outer s H E) (parE (fns K) (cls K) E).W := takes_of rfl rfl rfl rfl
    exact (sb_cons (s_set hN (by kernel_rfl) (loc (by kernel_rfl)) (s_call (k__law_draws.1) (hr.mono (by decide)) tk (gl (by kernel_rfl)) g__law_draws k__law_draws.2.2 k__law_draws.2.1 (sl_cons (s_var (by kernel_rfl) (vis (by kernel_rfl))) sl_nil)) np0 (by rfl) (hfn (by kernel_rfl)))
    (sb_cons (s_par2 rfl hN (by kernel_rfl) (by kernel_rfl) (neB (by kernel_rfl)) (by kernel_rfl) (by kernel_rfl) (sl_cons (s_lst (sl_cons s_int (sl_cons s_int sl_nil))) (sl_cons (s_lst (sl_cons s_int (sl_cons s_int sl_nil))) sl_nil)) np0 np0 (by rfl))
    (sb_cons (s_for hp rfl (si_r1 s_int (gl (by kernel_rfl)) b_range) (sg_name hN (by kernel_rfl) (loc (by kernel_rfl)) np0 (hfn (by kernel_rfl))) (sb_one (s_expr (s_mut PySem.F.slot_list_append rfl m_append (by kernel_rfl) (vis (by kernel_rfl)) (sl_cons (s_bin o_add (so_ex (s_ix (x_ix hu) (so_pk (by kernel_rfl) (vis (by kernel_rfl))) (so_pk (by kernel_rfl) (vis (by kernel_rfl))) (fun _ _ => rfl))) (so_ex (s_ix (x_ix hu) (so_pk (by kernel_rfl) (vis (by kernel_rfl))) (so_ex (s_bin o_add (so_pk (by kernel_rfl) (vis (by kernel_rfl))) (so_ex s_int))) (fun _ _ => rfl)))) sl_nil)))))
    (sb_cons (s_for hp rfl (si_r1 s_int (gl (by kernel_rfl)) b_range) (sg_name hN (by kernel_rfl) (loc (by kernel_rfl)) np0 (hfn (by kernel_rfl))) (sb_one (s_expr (s_mut PySem.F.slot_list_append rfl m_append (by kernel_rfl) (vis (by kernel_rfl)) (sl_cons (s_bin o_sub (so_ex (s_bin o_mul (so_ex s_int) (so_ex (s_ix (x_ix hu) (so_pk (by kernel_rfl) (vis (by kernel_rfl))) (so_ex (s_bin o_add (so_pk (by kernel_rfl) (vis (by kernel_rfl))) (so_ex s_int))) (fun _ _ => rfl))))) (so_ex (s_ix (x_ix hu) (so_pk (by kernel_rfl) (vis (by kernel_rfl))) (so_pk (by kernel_rfl) (vis (by kernel_rfl))) (fun _ _ => rfl)))) sl_nil)))))
    (sb_cons (s_for hp rfl (si_r1 s_int (gl (by kernel_rfl)) b_range) (sg_name hN (by kernel_rfl) (loc (by kernel_rfl)) np0 (hfn (by kernel_rfl))) (sb_cons (s_par2 rfl hN (by kernel_rfl) (by kernel_rfl) (neB (by kernel_rfl)) (by kernel_rfl) (by kernel_rfl) (sl_cons (s_bin o_add (so_ex s_int) (so_ex (s_callIO (k__law_draw.1) (hr.mono (by decide)) tk (gl (by kernel_rfl)) g__law_draw k__law_draw.2.2 k__law_draw.2.1 (by kernel_rfl) (vis (by kernel_rfl)) (sl_cons s_int sl_nil)))) (sl_cons (s_bin o_add (so_ex s_int) (so_ex (s_callIO (k__law_draw.1) (hr.mono (by decide)) tk (gl (by kernel_rfl)) g__law_draw k__law_draw.2.2 k__law_draw.2.1 (by kernel_rfl) (vis (by kernel_rfl)) (sl_cons s_int sl_nil)))) sl_nil)) np0 np0 (by rfl))
    (sb_cons (s_set hN (by kernel_rfl) (loc (by kernel_rfl)) (s_call (k__law_layings.1) (hr.mono (by decide)) tk (gl (by kernel_rfl)) g__law_layings k__law_layings.2.2 k__law_layings.2.1 (sl_cons (s_var (by kernel_rfl) (vis (by kernel_rfl))) (sl_cons (s_var (by kernel_rfl) (vis (by kernel_rfl))) sl_nil))) np0 (by rfl) (hfn (by kernel_rfl)))
    (sb_cons (s_for hp rfl (si_r1 s_int (gl (by kernel_rfl)) b_range) (sg_name hN (by kernel_rfl) (loc (by kernel_rfl)) np0 (hfn (by kernel_rfl))) (sb_one (s_ifS (st_not (st_val (s_call (k__law_same.1) (hr.mono (by decide)) tk (gl (by kernel_rfl)) g__law_same k__law_same.2.2 k__law_same.2.1 (sl_cons (s_lst (sl_cons (s_call (k__law_asked.1) (hr.mono (by decide)) tk (gl (by kernel_rfl)) g__law_asked k__law_asked.2.2 k__law_asked.2.1 (sl_cons s_int (sl_cons (s_var (by kernel_rfl) (vis (by kernel_rfl))) (sl_cons (s_var (by kernel_rfl) (vis (by kernel_rfl))) (sl_cons s_non sl_nil))))) (sl_cons (s_call (k__law_asked.1) (hr.mono (by decide)) tk (gl (by kernel_rfl)) g__law_asked k__law_asked.2.2 k__law_asked.2.1 (sl_cons s_int (sl_cons (s_var (by kernel_rfl) (vis (by kernel_rfl))) (sl_cons (s_var (by kernel_rfl) (vis (by kernel_rfl))) (sl_cons s_non sl_nil))))) sl_nil))) (sl_cons (s_lst (sl_cons (s_callB c_len (gl (by kernel_rfl)) b_len rfl (sa_cons (so_pk (by kernel_rfl) (vis (by kernel_rfl))) sa_nil)) (sl_cons (s_callB c_len (gl (by kernel_rfl)) b_len rfl (sa_cons (so_pk (by kernel_rfl) (vis (by kernel_rfl))) sa_nil)) sl_nil))) sl_nil))))) (sb_one (s_ret s_bl)) sb_nil)))
    (sb_cons (s_set hN (by kernel_rfl) (loc (by kernel_rfl)) (s_lst (sl_cons s_non (sl_cons (s_tup sl_nil) (sl_cons (s_tup (sl_cons (s_tup (sl_cons s_int (sl_cons s_int sl_nil))) sl_nil)) (sl_cons (s_tup (sl_cons (s_tup (sl_cons (s_tup (sl_cons s_int (sl_cons s_int sl_nil))) (sl_cons (s_tup (sl_cons s_int (sl_cons s_int sl_nil))) sl_nil))) sl_nil)) (sl_cons (s_lst (sl_cons (s_tup (sl_cons (s_tup (sl_cons s_int (sl_cons s_int sl_nil))) (sl_cons (s_tup (sl_cons s_int (sl_cons s_int sl_nil))) sl_nil))) sl_nil)) (sl_cons (s_tup (sl_cons (s_tup (sl_cons (s_tup (sl_cons s_bl (sl_cons s_int sl_nil))) (sl_cons (s_tup (sl_cons s_int (sl_cons s_int sl_nil))) sl_nil))) sl_nil)) (sl_cons (s_tup (sl_cons s_non sl_nil)) (sl_cons (s_tup (sl_cons (s_tup (sl_cons (s_tup (sl_cons s_int (sl_cons s_int sl_nil))) (sl_cons s_non sl_nil))) sl_nil)) sl_nil))))))))) np0 (by rfl) (hfn (by kernel_rfl)))
    (sb_cons (s_ifS (st_cmp (o_gt hu) (so_ex (s_callB c_len (gl (by kernel_rfl)) b_len rfl (sa_cons (so_pk (by kernel_rfl) (vis (by kernel_rfl))) sa_nil))) (so_ex s_int) rfl) (sb_cons (s_set hN (by kernel_rfl) (loc (by kernel_rfl)) (s_ix (x_ix hu) (so_pk (by kernel_rfl) (vis (by kernel_rfl))) (so_ex (s_callIO (k__law_draw.1) (hr.mono (by decide)) tk (gl (by kernel_rfl)) g__law_draw k__law_draw.2.2 k__law_draw.2.1 (by kernel_rfl) (vis (by kernel_rfl)) (sl_cons (s_callB c_len (gl (by kernel_rfl)) b_len rfl (sa_cons (so_pk (by kernel_rfl) (vis (by kernel_rfl))) sa_nil)) sl_nil))) (fun _ _ => rfl)) np0 (by rfl) (hfn (by kernel_rfl)))
    (sb_cons (s_set hN (by kernel_rfl) (loc (by kernel_rfl)) (s_callIO (k__law_draw.1) (hr.mono (by decide)) tk (gl (by kernel_rfl)) g__law_draw k__law_draw.2.2 k__law_draw.2.1 (by kernel_rfl) (vis (by kernel_rfl)) (sl_cons (s_callB c_len (gl (by kernel_rfl)) b_len rfl (sa_cons (so_pk (by kernel_rfl) (vis (by kernel_rfl))) sa_nil)) sl_nil)) np0 (by rfl) (hfn (by kernel_rfl)))
    (sb_cons (s_set hN (by kernel_rfl) (loc (by kernel_rfl)) (s_bin o_add (so_pk (by kernel_rfl) (vis (by kernel_rfl))) (so_ex (s_lst (sl_cons (s_var (by kernel_rfl) (vis (by kernel_rfl))) (sl_cons (s_rev (so_pk (by kernel_rfl) (vis (by kernel_rfl)))) (sl_cons (s_callT (c_list rfl) (gl (by kernel_rfl)) b_list rfl (sa_cons (so_pk (by kernel_rfl) (vis (by kernel_rfl))) sa_nil)) (sl_cons (s_slLo (so_pk (by kernel_rfl) (vis (by kernel_rfl))) (so_ex s_int)) (sl_cons (s_bin o_add (so_pk (by kernel_rfl) (vis (by kernel_rfl))) (so_ex (s_slHi (so_pk (by kernel_rfl) (vis (by kernel_rfl))) (so_ex s_int)))) (sl_cons (s_bin o_add (so_ex (s_bin o_add (so_ex (s_slHi (so_pk (by kernel_rfl) (vis (by kernel_rfl))) (so_pk (by kernel_rfl) (vis (by kernel_rfl))))) (so_ex (s_tup (sl_cons (s_rev (so_ex (s_ix (x_ix hu) (so_pk (by kernel_rfl) (vis (by kernel_rfl))) (so_pk (by kernel_rfl) (vis (by kernel_rfl))) (fun _ _ => rfl)))) sl_nil))))) (so_ex (s_slLo (so_pk (by kernel_rfl) (vis (by kernel_rfl))) (so_ex (s_bin o_add (so_pk (by kernel_rfl) (vis (by kernel_rfl))) (so_ex s_int)))))) sl_nil))))))))) np0 (by rfl) (hfn (by kernel_rfl)))
    (sb_one (s_set hN (by kernel_rfl) (loc (by kernel_rfl)) (s_bin o_add (so_pk (by kernel_rfl) (vis (by kernel_rfl))) (so_ex (s_lst (sl_cons (s_bin o_add (so_ex (s_bin o_add (so_ex (s_slHi (so_pk (by kernel_rfl) (vis (by kernel_rfl))) (so_pk (by kernel_rfl) (vis (by kernel_rfl))))) (so_ex (s_tup (sl_cons (s_tup (sl_cons (s_tup (sl_cons s_int (sl_cons s_int sl_nil))) (sl_cons (s_tup (sl_cons s_int (sl_cons s_int sl_nil))) sl_nil))) sl_nil))))) (so_ex (s_slLo (so_pk (by kernel_rfl) (vis (by kernel_rfl))) (so_ex (s_bin o_add (so_pk (by kernel_rfl) (vis (by kernel_rfl))) (so_ex s_int)))))) (sl_cons (s_bin o_add (so_ex (s_bin o_add (so_ex (s_slHi (so_pk (by kernel_rfl) (vis (by kernel_rfl))) (so_pk (by kernel_rfl) (vis (by kernel_rfl))))) (so_ex (s_tup (sl_cons (s_tup (sl_cons (s_ix (x_ix hu) (so_ex (s_ix (x_ix hu) (so_pk (by kernel_rfl) (vis (by kernel_rfl))) (so_pk (by kernel_rfl) (vis (by kernel_rfl))) (fun _ _ => rfl))) (so_ex s_int) (fun _ _ => rfl)) sl_nil)) sl_nil))))) (so_ex (s_slLo (so_pk (by kernel_rfl) (vis (by kernel_rfl))) (so_ex (s_bin o_add (so_pk (by kernel_rfl) (vis (by kernel_rfl))) (so_ex s_int)))))) sl_nil))))) np0 (by rfl) (hfn (by kernel_rfl))))))) sb_nil)
    (sb_cons (s_for hp rfl (si_v (s_var (by kernel_rfl) (vis (by kernel_rfl)))) (sg_name hN (by kernel_rfl) (loc (by kernel_rfl)) np0 (hfn (by kernel_rfl))) (sb_one (s_ifS (st_not (st_val (s_call (k__law_same.1) (hr.mono (by decide)) tk (gl (by kernel_rfl)) g__law_same k__law_same.2.2 k__law_same.2.1 (sl_cons (s_call (k__law_asked.1) (hr.mono (by decide)) tk (gl (by kernel_rfl)) g__law_asked k__law_asked.2.2 k__law_asked.2.1 (sl_cons s_int (sl_cons (s_var (by kernel_rfl) (vis (by kernel_rfl))) (sl_cons (s_var (by kernel_rfl) (vis (by kernel_rfl))) (sl_cons (s_var (by kernel_rfl) (vis (by kernel_rfl))) sl_nil))))) (sl_cons (s_call (k__law_right.1) (hr.mono (by decide)) tk (gl (by kernel_rfl)) g__law_right k__law_right.2.2 k__law_right.2.1 (sl_cons (s_var (by kernel_rfl) (vis (by kernel_rfl))) (sl_cons (s_var (by kernel_rfl) (vis (by kernel_rfl))) (sl_cons (s_var (by kernel_rfl) (vis (by kernel_rfl))) sl_nil)))) sl_nil))))) (sb_one (s_ret s_bl)) sb_nil)))
    (sb_cons (s_set hN (by kernel_rfl) (loc (by kernel_rfl)) (s_bin o_add (so_ex s_int) (so_ex (s_callIO (k__law_draw.1) (hr.mono (by decide)) tk (gl (by kernel_rfl)) g__law_draw k__law_draw.2.2 k__law_draw.2.1 (by kernel_rfl) (vis (by kernel_rfl)) (sl_cons s_int sl_nil)))) np0 (by rfl) (hfn (by kernel_rfl)))
    (sb_cons (s_set hN (by kernel_rfl) (loc (by kernel_rfl)) (s_cmp (o_eq hu) (so_ex (s_bin o_mod (so_ex (s_callT c_int (gl (by kernel_rfl)) b_int rfl (sa_cons (so_pk (by kernel_rfl) (vis (by kernel_rfl))) sa_nil))) (so_ex s_int))) (so_ex s_int) rfl) np0 (by rfl) (hfn (by kernel_rfl)))
    (sb_cons (s_ifS (st_not (st_val (s_call (k__law_same.1) (hr.mono (by decide)) tk (gl (by kernel_rfl)) g__law_same k__law_same.2.2 k__law_same.2.1 (sl_cons (s_lst (sl_cons (s_call (k__law_asked.1) (hr.mono (by decide)) tk (gl (by kernel_rfl)) g__law_asked k__law_asked.2.2 k__law_asked.2.1 (sl_cons s_int (sl_cons s_int (sl_cons (s_var (by kernel_rfl) (vis (by kernel_rfl))) (sl_cons s_non sl_nil))))) (sl_cons (s_call (k__law_asked.1) (hr.mono (by decide)) tk (gl (by kernel_rfl)) g__law_asked k__law_asked.2.2 k__law_asked.2.1 (sl_cons s_int (sl_cons (s_var (by kernel_rfl) (vis (by kernel_rfl))) (sl_cons s_int (sl_cons s_non sl_nil))))) (sl_cons (s_call (k__law_asked.1) (hr.mono (by decide)) tk (gl (by kernel_rfl)) g__law_asked k__law_asked.2.2 k__law_asked.2.1 (sl_cons s_int (sl_cons s_int (sl_cons (s_var (by kernel_rfl) (vis (by kernel_rfl))) (sl_cons s_non sl_nil))))) sl_nil)))) (sl_cons (s_lst (sl_cons (s_ix (x_ix hu) (so_pk (by kernel_rfl) (vis (by kernel_rfl))) (so_pk (by kernel_rfl) (vis (by kernel_rfl))) (fun _ _ => rfl)) (sl_cons (s_callT c_int (gl (by kernel_rfl)) b_int rfl (sa_cons (so_pk (by kernel_rfl) (vis (by kernel_rfl))) sa_nil)) (sl_cons (s_if (st_val (s_var (by kernel_rfl) (vis (by kernel_rfl)))) (s_ix (x_ix hu) (so_pk (by kernel_rfl) (vis (by kernel_rfl))) (so_ex (s_bin o_div (so_pk (by kernel_rfl) (vis (by kernel_rfl))) (so_ex s_int))) (fun _ _ => rfl)) s_int) sl_nil)))) sl_nil))))) (sb_one (s_ret s_bl)) sb_nil)
    (sb_cons (s_par2 rfl hN (by kernel_rfl) (by kernel_rfl) (neB (by kernel_rfl)) (by kernel_rfl) (by kernel_rfl) (sl_cons (s_bin o_add (so_ex s_int) (so_ex (s_callIO (k__law_draw.1) (hr.mono (by decide)) tk (gl (by kernel_rfl)) g__law_draw k__law_draw.2.2 k__law_draw.2.1 (by kernel_rfl) (vis (by kernel_rfl)) (sl_cons s_int sl_nil)))) (sl_cons (s_bin o_add (so_ex s_int) (so_ex (s_callIO (k__law_draw.1) (hr.mono (by decide)) tk (gl (by kernel_rfl)) g__law_draw k__law_draw.2.2 k__law_draw.2.1 (by kernel_rfl) (vis (by kernel_rfl)) (sl_cons s_int sl_nil)))) sl_nil)) np0 np0 (by rfl))
    (sb_cons (s_set hN (by kernel_rfl) (loc (by kernel_rfl)) (s_call (k__law_asked.1) (hr.mono (by decide)) tk (gl (by kernel_rfl)) g__law_asked k__law_asked.2.2 k__law_asked.2.1 (sl_cons s_int (sl_cons (s_var (by kernel_rfl) (vis (by kernel_rfl))) (sl_cons (s_var (by kernel_rfl) (vis (by kernel_rfl))) (sl_cons s_non sl_nil))))) np0 (by rfl) (hfn (by kernel_rfl)))
    (sb_cons (s_ifS (SW.st (sw_or (st_cmp (o_ne hu) (so_pk (by kernel_rfl) (vis (by kernel_rfl))) (so_ex (s_call (k__law_asked.1) (hr.mono (by decide)) tk (gl (by kernel_rfl)) g__law_asked k__law_asked.2.2 k__law_asked.2.1 (sl_cons s_int (sl_cons (s_var (by kernel_rfl) (vis (by kernel_rfl))) (sl_cons (s_var (by kernel_rfl) (vis (by kernel_rfl))) (sl_cons s_non sl_nil)))))) rfl) (sw_or1 (st_cmp (o_ne hu) (so_ex (s_cmp (o_gt hu) (so_pk (by kernel_rfl) (vis (by kernel_rfl))) (so_ex s_int) rfl)) (so_ex (s_cmp (o_eq hu) (so_ex (s_bin o_mod (so_ex (s_callT c_int (gl (by kernel_rfl)) b_int rfl (sa_cons (so_ex (s_bin o_mul (so_pk (by kernel_rfl) (vis (by kernel_rfl))) (so_pk (by kernel_rfl) (vis (by kernel_rfl))))) sa_nil))) (so_ex s_int))) (so_ex s_int) rfl)) rfl)))) (sb_one (s_ret s_bl)) sb_nil)
    (sb_one (s_ifS (SW.st (sw_or (st_cmp (o_ne hu) (so_ex (s_call (k__law_asked.1) (hr.mono (by decide)) tk (gl (by kernel_rfl)) g__law_asked k__law_asked.2.2 k__law_asked.2.1 (sl_cons (s_callIO (k__law_draw.1) (hr.mono (by decide)) tk (gl (by kernel_rfl)) g__law_draw k__law_draw.2.2 k__law_draw.2.1 (by kernel_rfl) (vis (by kernel_rfl)) (sl_cons s_int sl_nil)) (sl_cons (s_ix (x_ix hu) (so_ex (s_lst (sl_cons s_int (sl_cons s_int (sl_cons s_non (sl_cons s_bl sl_nil)))))) (so_ex (s_callIO (k__law_draw.1) (hr.mono (by decide)) tk (gl (by kernel_rfl)) g__law_draw k__law_draw.2.2 k__law_draw.2.1 (by kernel_rfl) (vis (by kernel_rfl)) (sl_cons s_int sl_nil))) (fun _ _ => rfl)) (sl_cons s_int (sl_cons (s_tup sl_nil) sl_nil)))))) (so_ex s_str) rfl) (sw_or1 (st_cmp (o_ne hu) (so_ex (s_call (k__law_asked.1) (hr.mono (by decide)) tk (gl (by kernel_rfl)) g__law_asked k__law_asked.2.2 k__law_asked.2.1 (sl_cons (s_callIO (k__law_draw.1) (hr.mono (by decide)) tk (gl (by kernel_rfl)) g__law_draw k__law_draw.2.2 k__law_draw.2.1 (by kernel_rfl) (vis (by kernel_rfl)) (sl_cons s_int sl_nil)) (sl_cons s_int (sl_cons (s_ix (x_ix hu) (so_ex (s_lst (sl_cons s_int (sl_cons s_int (sl_cons s_non (sl_cons s_bl sl_nil)))))) (so_ex (s_callIO (k__law_draw.1) (hr.mono (by decide)) tk (gl (by kernel_rfl)) g__law_draw k__law_draw.2.2 k__law_draw.2.1 (by kernel_rfl) (vis (by kernel_rfl)) (sl_cons s_int sl_nil))) (fun _ _ => rfl)) (sl_cons (s_tup sl_nil) sl_nil)))))) (so_ex s_str) rfl)))) (sb_one (s_ret s_bl)) sb_nil)))))))))))))))
    (sb_one (s_ret (s_call (k__law_same.1) (hr.mono (by decide)) tk (gl (by kernel_rfl)) g__law_same k__law_same.2.2 k__law_same.2.1 (sl_cons (s_call (k_count_layings.1) (hr.mono (by decide)) tk (gl (by kernel_rfl)) g_count_layings k_count_layings.2.2 k_count_layings.2.1 (sl_cons s_int (sl_cons s_int sl_nil))) (sl_cons s_int sl_nil)))))))))))
theorem ok_law (KX : K.In h) (G : h.Ns mainGlobals mg) (c : SaysP ck fn K) : ∃ fd, (FnOk P w K mg base (L2.CX P w) 10 (He.ga K "law") fd ["script"] (spF ⟨K, w, fns K⟩ (cls K) 1 sem_law)) ∧ Binds K fd ["script"] [] ∧ PySem.W.keepIn K (.ref (He.ga K "law")) = true := by
  obtain ⟨fd, Fd⟩ := c.def_ 17 (d := d_law) rfl
  exact ⟨fd, okf_law KX G c Fd, Fd.bindsN (fun _ _ _ _ _ _ us hl => match us, hl with | [_], _ => rfl), Fd.kp⟩
end
end Law

namespace Law
open PL
/-! ### steps over one cell, by the lower bits first -/
def stepsR : Nat → Bool → Nat → List Nat
  | 0, last, m => if m % 2 = 1 then [m - 1] else (m + 1) :: (if last = false ∧ m / 2 % 2 = 0 then [m + 2] else [])
  | c + 1, last, m => (stepsR c last (m / 2)).map fun x => 2 * x + m % 2
def pre : Nat → Bool → Nat → List Nat
  | 0, last, x => if x % 2 = 1 then [x - 1] else (x + 1) :: (if last = false ∧ x / 2 % 2 = 1 then [x - 2] else [])
  | c + 1, last, x => (pre c last (x / 2)).map fun y => 2 * y + x % 2
theorem dual : ∀ (c : Nat) (last : Bool) (m x : Nat), x ∈ stepsR c last m ↔ m ∈ pre c last x
  | 0, last, m, x => by
    unfold stepsR pre
    by_cases h1 : m % 2 = 1
    · rw [if_pos h1]
      by_cases h2 : x % 2 = 1
      · rw [if_pos h2]; simp; omega
      · rw [if_neg h2]
        by_cases h3 : last = false ∧ x / 2 % 2 = 1
        · rw [if_pos h3]; simp; omega
        · rw [if_neg h3]; simp; omega
    · rw [if_neg h1]
      by_cases h2 : x % 2 = 1
      · rw [if_pos h2]
        by_cases h3 : last = false ∧ m / 2 % 2 = 0
        · rw [if_pos h3]; simp; omega
        · rw [if_neg h3]; simp; omega
      · rw [if_neg h2]
        by_cases h3 : last = false ∧ m / 2 % 2 = 0
        · rw [if_pos h3]
          by_cases h4 : last = false ∧ x / 2 % 2 = 1
          · rw [if_pos h4]; simp; omega
          · rw [if_neg h4]
            have h5 : ¬ (x / 2 % 2 = 1) := fun z => h4 ⟨h3.1, z⟩
            simp; omega
        · rw [if_neg h3]
          by_cases h4 : last = false ∧ x / 2 % 2 = 1
          · rw [if_pos h4]
            have h5 : ¬ (m / 2 % 2 = 0) := fun z => h3 ⟨h4.1, z⟩
            simp; omega
          · rw [if_neg h4]; simp; omega
  | c + 1, last, m, x => by
    unfold stepsR pre
    rw [List.mem_map, List.mem_map]
    constructor
    · rintro ⟨y, hy, rfl⟩
      refine ⟨m / 2, ?_, by omega⟩
      rw [show (2 * y + m % 2) / 2 = y by omega]
      exact (dual c last (m / 2) y).mp hy
    · rintro ⟨y, hy, rfl⟩
      refine ⟨x / 2, ?_, by omega⟩
      rw [show (2 * y + x % 2) / 2 = y by omega]
      exact (dual c last y (x / 2)).mpr hy
theorem nd_map {f : Nat → Nat} (hf : ∀ a b, f a = f b → a = b) {l : List Nat} (h : l.Nodup) : (l.map f).Nodup := by
  unfold List.Nodup at *
  rw [List.pairwise_map]
  exact h.imp fun h e => h (hf _ _ e)
theorem steps_nd : ∀ (c : Nat) (last : Bool) (m : Nat), (stepsR c last m).Nodup
  | 0, last, m => by
    unfold stepsR
    split
    · simp
    · split <;> simp
  | c + 1, last, m => nd_map (fun a b h => by omega) (steps_nd c last (m / 2))
theorem pre_nd : ∀ (c : Nat) (last : Bool) (m : Nat), (pre c last m).Nodup
  | 0, last, m => by
    unfold pre
    split
    · simp
    · split
      · simp; omega
      · simp
  | c + 1, last, m => nd_map (fun a b h => by omega) (pre_nd c last (m / 2))
theorem steps_lt : ∀ (c w : Nat) (last : Bool) (m : Nat), c < w → last = decide (c + 1 = w) → m < 2 ^ w → ∀ x ∈ stepsR c last m, x < 2 ^ w
  | 0, w, last, m, hc, hl, hm, x, hx => by
    obtain ⟨w, rfl⟩ : ∃ k, w = k + 1 := ⟨w - 1, by omega⟩
    rw [Nat.pow_succ] at *
    unfold stepsR at hx
    split at hx
    · simp at hx; omega
    · split at hx
      · rename_i h
        obtain ⟨w, rfl⟩ : ∃ k, w = k + 1 := ⟨w - 1, by
          have := h.1
          rw [hl] at this
          simp at this
          omega⟩
        rw [Nat.pow_succ] at *
        simp at hx
        omega
      · simp at hx; omega
  | c + 1, w, last, m, hc, hl, hm, x, hx => by
    obtain ⟨w, rfl⟩ : ∃ k, w = k + 1 := ⟨w - 1, by omega⟩
    rw [Nat.pow_succ] at *
    unfold stepsR at hx
    obtain ⟨y, hy, rfl⟩ := List.mem_map.mp hx
    have := steps_lt c w last (m / 2) (by omega) (by rw [hl]; congr 1; simp) (by omega) y hy
    omega
theorem pre_lt : ∀ (c w : Nat) (last : Bool) (m : Nat), c < w → last = decide (c + 1 = w) → m < 2 ^ w → ∀ x ∈ pre c last m, x < 2 ^ w
  | 0, w, last, m, hc, hl, hm, x, hx => by
    obtain ⟨w, rfl⟩ : ∃ k, w = k + 1 := ⟨w - 1, by omega⟩
    rw [Nat.pow_succ] at *
    unfold pre at hx
    split at hx
    · simp at hx; omega
    · split at hx
      · simp at hx; omega
      · simp at hx; omega
  | c + 1, w, last, m, hc, hl, hm, x, hx => by
    obtain ⟨w, rfl⟩ : ∃ k, w = k + 1 := ⟨w - 1, by omega⟩
    rw [Nat.pow_succ] at *
    unfold pre at hx
    obtain ⟨y, hy, rfl⟩ := List.mem_map.mp hx
    have := pre_lt c w last (m / 2) (by omega) (by rw [hl]; congr 1; simp) (by omega) y hy
    omega
/-! the steps in bits -/
theorem and_pow : ∀ (c m : Nat), m &&& 2 ^ c = m / 2 ^ c % 2 * 2 ^ c
  | 0, m => by simp [Nat.and_one_is_mod]
  | c + 1, m => by
    have d : (m &&& 2 ^ (c + 1)) / 2 = m / 2 ^ (c + 1) % 2 * 2 ^ c := by
      rw [Nat.and_div_two, Nat.pow_succ, Nat.mul_div_cancel _ (by decide), and_pow c (m / 2), Nat.div_div_eq_div_mul, Nat.mul_comm 2]
    have e : (m &&& 2 ^ (c + 1)) % 2 = 0 := by
      have := Nat.and_mod_two_pow (a := m) (b := 2 ^ (c + 1)) (n := 1)
      rw [show (2 : Nat) ^ 1 = 2 from rfl] at this
      rw [this, Nat.pow_succ, Nat.mul_mod_left]
      simp
    have : m &&& 2 ^ (c + 1) = 2 * ((m &&& 2 ^ (c + 1)) / 2) := by omega
    rw [this, d, Nat.pow_succ, Nat.mul_comm 2, Nat.mul_assoc]
def stepsB (c : Nat) (last : Bool) (m : Nat) : List Nat := if m / 2 ^ c % 2 = 1 then [m - 2 ^ c] else (m + 2 ^ c) :: (if last = false ∧ m / 2 ^ (c + 1) % 2 = 0 then [m + 2 ^ c * 2] else [])
theorem steps_eq : ∀ (c : Nat) (last : Bool) (m : Nat), stepsB c last m = stepsR c last m
  | 0, last, m => by simp [stepsB, stepsR]
  | c + 1, last, m => by
    rw [stepsR, ← steps_eq c last (m / 2)]
    unfold stepsB
    have e1 : m / 2 / 2 ^ c = m / 2 ^ (c + 1) := by rw [Nat.div_div_eq_div_mul, Nat.pow_succ, Nat.mul_comm]
    have e2 : m / 2 / 2 ^ (c + 1) = m / 2 ^ (c + 1 + 1) := by rw [Nat.div_div_eq_div_mul, Nat.pow_succ _ (c + 1), Nat.mul_comm]
    rw [e1, e2]
    have p : 2 ^ (c + 1) = 2 ^ c * 2 := Nat.pow_succ ..
    by_cases h1 : m / 2 ^ (c + 1) % 2 = 1
    · rw [if_pos h1, if_pos h1]
      have : 2 ^ (c + 1) ≤ m := by
        refine Nat.le_of_not_lt fun h => ?_
        rw [Nat.div_eq_of_lt h] at h1
        simp at h1
      simp
      omega
    · rw [if_neg h1, if_neg h1]
      by_cases h2 : last = false ∧ m / 2 ^ (c + 1 + 1) % 2 = 0
      · rw [if_pos h2, if_pos h2]
        simp
        omega
      · rw [if_neg h2, if_neg h2]
        simp
        omega
/-! ### counts as a tree over the bits -/
inductive T where
  | lf (x : Int)
  | nd (l r : T)
def T.val : T → Nat → Int
  | .lf x, _ => x
  | .nd l r, m => if m % 2 = 0 then l.val (m / 2) else r.val (m / 2)
def T.add : T → T → T
  | .lf x, .lf y => .lf (x + y)
  | .nd a b, .nd c d => .nd (a.add c) (b.add d)
  | t, _ => t
def T.sh : Nat → T → Prop
  | 0, .lf _ => True
  | w + 1, .nd l r => T.sh w l ∧ T.sh w r
  | _, _ => False
def T.stp : Nat → Bool → T → T
  | 0, true, .nd l r => .nd r l
  | 0, false, .nd (.nd l0 l1) (.nd r0 r1) => .nd (.nd r0 (r1.add l0)) (.nd l0 l1)
  | c + 1, last, .nd l r => .nd (T.stp c last l) (T.stp c last r)
  | _, _, t => t
theorem add_sh : ∀ (w : Nat) (a b : T), T.sh w a → T.sh w b → T.sh w (a.add b) ∧ ∀ x, (a.add b).val x = a.val x + b.val x
  | 0, .lf x, .lf y, _, _ => ⟨trivial, fun _ => rfl⟩
  | w + 1, .nd a b, .nd c d, h1, h2 => by
    obtain ⟨p1, p2⟩ := add_sh w a c h1.1 h2.1
    obtain ⟨q1, q2⟩ := add_sh w b d h1.2 h2.2
    refine ⟨⟨p1, q1⟩, fun x => ?_⟩
    show (if x % 2 = 0 then (a.add c).val (x / 2) else (b.add d).val (x / 2)) = (if x % 2 = 0 then a.val (x / 2) else b.val (x / 2)) + (if x % 2 = 0 then c.val (x / 2) else d.val (x / 2))
    rw [p2, q2]
    split <;> rfl
  | 0, .nd _ _, _, h, _ => h.elim
  | 0, .lf _, .nd _ _, _, h => h.elim
  | _ + 1, .lf _, _, h, _ => h.elim
  | _ + 1, .nd _ _, .lf _, _, h => h.elim
def sumF (F : Nat → Int) : List Nat → Int
  | [] => 0
  | a :: l => F a + sumF F l
theorem sumF_map (F : Nat → Int) (f : Nat → Nat) : ∀ l, sumF F (l.map f) = sumF (fun x => F (f x)) l
  | [] => rfl
  | a :: l => by rw [List.map_cons, sumF, sumF, sumF_map F f l]
theorem sumF_congr {F G : Nat → Int} : ∀ {l : List Nat}, (∀ x ∈ l, F x = G x) → sumF F l = sumF G l
  | [], _ => rfl
  | a :: l, h => by rw [sumF, sumF, h a List.mem_cons_self, sumF_congr fun x hx => h x (List.mem_cons_of_mem _ hx)]
theorem stp_ok : ∀ (c w : Nat) (last : Bool) (t : T), c < w → last = decide (c + 1 = w) → T.sh w t → T.sh w (T.stp c last t) ∧ ∀ x, (T.stp c last t).val x = sumF t.val (pre c last x)
  | 0, w, true, t, hc, hl, hs => by
    obtain ⟨w, rfl⟩ : ∃ k, w = k + 1 := ⟨w - 1, by omega⟩
    cases t with
    | lf x => exact hs.elim
    | nd l r =>
      refine ⟨⟨hs.2, hs.1⟩, fun x => ?_⟩
      unfold T.stp pre
      by_cases h : x % 2 = 1
      · rw [if_pos h]
        simp only [sumF, T.val]
        rw [if_neg (by omega), if_pos (by omega), show (x - 1) / 2 = x / 2 by omega, Int.add_zero]
      · rw [if_neg h, if_neg (by simp)]
        simp only [sumF, T.val]
        rw [if_pos (by omega), if_neg (by omega), show (x + 1) / 2 = x / 2 by omega, Int.add_zero]
  | 0, w, false, t, hc, hl, hs => by
    obtain ⟨w, rfl⟩ : ∃ k, w = k + 2 := ⟨w - 2, by
      have : ¬ (0 + 1 = w) := by
        intro h
        rw [decide_eq_true h] at hl
        cases hl
      omega⟩
    cases t with
    | lf x => exact hs.elim
    | nd l r =>
      cases l with
      | lf x => exact hs.1.elim
      | nd l0 l1 =>
        cases r with
        | lf x => exact hs.2.elim
        | nd r0 r1 =>
          obtain ⟨a1, a2⟩ := add_sh w r1 l0 hs.2.2 hs.1.1
          refine ⟨⟨⟨hs.2.1, a1⟩, hs.1⟩, fun x => ?_⟩
          unfold T.stp pre
          by_cases h : x % 2 = 1
          · rw [if_pos h]
            simp only [sumF, T.val]
            rw [if_neg (show ¬ x % 2 = 0 by omega), if_pos (show (x - 1) % 2 = 0 by omega), show (x - 1) / 2 = x / 2 by omega, Int.add_zero]
          · rw [if_neg h]
            by_cases h2 : x / 2 % 2 = 1
            · rw [if_pos ⟨rfl, h2⟩]
              simp only [sumF, T.val, a2]
              rw [if_pos (by omega), if_neg (by omega), if_neg (by omega), if_neg (by omega), show (x + 1) / 2 = x / 2 by omega, if_pos (by omega), if_pos (by omega), show (x - 2) / 2 / 2 = x / 2 / 2 by omega, Int.add_zero]
            · rw [if_neg fun z => h2 z.2]
              simp only [sumF, T.val]
              rw [if_pos (by omega), if_pos (by omega), if_neg (by omega), show (x + 1) / 2 = x / 2 by omega, if_pos (by omega), Int.add_zero]
  | c + 1, w, last, t, hc, hl, hs => by
    obtain ⟨w, rfl⟩ : ∃ k, w = k + 1 := ⟨w - 1, by omega⟩
    cases t with
    | lf x => exact hs.elim
    | nd l r =>
      have hl' : last = decide (c + 1 = w) := by rw [hl]; congr 1; simp
      obtain ⟨a1, a2⟩ := stp_ok c w last l (by omega) hl' hs.1
      obtain ⟨b1, b2⟩ := stp_ok c w last r (by omega) hl' hs.2
      refine ⟨⟨a1, b1⟩, fun x => ?_⟩
      show (if x % 2 = 0 then (T.stp c last l).val (x / 2) else (T.stp c last r).val (x / 2)) = sumF (T.nd l r).val ((pre c last (x / 2)).map fun y => 2 * y + x % 2)
      rw [a2, b2, sumF_map]
      by_cases h : x % 2 = 0
      · rw [if_pos h]
        exact sumF_congr fun y _ => by
          show _ = if (2 * y + x % 2) % 2 = 0 then _ else _
          rw [if_pos (by omega), show (2 * y + x % 2) / 2 = y by omega]
      · rw [if_neg h]
        exact sumF_congr fun y _ => by
          show _ = if (2 * y + x % 2) % 2 = 0 then _ else _
          rw [if_neg (by omega), show (2 * y + x % 2) / 2 = y by omega]
end Law

namespace Law
open PL
abbrev Ml := List (Nat × Int)
def gv (l : Ml) (x : Nat) : Int := (aget l x).getD 0
def upd1 (v : Int) (fr : Ml) (a : Nat) : Ml := aput fr a (gv fr a + v)
def stepL (c : Nat) (last : Bool) (l : Ml) : Ml := l.foldl (fun fr p => (stepsR c last p.1).foldl (upd1 p.2) fr) []
theorem gv_upd (v : Int) (fr : Ml) (a x : Nat) : gv (upd1 v fr a) x = gv fr x + (if a = x then v else 0) := by
  unfold upd1 gv
  rw [aget_aput]
  by_cases h : a = x
  · subst h; simp
  · have : (a == x) = false := by simpa using h
    rw [this, if_neg (by decide), if_neg h, Int.add_zero]
theorem gv_inner (v : Int) (x : Nat) : ∀ (s : List Nat) (fr : Ml), s.Nodup → gv (s.foldl (upd1 v) fr) x = gv fr x + (if x ∈ s then v else 0)
  | [], fr, _ => by simp
  | a :: s, fr, h => by
    rw [List.nodup_cons] at h
    rw [List.foldl_cons, gv_inner v x s _ h.2, gv_upd]
    by_cases e : a = x
    · subst e
      rw [if_pos rfl, if_neg h.1, if_pos List.mem_cons_self]
      omega
    · rw [if_neg e, Int.add_zero]
      congr 1
      by_cases q : x ∈ s
      · rw [if_pos q, if_pos (List.mem_cons_of_mem _ q)]
      · rw [if_neg q, if_neg]
        intro z
        rcases List.mem_cons.mp z with z | z
        · exact e z.symm
        · exact q z
def sumM (P : Nat → Prop) [DecidablePred P] : Ml → Int
  | [] => 0
  | p :: l => (if P p.1 then p.2 else 0) + sumM P l
theorem gv_outer (c : Nat) (last : Bool) (x : Nat) : ∀ (l fr : Ml), gv (l.foldl (fun fr p => (stepsR c last p.1).foldl (upd1 p.2) fr) fr) x = gv fr x + sumM (fun m => m ∈ pre c last x) l
  | [], fr => by simp [sumM]
  | p :: l, fr => by
    rw [List.foldl_cons, gv_outer c last x l, gv_inner _ _ _ _ (steps_nd c last p.1), sumM, Int.add_assoc]
    congr 2
    by_cases h : x ∈ stepsR c last p.1
    · rw [if_pos h, if_pos ((dual c last p.1 x).mp h)]
    · rw [if_neg h, if_neg fun z => h ((dual c last p.1 x).mpr z)]
theorem gv_cons (p : Nat × Int) (l : Ml) (m : Nat) : gv (p :: l) m = if p.1 = m then p.2 else gv l m := by
  unfold gv aget
  rw [List.find?_cons]
  by_cases h : p.1 = m
  · have : (p.1 == m) = true := by simpa using h
    rw [this, if_pos h]; rfl
  · have : (p.1 == m) = false := by simpa using h
    rw [this, if_neg h]
theorem sum_one (m : Nat) : ∀ (l : Ml), (l.map (·.1)).Nodup → sumM (fun y => y = m) l = gv l m
  | [], _ => rfl
  | p :: l, h => by
    rw [List.map_cons, List.nodup_cons] at h
    rw [sumM, sum_one m l h.2, gv_cons]
    by_cases e : p.1 = m
    · rw [if_pos e, if_pos e]
      have : gv l m = 0 := by
        unfold gv aget
        have : l.find? (fun q => q.1 == m) = none := by
          rw [List.find?_eq_none]
          intro q hq
          have : q.1 ≠ m := fun z => h.1 (by rw [e, ← z]; exact List.mem_map.mpr ⟨q, hq, rfl⟩)
          simpa using this
        rw [this]; rfl
      rw [this, Int.add_zero]
    · rw [if_neg e, if_neg e, Int.zero_add]
theorem sum_many (l : Ml) (h : (l.map (·.1)).Nodup) : ∀ P : List Nat, P.Nodup → sumM (fun y => y ∈ P) l = sumF (gv l) P
  | [], _ => by
    have : ∀ l : Ml, sumM (fun y => y ∈ ([] : List Nat)) l = 0 := fun l => by
      induction l with
      | nil => rfl
      | cons p l ih => rw [sumM, ih, if_neg (by simp)]; rfl
    rw [this]; rfl
  | a :: P, hn => by
    rw [List.nodup_cons] at hn
    rw [sumF, ← sum_many l h P hn.2, ← sum_one a l h]
    clear h
    induction l with
    | nil => rfl
    | cons p l ih =>
      rw [sumM, sumM, sumM, ih]
      by_cases e : p.1 = a
      · rw [if_pos (by rw [e]; exact List.mem_cons_self), if_pos e, if_neg (by rw [e]; exact hn.1)]
        omega
      · rw [if_neg e]
        by_cases q : p.1 ∈ P
        · rw [if_pos (List.mem_cons_of_mem _ q), if_pos q]; omega
        · rw [if_neg q, if_neg fun z => (List.mem_cons.mp z).elim e q]; omega
theorem gv_step (c : Nat) (last : Bool) (l : Ml) (h : (l.map (·.1)).Nodup) (x : Nat) : gv (stepL c last l) x = sumF (gv l) (pre c last x) := by
  unfold stepL
  rw [gv_outer, sum_many l h _ (pre_nd c last x)]
  simp [gv, aget]
/-! keys -/
def Kk (w : Nat) (l : Ml) : Prop := (l.map (·.1)).Nodup ∧ ∀ p ∈ l, p.1 < 2 ^ w
theorem aput_keys (l : Ml) (a : Nat) (v : Int) : (aput l a v).map (·.1) = if (l.find? fun p => p.1 == a).isSome then l.map (·.1) else l.map (·.1) ++ [a] := by
  unfold aput
  split
  · rw [List.map_map]
    refine List.map_congr_left fun p _ => ?_
    simp only [Function.comp_def]
    split <;> rfl
  · rw [List.map_append]; rfl
theorem Kk.put {w : Nat} {l : Ml} (h : Kk w l) {a : Nat} (ha : a < 2 ^ w) (v : Int) : Kk w (aput l a v) := by
  refine ⟨?_, fun p hp => ?_⟩
  · rw [aput_keys]
    split
    · exact h.1
    · rename_i hn
      rw [List.nodup_append]
      refine ⟨h.1, by simp, fun x hx y hy => ?_⟩
      rw [List.mem_singleton.mp hy]
      rintro rfl
      obtain ⟨p, hp, e⟩ := List.mem_map.mp hx
      refine hn ?_
      rw [List.find?_isSome]
      exact ⟨p, hp, by simpa using e⟩
  · have : p.1 ∈ (aput l a v).map (·.1) := List.mem_map.mpr ⟨p, hp, rfl⟩
    rw [aput_keys] at this
    have old : ∀ x ∈ l.map (·.1), x < 2 ^ w := fun x hx => by
      obtain ⟨q, hq, rfl⟩ := List.mem_map.mp hx
      exact h.2 q hq
    split at this
    · exact old _ this
    · rcases List.mem_append.mp this with z | z
      · exact old _ z
      · rw [List.mem_singleton.mp z]; exact ha
theorem nodup_len : ∀ (n : Nat) (l : List Nat), l.Nodup → (∀ x ∈ l, x < n) → l.length ≤ n
  | 0, l, _, h => by
    cases l with
    | nil => exact Nat.le_refl _
    | cons a l => exact absurd (h a List.mem_cons_self) (by omega)
  | n + 1, l, hn, h => by
    have ih := nodup_len n (l.filter fun x => decide (x ≠ n)) (hn.filter _) fun x hx => by
      obtain ⟨h1, h2⟩ := List.mem_filter.mp hx
      have := h x h1
      have := of_decide_eq_true h2
      omega
    have key : ∀ l : List Nat, l.Nodup → l.length ≤ (l.filter fun x => decide (x ≠ n)).length + 1 := fun l => by
      induction l with
      | nil => intro _; exact Nat.zero_le _
      | cons a l ih =>
        intro hn
        rw [List.nodup_cons] at hn
        rw [List.filter_cons]
        by_cases e : a = n
        · subst e
          have : l.filter (fun x => decide (x ≠ a)) = l := List.filter_eq_self.mpr fun x hx => decide_eq_true fun z => hn.1 (z ▸ hx)
          rw [if_neg (by simp), this]
          simp
        · rw [if_pos (by simpa using e)]
          have := ih hn.2
          simp only [List.length_cons]
          omega
    have := key l hn
    omega
theorem Kk.len {w : Nat} {l : Ml} (h : Kk w l) : l.length ≤ 2 ^ w := by
  have := nodup_len (2 ^ w) (l.map (·.1)) h.1 fun x hx => by
    obtain ⟨q, hq, rfl⟩ := List.mem_map.mp hx
    exact h.2 q hq
  simpa using this
theorem Kk.nil {w : Nat} : Kk w [] := ⟨by simp, fun _ h => nomatch h⟩
theorem Kk.upds {w : Nat} (v : Int) : ∀ {s : List Nat} {fr : Ml}, Kk w fr → (∀ a ∈ s, a < 2 ^ w) → Kk w (s.foldl (upd1 v) fr)
  | [], _, h, _ => h
  | a :: s, fr, h, hs => by
    show Kk w (s.foldl (upd1 v) (upd1 v fr a))
    exact Kk.upds v (h.put (hs a List.mem_cons_self) _) fun x hx => hs x (List.mem_cons_of_mem _ hx)
theorem Kk.steps {w c : Nat} {last : Bool} (hc : c < w) (hl : last = decide (c + 1 = w)) : ∀ {l fr : Ml}, (∀ p ∈ l, p.1 < 2 ^ w) → Kk w fr → Kk w (l.foldl (fun fr p => (stepsR c last p.1).foldl (upd1 p.2) fr) fr)
  | [], _, _, h => h
  | p :: l, fr, hp, h => by
    rw [List.foldl_cons]
    exact Kk.steps hc hl (fun q hq => hp q (List.mem_cons_of_mem _ hq)) (h.upds p.2 (steps_lt c w last p.1 hc hl (hp p List.mem_cons_self)))
/-- the list and the tree tell the same -/
def Rel (w : Nat) (l : Ml) (t : T) : Prop := T.sh w t ∧ Kk w l ∧ ∀ x < 2 ^ w, gv l x = t.val x
theorem Rel.step {w c : Nat} {l : Ml} {t : T} (r : Rel w l t) (hc : c < w) : Rel w (stepL c (decide (c + 1 = w)) l) (t.stp c (decide (c + 1 = w))) := by
  obtain ⟨h1, h2, h3⟩ := r
  obtain ⟨a, b⟩ := stp_ok c w _ t hc rfl h1
  refine ⟨a, Kk.steps hc rfl h2.2 Kk.nil, fun x hx => ?_⟩
  rw [gv_step _ _ _ h2.1, b]
  exact sumF_congr fun m hm => h3 m (pre_lt c w _ x hc rfl hx m hm)
def zer : Nat → T
  | 0 => .lf 0
  | w + 1 => .nd (zer w) (zer w)
def one0 : Nat → T
  | 0 => .lf 1
  | w + 1 => .nd (one0 w) (zer w)
theorem zer_ok : ∀ w, T.sh w (zer w) ∧ ∀ x, (zer w).val x = 0
  | 0 => ⟨trivial, fun _ => rfl⟩
  | w + 1 => by
    obtain ⟨a, b⟩ := zer_ok w
    refine ⟨⟨a, a⟩, fun x => ?_⟩
    show (if x % 2 = 0 then _ else _) = _
    rw [b, ite_self]
theorem one_ok : ∀ w, T.sh w (one0 w) ∧ ∀ x, x < 2 ^ w → (one0 w).val x = if x = 0 then 1 else 0
  | 0 => ⟨trivial, fun x h => by
    have : x = 0 := by simpa using h
    subst this; rfl⟩
  | w + 1 => by
    obtain ⟨a, b⟩ := one_ok w
    obtain ⟨c, d⟩ := zer_ok w
    refine ⟨⟨a, c⟩, fun x hx => ?_⟩
    rw [Nat.pow_succ] at hx
    show (if x % 2 = 0 then (one0 w).val (x / 2) else (zer w).val (x / 2)) = _
    rw [b _ (by omega), d]
    by_cases h : x = 0
    · rw [if_pos (by omega), if_pos (by omega), if_pos h]
    · rw [if_neg h]
      by_cases e : x % 2 = 0
      · rw [if_pos e, if_neg (by omega)]
      · rw [if_neg e]
theorem Rel.start (w : Nat) : Rel w [(0, 1)] (one0 w) := by
  obtain ⟨a, b⟩ := one_ok w
  refine ⟨a, ⟨by simp, fun p hp => ?_⟩, fun x hx => ?_⟩
  · rw [List.mem_singleton.mp hp]; exact Nat.pow_pos (by decide)
  · rw [b x hx, gv_cons]
    by_cases h : x = 0
    · rw [if_pos h.symm, if_pos h]
    · rw [if_neg (fun z => h z.symm), if_neg h]; rfl
/-! one row, all rows -/
def rowL (w : Nat) : Nat → Ml → Ml
  | 0, l => l
  | c + 1, l => stepL c (decide (c + 1 = w)) (rowL w c l)
def rowT (w : Nat) : Nat → T → T
  | 0, t => t
  | c + 1, t => T.stp c (decide (c + 1 = w)) (rowT w c t)
theorem Rel.row {w : Nat} {l : Ml} {t : T} (r : Rel w l t) : ∀ c, c ≤ w → Rel w (rowL w c l) (rowT w c t)
  | 0, _ => r
  | c + 1, h => (Rel.row r c (by omega)).step (by omega)
def allL (w : Nat) : Nat → Ml
  | 0 => [(0, 1)]
  | h + 1 => rowL w w (allL w h)
def allT (w : Nat) : Nat → T
  | 0 => one0 w
  | h + 1 => rowT w w (allT w h)
theorem Rel.all (w : Nat) : ∀ h, Rel w (allL w h) (allT w h)
  | 0 => Rel.start w
  | h + 1 => (Rel.all w h).row w (Nat.le_refl _)
def cntZ (h w : Nat) : Int := gv (allL w h) 0
/-- the counts after each row -/
def tabT (w : Nat) : Nat → T → List Int
  | 0, _ => []
  | n + 1, t => (rowT w w t).val 0 :: tabT w n (rowT w w t)
theorem tab_get (w : Nat) : ∀ (n i k : Nat), i < n → (tabT w n (allT w k))[i]? = some (cntZ (k + i + 1) w)
  | 0, _, _, h => by omega
  | n + 1, 0, k, _ => by
    show some _ = _
    congr 1
    exact ((Rel.all w (k + 1)).2.2 0 (Nat.pow_pos (by decide))).symm
  | n + 1, i + 1, k, h => by
    have := tab_get w n i (k + 1) (by omega)
    rw [show k + 1 + i + 1 = k + (i + 1) + 1 by omega] at this
    exact this
end Law

namespace Law
open PL
def cTab : List (List Int) := [[0, 1, 0, 1, 0, 1, 0, 1, 0, 1, 0, 1],
  [1, 2, 3, 5, 8, 13, 21, 34, 55, 89, 144, 233],
  [0, 3, 0, 11, 0, 41, 0, 153, 0, 571, 0, 2131],
  [1, 5, 11, 36, 95, 281, 781, 2245, 6336, 18061, 51205, 145601],
  [0, 8, 0, 95, 0, 1183, 0, 14824, 0, 185921, 0, 2332097],
  [1, 13, 41, 281, 1183, 6728, 31529, 167089, 817991, 4213133, 21001799, 106912793],
  [0, 21, 0, 781, 0, 31529, 0, 1292697, 0, 53175517, 0, 2188978117],
  [1, 34, 153, 2245, 14824, 167089, 1292697, 12988816, 108435745, 1031151241, 8940739824, 82741005829],
  [0, 55, 0, 6336, 0, 817991, 0, 108435745, 0, 14479521761, 0, 1937528668711],
  [1, 89, 571, 18061, 185921, 4213133, 53175517, 1031151241, 14479521761, 258584046368, 3852472573499, 65743732590821],
  [0, 144, 0, 51205, 0, 21001799, 0, 8940739824, 0, 3852472573499, 0, 1666961188795475],
  [1, 233, 2131, 145601, 2332097, 106912793, 2188978117, 82741005829, 1937528668711, 65743732590821, 1666961188795475, 53060477521960000]]
theorem ct1 : tabT 1 12 (one0 1) = [0, 1, 0, 1, 0, 1, 0, 1, 0, 1, 0, 1] := by decide +kernel
theorem ct2 : tabT 2 12 (one0 2) = [1, 2, 3, 5, 8, 13, 21, 34, 55, 89, 144, 233] := by decide +kernel
theorem ct3 : tabT 3 12 (one0 3) = [0, 3, 0, 11, 0, 41, 0, 153, 0, 571, 0, 2131] := by decide +kernel
theorem ct4 : tabT 4 12 (one0 4) = [1, 5, 11, 36, 95, 281, 781, 2245, 6336, 18061, 51205, 145601] := by decide +kernel
theorem ct5 : tabT 5 12 (one0 5) = [0, 8, 0, 95, 0, 1183, 0, 14824, 0, 185921, 0, 2332097] := by decide +kernel
theorem ct6 : tabT 6 12 (one0 6) = [1, 13, 41, 281, 1183, 6728, 31529, 167089, 817991, 4213133, 21001799, 106912793] := by decide +kernel
theorem ct7 : tabT 7 12 (one0 7) = [0, 21, 0, 781, 0, 31529, 0, 1292697, 0, 53175517, 0, 2188978117] := by decide +kernel
theorem ct8 : tabT 8 12 (one0 8) = [1, 34, 153, 2245, 14824, 167089, 1292697, 12988816, 108435745, 1031151241, 8940739824, 82741005829] := by decide +kernel
theorem ct9 : tabT 9 12 (one0 9) = [0, 55, 0, 6336, 0, 817991, 0, 108435745, 0, 14479521761, 0, 1937528668711] := by decide +kernel
theorem ct10 : tabT 10 12 (one0 10) = [1, 89, 571, 18061, 185921, 4213133, 53175517, 1031151241, 14479521761, 258584046368, 3852472573499, 65743732590821] := by decide +kernel
theorem ct11 : tabT 11 12 (one0 11) = [0, 144, 0, 51205, 0, 21001799, 0, 8940739824, 0, 3852472573499, 0, 1666961188795475] := by decide +kernel
theorem ct12 : tabT 12 12 (one0 12) = [1, 233, 2131, 145601, 2332097, 106912793, 2188978117, 82741005829, 1937528668711, 65743732590821, 1666961188795475, 53060477521960000] := by decide +kernel
/-- how many layings, as a table -/
theorem cnt_tab (h w : Nat) (h1 : 1 ≤ h) (h2 : h ≤ 12) (w1 : 1 ≤ w) (w2 : w ≤ 12) : cntZ h w = rAt (cTab.getD (w - 1) []) (h - 1) := by
  have g := tab_get w 12 (h - 1) 0 (by omega)
  rw [show 0 + (h - 1) + 1 = h by omega] at g
  have t0 : allT w 0 = one0 w := rfl
  rw [t0] at g
  have all : w = 1 ∨ w = 2 ∨ w = 3 ∨ w = 4 ∨ w = 5 ∨ w = 6 ∨ w = 7 ∨ w = 8 ∨ w = 9 ∨ w = 10 ∨ w = 11 ∨ w = 12 := by omega
  unfold rAt
  rw [List.getD_eq_getElem?_getD]
  rcases all with rfl | rfl | rfl | rfl | rfl | rfl | rfl | rfl | rfl | rfl | rfl | rfl
  · rw [ct1] at g
    show _ = ([0, 1, 0, 1, 0, 1, 0, 1, 0, 1, 0, 1] : List Int)[h - 1]?.getD 0
    rw [g]; rfl
  · rw [ct2] at g
    show _ = ([1, 2, 3, 5, 8, 13, 21, 34, 55, 89, 144, 233] : List Int)[h - 1]?.getD 0
    rw [g]; rfl
  · rw [ct3] at g
    show _ = ([0, 3, 0, 11, 0, 41, 0, 153, 0, 571, 0, 2131] : List Int)[h - 1]?.getD 0
    rw [g]; rfl
  · rw [ct4] at g
    show _ = ([1, 5, 11, 36, 95, 281, 781, 2245, 6336, 18061, 51205, 145601] : List Int)[h - 1]?.getD 0
    rw [g]; rfl
  · rw [ct5] at g
    show _ = ([0, 8, 0, 95, 0, 1183, 0, 14824, 0, 185921, 0, 2332097] : List Int)[h - 1]?.getD 0
    rw [g]; rfl
  · rw [ct6] at g
    show _ = ([1, 13, 41, 281, 1183, 6728, 31529, 167089, 817991, 4213133, 21001799, 106912793] : List Int)[h - 1]?.getD 0
    rw [g]; rfl
  · rw [ct7] at g
    show _ = ([0, 21, 0, 781, 0, 31529, 0, 1292697, 0, 53175517, 0, 2188978117] : List Int)[h - 1]?.getD 0
    rw [g]; rfl
  · rw [ct8] at g
    show _ = ([1, 34, 153, 2245, 14824, 167089, 1292697, 12988816, 108435745, 1031151241, 8940739824, 82741005829] : List Int)[h - 1]?.getD 0
    rw [g]; rfl
  · rw [ct9] at g
    show _ = ([0, 55, 0, 6336, 0, 817991, 0, 108435745, 0, 14479521761, 0, 1937528668711] : List Int)[h - 1]?.getD 0
    rw [g]; rfl
  · rw [ct10] at g
    show _ = ([1, 89, 571, 18061, 185921, 4213133, 53175517, 1031151241, 14479521761, 258584046368, 3852472573499, 65743732590821] : List Int)[h - 1]?.getD 0
    rw [g]; rfl
  · rw [ct11] at g
    show _ = ([0, 144, 0, 51205, 0, 21001799, 0, 8940739824, 0, 3852472573499, 0, 1666961188795475] : List Int)[h - 1]?.getD 0
    rw [g]; rfl
  · rw [ct12] at g
    show _ = ([1, 233, 2131, 145601, 2332097, 106912793, 2188978117, 82741005829, 1937528668711, 65743732590821, 1666961188795475, 53060477521960000] : List Int)[h - 1]?.getD 0
    rw [g]; rfl
end Law

namespace Law
open PL
/-! ### steps_of -/
theorem band_nat (a b : Nat) : dBand (.int (a : Int)) (.int (b : Int)) = vI ((a &&& b : Nat) : Int) := by
  unfold dBand
  simp only
  congr 1
theorem s_steps (m c w : Nat) (hm : m < 2 ^ w) (hc : c < w) (hw : w ≤ 12) : ∃ o, sem_steps_of [.int (m : Int), .int (c : Int), .int (w : Int)] = .ok ⟨.lst ((stepsR c (decide (c + 1 = w)) m).map fun (x : Nat) => .int (x : Int)), o⟩ := by
  show ∃ o, fnS 5 3 body_steps_of [.int (m : Int), .int (c : Int), .int (w : Int)] = _
  rw [fnS3, ← steps_eq]
  unfold stepsB
  have pw : 2 ^ w ≤ 2 ^ 12 := Nat.pow_le_pow_right (by decide) hw
  have pc : 2 ^ c ≤ 2 ^ 12 := Nat.pow_le_pow_right (by decide) (by omega)
  have sh : dShl (.int 1) (.int (c : Int)) = vI ((2 ^ c : Nat) : Int) := by
    unfold dShl
    simp only
    rw [if_pos ⟨by omega, by omega, by decide⟩]
    simp
  have b1 := band_nat m (2 ^ c)
  have qq : 2 ^ (c + 1) = 2 ^ c * 2 := Nat.pow_succ ..
  have b2 := band_nat m (2 ^ (c + 1))
  rw [and_pow] at b1 b2
  rw [qq] at b2
  have dm : dMul (.int ((2 ^ c : Nat) : Int)) (.int 2) = vI (((2 ^ c : Nat) : Int) * 2) := dMul_sm (big400 (by rw [Int.natAbs_natCast]; omega)) (big400 (by decide))
  have pp : 0 < 2 ^ c := Nat.pow_pos (by decide)
  rw [qq]
  have e2 : ((2 ^ c : Nat) : Int) * 2 = ((2 ^ c * 2 : Nat) : Int) := by omega
  rw [e2] at dm
  by_cases h1 : m / 2 ^ c % 2 = 1
  · rw [if_pos h1]
    rw [h1, Nat.one_mul] at b1
    have hp : (0 : Int) < ((2 ^ c : Nat) : Int) := by omega
    have le : 2 ^ c ≤ m := by
      refine Nat.le_of_not_lt fun h => ?_
      rw [Nat.div_eq_of_lt h] at h1
      simp at h1
    have sb : (m : Int) - ((2 ^ c : Nat) : Int) = ((m - 2 ^ c : Nat) : Int) := by omega
    refine ⟨1, ?_⟩
    simp only [List.map_cons, List.map_nil]
    generalize ((m - 2 ^ c : Nat) : Int) = r at *
    generalize ((2 ^ c : Nat) : Int) = p at *
    simp [body_steps_of, S_steps_of_1, S_steps_of_2, go_pk, slot1_ap, sh, b1, hp, sb]
  · rw [if_neg h1]
    have h0 : m / 2 ^ c % 2 = 0 := by omega
    rw [h0, Nat.zero_mul] at b1
    have ad : (m : Int) + ((2 ^ c : Nat) : Int) = ((m + 2 ^ c : Nat) : Int) := by omega
    have ad2 : (m : Int) + ((2 ^ c * 2 : Nat) : Int) = ((m + 2 ^ c * 2 : Nat) : Int) := by omega
    refine ⟨0, ?_⟩
    by_cases hl : c + 1 = w
    · have hl' : ¬ (c : Int) + 1 < (w : Int) := by omega
      rw [if_neg (by simp [hl])]
      simp only [List.map_cons, List.map_nil]
      generalize ((m + 2 ^ c : Nat) : Int) = r at *
      generalize ((2 ^ c : Nat) : Int) = p at *
      simp [body_steps_of, S_steps_of_1, S_steps_of_2, S_steps_of_3, S_steps_of_4, S_steps_of_5, go_pk, slot1_ap, sh, b1, ad, hl', eVar_o1]
    · have hl' : (c : Int) + 1 < (w : Int) := by omega
      by_cases h2 : m / (2 ^ c * 2) % 2 = 0
      · rw [if_pos ⟨by simp [hl], h2⟩]
        rw [h2, Nat.zero_mul] at b2
        simp only [List.map_cons, List.map_nil]
        have ap : opApp [.int ((m + 2 ^ c : Nat) : Int)] [.int ((m + 2 ^ c * 2 : Nat) : Int)] = some (.non, [.int ((m + 2 ^ c : Nat) : Int), .int ((m + 2 ^ c * 2 : Nat) : Int)]) := rfl
        generalize ((m + 2 ^ c : Nat) : Int) = r at *
        generalize ((m + 2 ^ c * 2 : Nat) : Int) = r2 at *
        generalize ((2 ^ c * 2 : Nat) : Int) = p2 at *
        generalize ((2 ^ c : Nat) : Int) = p at *
        have mu : ∀ g : PL.Env, g[4]? = some (some ⟨.lst [.int r], 1⟩) → mutO 4 opApp [.int r2] g = .ok ⟨.non, 0⟩ (g.set 4 (some ⟨.lst [.int r, .int r2], 1⟩)) := fun g h => mutO_ap h ap
        simp [body_steps_of, S_steps_of_1, S_steps_of_2, S_steps_of_3, S_steps_of_4, S_steps_of_5, go_pk, slot1_ap, sh, b1, b2, ad, ad2, dm, hl', eVar_o1, eMut_ap, mu]
      · rw [if_neg fun z => h2 z.2]
        have h3 : m / (2 ^ c * 2) % 2 = 1 := by omega
        rw [h3, Nat.one_mul] at b2
        have ne : ¬ (((2 ^ c * 2 : Nat) : Int) = 0) := by omega
        simp only [List.map_cons, List.map_nil]
        generalize ((m + 2 ^ c : Nat) : Int) = r at *
        generalize ((2 ^ c * 2 : Nat) : Int) = p2 at *
        generalize ((2 ^ c : Nat) : Int) = p at *
        simp [body_steps_of, S_steps_of_1, S_steps_of_2, S_steps_of_3, S_steps_of_4, S_steps_of_5, go_pk, slot1_ap, sh, b1, b2, ad, dm, hl', ne, eVar_o1]
/-! ### count_layings -/
def mlD (l : Ml) : D := .dct (encL (fun n : Nat => .int (n : Int)) .int l)
theorem eq_nat (a b : Nat) : eqD (.int (a : Int)) (.int (b : Int)) = (a == b) := by
  show ((a : Int) == (b : Int)) = _
  rw [Bool.eq_iff_iff]
  simp only [beq_iff_eq]
  omega
theorem fl_nat (a : Nat) : flatK (.int (a : Int)) = true := rfl
section
variable {h w c : Nat} {l fr : Ml} {a3 : Option Val}
def N (n : Nat) : Option Val := some ⟨.int (n : Int), 0⟩
theorem b1 (hk : Kk w fr) (hw : w ≤ 12) (m : Nat) (v : Int) (a : Nat) : fo1 (.n 8) B_count_layings_1 [8] (.int (a : Int)) [N h, N w, some ⟨mlD l, 0⟩, a3, N c, some ⟨mlD fr, 1⟩, N m, some ⟨.int v, 0⟩, none] = .nx [N h, N w, some ⟨mlD l, 0⟩, a3, N c, some ⟨mlD (upd1 v fr a), 1⟩, N m, some ⟨.int v, 0⟩, none] := by
  have hb := big_val
  have len := hk.len
  have pw : 2 ^ w ≤ 2 ^ 12 := Nat.pow_le_pow_right (by decide) hw
  have g1 : oGet [mlD fr, .int (a : Int), .int 0] = some ⟨.int (gv fr a), 0⟩ := by
    unfold mlD
    rw [oGet_ap (fit_flat fl_nat) rfl, getD_enc eq_nat]
    unfold gv
    cases aget fr a <;> rfl
  have st : ∀ g : PL.Env, g[5]? = some (some ⟨mlD fr, 1⟩) → g[8]? = some (some ⟨.int (a : Int), 0⟩) → setDk 5 (eVar 8) (.int (gv fr a + v)) g = .nx (g.set 5 (some ⟨mlD (upd1 v fr a), 1⟩)) := fun g g5 g8 => by
    have q := setDk_ap (g := g) (i := 5) (fk := eVar 8) (kvs := encL (fun n : Nat => .int (n : Int)) .int fr) (k := .int (a : Int)) (d := .int (gv fr a + v)) (n := 0) g5 (eVar_ap g8) (fit_flat fl_nat) (by rw [encL_len]; omega)
    rw [q, putD_enc (enc := fun n : Nat => D.int (n : Int)) (val := D.int) (k := a) (v := gv fr a + v) eq_nat]
    rfl
  have ck : ∀ o, chkT isDct (some (mlD fr)) o = o := fun o => rfl
  have st := st [N h, N w, some ⟨mlD l, 0⟩, a3, N c, some ⟨mlD fr, 1⟩, N m, some ⟨.int v, 0⟩, some ⟨.int (a : Int), 0⟩] rfl rfl
  simp only [List.set_cons_succ, List.set_cons_zero] at st
  simp [fo1_ap, B_count_layings_1, go_pk, slot1_ap, slot1_ap1, ck, g1, st]
theorem b2 (hk : Kk w fr) (hw : w ≤ 12) (hc : c < w) (m : Nat) (hm : m < 2 ^ w) (v : Int) : fo1 (.t [.n 6, .n 7]) B_count_layings_2 [6, 7, 8] (.tup [.int (m : Int), .int v]) [N h, N w, some ⟨mlD l, 0⟩, a3, N c, some ⟨mlD fr, 1⟩, none, none, none] = .nx [N h, N w, some ⟨mlD l, 0⟩, a3, N c, some ⟨mlD ((stepsR c (decide (c + 1 = w)) m).foldl (upd1 v) fr), 1⟩, none, none, none] := by
  obtain ⟨o, ss⟩ := s_steps m c w hm hc hw
  have loop := (forL_st (t := .n 8) (a := B_count_layings_1) (ks := [8]) (fun (x : Nat) => .int (x : Int)) (fun fr => [N h, N w, some ⟨mlD l, 0⟩, a3, N c, some ⟨mlD fr, 1⟩, N m, some ⟨.int v, 0⟩, none]) (upd1 v) (Kk w) (l := stepsR c (decide (c + 1 = w)) m) hk fun s hs x hx => ⟨b1 hs hw m v x, hs.put (steps_lt c w _ m hc rfl hm x hx) _⟩).1
  unfold N at *
  simp [fo1_ap, B_count_layings_2, F_count_layings_1, eVar_ap, ss, loop]
theorem b3 (hk : Kk w l) (hw : w ≤ 12) (hc : c < w) : fo1 (.n 4) B_count_layings_3 [4, 5, 6, 7, 8] (.int (c : Int)) [N h, N w, some ⟨mlD l, 0⟩, a3, none, none, none, none, none] = .nx [N h, N w, some ⟨mlD (stepL c (decide (c + 1 = w)) l), 0⟩, a3, none, none, none, none, none] := by
  have loop := (forL_st (t := .t [.n 6, .n 7]) (a := B_count_layings_2) (ks := [6, 7, 8]) (fun (p : Nat × Int) => .tup [.int (p.1 : Int), .int p.2]) (fun fr => [N h, N w, some ⟨mlD l, 0⟩, a3, N c, some ⟨mlD fr, 1⟩, none, none, none]) (fun fr p => (stepsR c (decide (c + 1 = w)) p.1).foldl (upd1 p.2) fr) (Kk w) (l := l) (s := []) Kk.nil fun s hs p hp => ⟨b2 hs hw hc p.1 (hk.2 p hp) p.2, hs.upds p.2 (steps_lt c w _ p.1 hc rfl (hk.2 p hp))⟩).1
  have it : itemsO (mlD l) = some (l.map fun p => .tup [.int (p.1 : Int), .int p.2]) := by
    unfold mlD encL
    rw [itemsO_dct, List.map_map]
    rfl
  have e0 : mlD [] = .dct [] := rfl
  rw [e0] at loop
  have e1 : l.foldl (fun fr p => (stepsR c (decide (c + 1 = w)) p.1).foldl (upd1 p.2) fr) [] = stepL c (decide (c + 1 = w)) l := rfl
  rw [e1] at loop
  unfold N at *
  simp [fo1_ap, B_count_layings_3, F_count_layings_2, eVar_ap, eVar_o1, it, loop]
theorem b4 (hk : ∀ c, c ≤ w → Kk w (rowL w c l)) (hw : w ≤ 12) (i : Int) : fo1 (.n 3) B_count_layings_4 [3, 4, 5, 6, 7, 8] (.int i) [N h, N w, some ⟨mlD l, 0⟩, none, none, none, none, none, none] = .nx [N h, N w, some ⟨mlD (rowL w w l), 0⟩, none, none, none, none, none, none] := by
  have hb := big_val
  have loop := forL_range (t := .n 4) (a := B_count_layings_3) (ks := [4, 5, 6, 7, 8]) (fun c => [N h, N w, some ⟨mlD (rowL w c l), 0⟩, some ⟨.int i, 0⟩, none, none, none, none, none]) w fun c hc => b3 (hk c (by omega)) hw hc
  have e0 : rowL w 0 l = l := rfl
  simp only [e0] at loop
  have r := fun g => rng1_nat (g := g) (n := w) (by omega)
  unfold N at *
  simp [fo1_ap, B_count_layings_4, F_count_layings_3, eVar_ap, r, loop]
theorem sides_ok (hh : 1 ≤ h ∧ h ≤ 12) (hw : 1 ≤ w ∧ w ≤ 12) : sem_look_at_sides [.int (h : Int), .int (w : Int)] = .ok ⟨.non, 0⟩ := by
  have sd : ∀ n : Nat, 1 ≤ n ∧ n ≤ 12 → sem_is_side [.int (n : Int)] = .ok ⟨.bl true, 0⟩ := fun n hn => by
    show fnS 1 1 body_is_side [.int (n : Int)] = _
    rw [fnS1]
    have wh : sem_is_whole [.int (n : Int)] = .ok ⟨.bl true, 0⟩ := rfl
    have c1 : (1 : Int) ≤ (n : Int) := by omega
    have c2 : (n : Int) ≤ 12 := by omega
    generalize (n : Int) = z at *
    simp [body_is_side, eVar_ap, wh, go_pk, slot1_ap, c1, c2]
  show fnS 2 2 body_look_at_sides [.int (h : Int), .int (w : Int)] = _
  rw [fnS2]
  simp [body_look_at_sides, eVar_ap, sd h hh, sd w hw]
def cellsZ (h w : Nat) : List (Int × Int) := (List.range h).flatMap fun (i : Nat) => (List.range w).map fun (j : Nat) => ((i : Int), (j : Int))
theorem s_cells (hh : 1 ≤ h ∧ h ≤ 12) (hw : 1 ≤ w ∧ w ≤ 12) : sem_all_cells [.int (h : Int), .int (w : Int)] = .ok ⟨.tup ((cellsZ h w).map cD), 0⟩ := by
  have hb := big_val
  show fnS 4 2 body_all_cells [.int (h : Int), .int (w : Int)] = _
  rw [fnS2]
  have lk := sides_ok hh hw
  have rw1 := fun g => rng1_nat (g := g) (n := w) (by omega)
  have rh := fun g => rng1_nat (g := g) (n := h) (by omega)
  have hM : w ≤ big / h := (Nat.le_div_iff_mul_le (by omega)).mpr (Nat.le_trans (Nat.mul_le_mul hw.2 hh.2) (by rw [hb]; decide))
  have inn : ∀ i : Nat, lcL (.n 3) none (eTup [eVar 2, eVar 3]) false [3] ((List.range w).map fun (j : Nat) => .int (j : Int)) [N h, N w, N i, none] = .ok ((List.range w).map fun (j : Nat) => cD ((i : Int), (j : Int))) [N h, N w, N i, none] := fun i => by
    refine lcL_mapE _ fun j _ => ?_
    unfold N
    simp [lc1, eVar_ap, cD]
  have out : lcO (big / h) (.n 2) none (iR1 (eVar 1)) (.n 3) none (eTup [eVar 2, eVar 3]) false [2, 3] [3] ((List.range h).map fun (i : Nat) => .int (i : Int)) [N h, N w, none, none] = .ok ((List.range h).flatMap fun (i : Nat) => (List.range w).map fun (j : Nat) => cD ((i : Int), (j : Int))) [N h, N w, none, none] := by
    refine lcO_mapE _ fun i _ => ?_
    have i2 := inn i
    unfold N at *
    rw [lo1_ap, asg_n, Option.bind_some, testO_none, Option.bind_some, if_pos rfl, iR1_ap, eVar_ap (d := .int (w : Int)) rfl, iOf_ok, rw1, lo2_ok (by simpa using hM)]
    simp only [killG_cons, killG_nil, List.set_cons_succ, List.set_cons_zero]
    rw [i2, lo3_ok]
    rfl
  unfold N at out
  have e : (cellsZ h w).map cD = (List.range h).flatMap fun (i : Nat) => (List.range w).map fun (j : Nat) => cD ((i : Int), (j : Int)) := by
    unfold cellsZ
    rw [List.map_flatMap]
    congr 1
    funext i
    rw [List.map_map]
    rfl
  rw [e]
  simp [body_all_cells, C_all_cells_1, eVar_ap, lk, rh, out]
theorem s_count (hh : 1 ≤ h ∧ h ≤ 12) (hw : 1 ≤ w ∧ w ≤ 12) : sem_count_layings [.int (h : Int), .int (w : Int)] = .ok ⟨.int (cntZ h w), 0⟩ := by
  have hb := big_val
  have cl := s_cells hh hw
  have loop := forL_range (t := .n 3) (a := B_count_layings_4) (ks := [3, 4, 5, 6, 7, 8]) (fun i => [N h, N w, some ⟨mlD (allL w i), 0⟩, none, none, none, none, none, none]) h fun i _ => b4 (fun c hc => ((Rel.all w i).row c hc).2.1) hw.2 (i : Int)
  have e0 : mlD (allL w 0) = .dct [(.int 0, .int 1)] := rfl
  rw [e0] at loop
  have r := fun g => rng1_nat (g := g) (n := h) (by omega)
  have g1 : oGet [mlD (allL w h), .int 0, .int 0] = some ⟨.int (cntZ h w), 0⟩ := by
    refine (oGet_ap (kvs := encL (fun n : Nat => D.int (n : Int)) .int (allL w h)) (k := .int ((0 : Nat) : Int)) (z := .int 0) (fit_flat (enc := fun n : Nat => D.int (n : Int)) (k := 0) fl_nat) rfl).trans ?_
    rw [getD_enc (enc := fun n : Nat => D.int (n : Int)) (k := 0) eq_nat]
    unfold cntZ gv
    cases aget (allL w h) 0 <;> rfl
  have ck : ∀ o, chkT isDct (some (mlD (allL w h))) o = o := fun o => rfl
  have pa : putAll [] [.tup [.int 0, .int 1]] = some [(.int 0, .int 1)] := rfl
  show fnS 9 2 body_count_layings [.int (h : Int), .int (w : Int)] = _
  rw [fnS2]
  unfold N at loop
  simp [body_count_layings, F_count_layings_4, eVar_ap, go_pk, slot1_ap, cl, r, loop, pa, ck, g1]
end
end Law

namespace Law
open PL
abbrev Cell := Int × Int
abbrev Pr := Cell × Cell
abbrev Lay := List Pr
def pD (p : Pr) : D := .tup [cD p.1, cD p.2]
def lD (l : Lay) : D := .tup (l.map pD)
def flat (l : Lay) : List Cell := l.flatMap fun p => [p.1, p.2]
/-! ### the law's going through -/
def freeC (cells : List Cell) (row : Lay) : List Cell := cells.filter fun c => !(flat row).contains c
def extB (cells : List Cell) (row : Lay) (f : Cell) : List Lay := ([(f.1, f.2 + 1), (f.1 + 1, f.2)].filter fun o => cells.contains o && !(flat row).contains o).map fun o => row ++ [(f, o)]
def ext (cells : List Cell) (row : Lay) : List Lay := extB cells row ((freeC cells row).headD (0, 0))
def layN (h w : Nat) : Nat → List Lay
  | 0 => [[]]
  | k + 1 => (layN h w k).flatMap (ext (cellsZ h w))
def turns (h w : Nat) : Nat := (h * w + 1) / 2
def okLay (h w : Nat) : Bool := (List.range (turns h w + 1)).all fun k => decide ((layN h w k).length ≤ 1000) && (layN h w k).all fun row => row.length == k && (decide (k = turns h w) || !(freeC (cellsZ h w) row).isEmpty)
theorem lay_all : ∀ h < 5, ∀ w < 6, 1 ≤ h → 1 ≤ w → okLay h w = true ∧ ((layN h w (turns h w)).length : Int) = rAt (cTab.getD (w - 1) []) (h - 1) := by decide +kernel
theorem lay_at {h w k : Nat} (hh : 1 ≤ h ∧ h ≤ 4) (hw : 1 ≤ w ∧ w ≤ 5) (hk : k ≤ turns h w) : (layN h w k).length ≤ 1000 ∧ ∀ row ∈ layN h w k, row.length = k ∧ (k < turns h w → freeC (cellsZ h w) row ≠ []) := by
  have q := (lay_all h (by omega) w (by omega) hh.1 hw.1).1
  unfold okLay at q
  have := List.all_eq_true.mp q k (List.mem_range.mpr (by omega))
  obtain ⟨q1, q2⟩ := Bool.and_eq_true_iff.mp this
  refine ⟨of_decide_eq_true q1, fun row hr => ?_⟩
  have := List.all_eq_true.mp q2 row hr
  obtain ⟨q3, q4⟩ := Bool.and_eq_true_iff.mp this
  refine ⟨by simpa using q3, fun hk => ?_⟩
  rcases Bool.or_eq_true_iff.mp q4 with z | z
  · have := of_decide_eq_true z; omega
  · intro e
    rw [e] at z
    cases z
theorem turns_le {h w : Nat} (hh : 1 ≤ h ∧ h ≤ 4) (hw : 1 ≤ w ∧ w ≤ 5) : 1 ≤ turns h w ∧ turns h w ≤ 10 := by
  have a : h * w ≤ 4 * 5 := Nat.mul_le_mul hh.2 hw.2
  have b : 1 * 1 ≤ h * w := Nat.mul_le_mul hh.1 hw.1
  unfold turns
  omega
theorem flat_len : ∀ l : Lay, (flat l).length = 2 * l.length
  | [] => rfl
  | p :: l => by
    show ([p.1, p.2] ++ flat l).length = _
    rw [List.length_append, flat_len l]
    simp
    omega
theorem flat_app (l : Lay) (p : Pr) : flat (l ++ [p]) = flat l ++ [p.1, p.2] := by
  unfold flat
  rw [List.flatMap_append]
  rfl
def clD (l : List Cell) : Option Val := some ⟨.lst (l.map cD), 0⟩
section
variable {h w : Nat} {a2 a5 a8 a9 a10 a11 : Option Val} {row : Lay} {cells taken : List Cell} {acc : List Lay}
/-- slots: 0 high, 1 wide, 2 rows, 3 cells, 4 i, 5 turn, 6 fresh, 7 row, 8 taken, 9 pair, 10 first, 11 other, 12, 13 -/
theorem e_taken (hl : row.length ≤ 20) : forL (.n 9) B__law_layings_2 [9] (row.map pD) [N h, N w, a2, clD cells, none, a5, some ⟨.lst (acc.map lD), 1⟩, some ⟨lD row, 0⟩, clD [], none, none, none, none, none] = .nx [N h, N w, a2, clD cells, none, a5, some ⟨.lst (acc.map lD), 1⟩, some ⟨lD row, 0⟩, clD (flat row), none, none, none, none, none] := by
  have hb := big_val
  refine forL_pre (t := .n 9) (a := B__law_layings_2) (ks := [9]) pD (fun s => [N h, N w, a2, clD cells, none, a5, some ⟨.lst (acc.map lD), 1⟩, some ⟨lD row, 0⟩, clD (flat s), none, none, none, none, none]) fun p x q e => ?_
  have o : oList [pD x] = some ⟨.lst ([x.1, x.2].map cD), 1⟩ := rfl
  have hp : p.length ≤ 20 := by
    have := congrArg List.length e
    simp at this
    omega
  have fl := flat_len p
  have ct : dAdd (.lst ((flat p).map cD)) (.lst ([x.1, x.2].map cD)) = some ⟨.lst ((flat (p ++ [x])).map cD), 1⟩ := by
    rw [cat_lst (by rw [List.length_map, List.length_map]; simp; omega), flat_app, List.map_append]
  unfold clD
  generalize (flat (p ++ [x])).map cD = R at *
  generalize (flat p).map cD = R0 at *
  generalize ([x.1, x.2].map cD) = R1 at *
  simp [fo1_ap, B__law_layings_2, go_pk, slot1_ap, o, ct]
theorem e_free (hcells : cells.length ≤ 100) : C__law_layings_2 [N h, N w, a2, clD cells, none, a5, some ⟨.lst (acc.map lD), 1⟩, some ⟨lD row, 0⟩, clD taken, none, none, none, none, none] = .ok ⟨.lst ((cells.filter fun c => !taken.contains c).map cD), 1⟩ [N h, N w, a2, clD cells, none, a5, some ⟨.lst (acc.map lD), 1⟩, some ⟨lD row, 0⟩, clD taken, none, none, none, none, none] := by
  have comp : lcL (.n 13) (some (e2 dNin (.pk 13) (.pk 8))) (eVar 13) false [13] (cells.map cD) [N h, N w, a2, clD cells, none, a5, some ⟨.lst (acc.map lD), 1⟩, some ⟨lD row, 0⟩, clD taken, none, none, none, none, none] = .ok ((cells.filter fun c => !taken.contains c).map cD) [N h, N w, a2, clD cells, none, a5, some ⟨.lst (acc.map lD), 1⟩, some ⟨lD row, 0⟩, clD taken, none, none, none, none, none] := by
    refine lcL_fil cD fun c _ => ?_
    have n := dNin_cells c taken
    unfold clD
    generalize taken.contains c = q at *
    cases q <;> simp [lc1, go_pk, slot1_ap, eVar_ap, n]
  unfold C__law_layings_2
  unfold clD at *
  simp only [eLc_ap, iV_ap, eVar_ap (g := [N h, N w, a2, some ⟨.lst (cells.map cD), 0⟩, none, a5, some ⟨.lst (acc.map lD), 1⟩, some ⟨lD row, 0⟩, some ⟨.lst (taken.map cD), 0⟩, none, none, none, none, none]) (i := 3) (d := .lst (cells.map cD)) rfl, iOf_ok, itI_lst, bindI_ok, killG_cons, killG_nil, List.set_cons_succ, List.set_cons_zero, comp, okI_ok, restG_nil, lv_f]
theorem e_other (hr : row.length ≤ 20) (ha : acc.length ≤ 100000) (f o : Cell) : fo1 (.n 11) B__law_layings_3 [11] (cD o) [N h, N w, a2, clD cells, none, a5, some ⟨.lst (acc.map lD), 1⟩, some ⟨lD row, 0⟩, clD taken, none, some ⟨cD f, 0⟩, none, none, none] = .nx [N h, N w, a2, clD cells, none, a5, some ⟨.lst ((acc ++ if (cells.contains o && !taken.contains o) = true then [row ++ [(f, o)]] else []).map lD), 1⟩, some ⟨lD row, 0⟩, clD taken, none, some ⟨cD f, 0⟩, none, none, none] := by
  have hb := big_val
  have i1 := dIn_cells o cells
  have i2 := dNin_cells o taken
  have ct : dAdd (lD row) (.tup [.tup [cD f, cD o]]) = some ⟨lD (row ++ [(f, o)]), 0⟩ := by
    unfold lD
    rw [cat_tup (by rw [List.length_map]; simp; omega), List.map_append]
    rfl
  have ap : opApp (acc.map lD) [lD (row ++ [(f, o)])] = some (.non, (acc ++ [row ++ [(f, o)]]).map lD) := by
    rw [List.map_append]
    exact if_pos (by rw [List.length_map]; omega)
  have mu : ∀ g : PL.Env, g[6]? = some (some ⟨.lst (acc.map lD), 1⟩) → mutO 6 opApp [lD (row ++ [(f, o)])] g = .ok ⟨.non, 0⟩ (g.set 6 (some ⟨.lst ((acc ++ [row ++ [(f, o)]]).map lD), 1⟩)) := fun g h => mutO_ap h ap
  unfold clD
  generalize cells.contains o = q1 at *
  generalize taken.contains o = q2 at *
  generalize cells.map cD = A3 at *
  generalize taken.map cD = A4 at *
  cases q1
  · simp [fo1_ap, B__law_layings_3, go_pk, slot1_ap, eVar_ap, i1]
  · cases q2
    · rw [show (true && !false) = true from rfl, if_pos rfl]
      generalize acc.map lD = A at *
      generalize (acc ++ [row ++ [(f, o)]]).map lD = A2 at *
      simp [fo1_ap, B__law_layings_3, go_pk, slot1_ap, eVar_ap, i1, i2, eMut_ap, ct, mu]
    · simp [fo1_ap, B__law_layings_3, go_pk, slot1_ap, eVar_ap, i1, i2]
theorem e_row (hr : row.length ≤ 20) (ha : acc.length ≤ 10000) (hc : cells.length ≤ 100) (hf : freeC cells row ≠ []) : fo1 (.n 7) B__law_layings_4 [7, 8, 9, 10, 11] (lD row) [N h, N w, a2, clD cells, none, a5, some ⟨.lst (acc.map lD), 1⟩, none, none, none, none, none, none, none] = .nx [N h, N w, a2, clD cells, none, a5, some ⟨.lst ((acc ++ ext cells row).map lD), 1⟩, none, none, none, none, none, none, none] := by
  have t := e_taken (h := h) (w := w) (a2 := a2) (a5 := a5) (cells := cells) (acc := acc) hr
  have fr := e_free (h := h) (w := w) (a2 := a2) (a5 := a5) (row := row) (taken := flat row) (acc := acc) hc
  have e0 : (cells.filter fun c => !(flat row).contains c) = freeC cells row := rfl
  rw [e0] at fr
  unfold ext extB
  generalize hF : freeC cells row = F at *
  cases F with
  | nil => exact absurd rfl hf
  | cons f F =>
    have ix : dIx (.lst ((f :: F).map cD)) (.int 0) = some ⟨cD f, 0⟩ := dIx_lst (i := 0) rfl
    have x1 : dIx (cD f) (.int 0) = some ⟨.int f.1, 0⟩ := rfl
    have x2 : dIx (cD f) (.int 1) = some ⟨.int f.2, 0⟩ := rfl
    have o1 := e_other (h := h) (w := w) (a2 := a2) (a5 := a5) (cells := cells) (taken := flat row) (row := row) (acc := acc) hr (by omega) f (f.1, f.2 + 1)
    have o2 := fun acc2 (h2 : acc2.length ≤ 100000) => e_other (h := h) (w := w) (a2 := a2) (a5 := a5) (cells := cells) (taken := flat row) (row := row) (acc := acc2) hr h2 f (f.1 + 1, f.2)
    have o2 := o2 (acc ++ if (cells.contains (f.1, f.2 + 1) && !(flat row).contains (f.1, f.2 + 1)) = true then [row ++ [(f, (f.1, f.2 + 1))]] else []) (by rw [List.length_append]; split <;> simp <;> omega)
    have src : iV (eLst [eTup [e2 dIx (.pk 10) (.ex (eC (.int 0))), e2 dAdd (.ex (e2 dIx (.pk 10) (.ex (eC (.int 1))))) (.ex (eC (.int 1)))], eTup [e2 dAdd (.ex (e2 dIx (.pk 10) (.ex (eC (.int 0))))) (.ex (eC (.int 1))), e2 dIx (.pk 10) (.ex (eC (.int 1)))]]) [N h, N w, a2, clD cells, none, a5, some ⟨.lst (acc.map lD), 1⟩, some ⟨lD row, 0⟩, clD (flat row), none, some ⟨cD f, 0⟩, none, none, none] = .ok [cD (f.1, f.2 + 1), cD (f.1 + 1, f.2)] [N h, N w, a2, clD cells, none, a5, some ⟨.lst (acc.map lD), 1⟩, some ⟨lD row, 0⟩, clD (flat row), none, some ⟨cD f, 0⟩, none, none, none] := by
      simp [go_pk, slot1_ap, x1, x2]
      exact ⟨rfl, rfl⟩
    have it : ∀ g, itI (lD row) g = .ok (row.map pD) g := fun g => rfl
    have res : (acc ++ ([(f.1, f.2 + 1), (f.1 + 1, f.2)].filter fun o => cells.contains o && !(flat row).contains o).map fun o => row ++ [(f, o)]) = (acc ++ if (cells.contains (f.1, f.2 + 1) && !(flat row).contains (f.1, f.2 + 1)) = true then [row ++ [(f, (f.1, f.2 + 1))]] else []) ++ if (cells.contains (f.1 + 1, f.2) && !(flat row).contains (f.1 + 1, f.2)) = true then [row ++ [(f, (f.1 + 1, f.2))]] else [] := by
      rw [List.filter_cons, List.filter_cons, List.filter_nil]
      by_cases q1 : (cells.contains (f.1, f.2 + 1) && !(flat row).contains (f.1, f.2 + 1)) = true <;> by_cases q2 : (cells.contains (f.1 + 1, f.2) && !(flat row).contains (f.1 + 1, f.2)) = true <;> simp only [q1, q2, if_true, if_false, Bool.false_eq_true, List.map_cons, List.map_nil, List.append_nil, List.append_assoc, List.cons_append, List.nil_append]
    rw [List.headD_cons, res]
    have c0 : clD [] = some ⟨.lst [], 0⟩ := rfl
    rw [c0] at t
    rw [fo1_ap, asg_n, atO_some]
    simp only [List.set_cons_succ, List.set_cons_zero]
    rw [B__law_layings_4, seq_ap, sSet_ap, eLst_ap, goE_nil, bindE_ok, keepV_f, bindS_nx]
    simp only [List.set_cons_succ, List.set_cons_zero]
    rw [seq_ap, F__law_layings_2, sFor_ap, iV_ap, eVar_ap (d := lD row) rfl, iOf_ok, it, bindIS_ok]
    simp only [killG_cons, killG_nil, List.set_cons_succ, List.set_cons_zero]
    rw [t, bindS_nx, seq_ap, sSet_ap, e2_ap, go_ex, fr, bindO_ok, go_ex, eC_ap, bindO_ok, fin2_ap, ix, finV_some, bindE_ok, keepV_f, bindS_nx]
    simp only [List.set_cons_succ, List.set_cons_zero]
    rw [F__law_layings_3, sFor_ap, src, bindIS_ok]
    simp only [killG_cons, killG_nil, List.set_cons_succ, List.set_cons_zero]
    rw [forL_nx o1, forL_nx o2, forL_nil, endO_nx]
    rfl
end
end Law

namespace Law
open PL
theorem cells_succ (i w : Nat) : cellsZ (i + 1) w = cellsZ i w ++ (List.range w).map fun (j : Nat) => ((i : Int), (j : Int)) := by
  unfold cellsZ
  rw [List.range_succ, List.flatMap_append]
  simp
theorem cells_len (h w : Nat) : (cellsZ h w).length = h * w := by
  induction h with
  | zero => simp [cellsZ]
  | succ h ih => rw [cells_succ, List.length_append, ih, List.length_map, List.length_range, Nat.succ_mul]
def laysO (l : List Lay) : Option Val := some ⟨.lst (l.map lD), 0⟩
section
variable {h w : Nat} {a2 : Option Val}
theorem f_cells (hh : 1 ≤ h ∧ h ≤ 12) (hw : 1 ≤ w ∧ w ≤ 12) : F__law_layings_1 [N h, N w, a2, clD [], none, none, none, none, none, none, none, none, none, none] = .nx [N h, N w, a2, clD (cellsZ h w), none, none, none, none, none, none, none, none, none, none] := by
  have hb := big_val
  have rw1 := fun g => rng1_nat (g := g) (n := w) (by omega)
  have rh := fun g => rng1_nat (g := g) (n := h) (by omega)
  have loop := forL_range (t := .n 4) (a := B__law_layings_1) (ks := [4]) (fun i => [N h, N w, a2, clD (cellsZ i w), none, none, none, none, none, none, none, none, none, none]) h fun i hi => by
    have comp : lcL (.n 12) none (eTup [eVar 4, eVar 12]) false [12] ((List.range w).map fun (j : Nat) => .int (j : Int)) [N h, N w, a2, clD (cellsZ i w), N i, none, none, none, none, none, none, none, none, none] = .ok ((List.range w).map fun (j : Nat) => cD ((i : Int), (j : Int))) [N h, N w, a2, clD (cellsZ i w), N i, none, none, none, none, none, none, none, none, none] := by
      refine lcL_mapE _ fun j _ => ?_
      unfold N
      simp [lc1, eVar_ap, cD]
    have e : (List.range w).map (fun (j : Nat) => cD ((i : Int), (j : Int))) = ((List.range w).map fun (j : Nat) => ((i : Int), (j : Int))).map cD := by
      rw [List.map_map]; rfl
    rw [e] at comp
    have cl := cells_len i w
    have iw : i * w ≤ 12 * 12 := Nat.mul_le_mul (by omega) hw.2
    have ct : dAdd (.lst ((cellsZ i w).map cD)) (.lst (((List.range w).map fun (j : Nat) => ((i : Int), (j : Int))).map cD)) = some ⟨.lst ((cellsZ (i + 1) w).map cD), 1⟩ := by
      rw [cat_lst (by simp only [List.length_map, List.length_range]; omega), cells_succ, List.map_append]
    unfold clD N at *
    generalize ((List.range w).map fun (j : Nat) => ((i : Int), (j : Int))).map cD = R1 at *
    generalize (cellsZ (i + 1) w).map cD = R2 at *
    generalize (cellsZ i w).map cD = R0 at *
    simp [fo1_ap, B__law_layings_1, C__law_layings_1, go_pk, slot1_ap, eVar_ap, rw1, comp, ct]
  have c0 : cellsZ 0 w = [] := rfl
  rw [c0] at loop
  unfold N at *
  simp only [F__law_layings_1, sFor_ap, iR1_ap, eVar_ap (g := [some ⟨.int (h : Int), 0⟩, some ⟨.int (w : Int), 0⟩, a2, clD [], none, none, none, none, none, none, none, none, none, none]) (i := 0) (d := .int (h : Int)) rfl, iOf_ok, rh, bindIS_ok, killG_cons, killG_nil, List.set_cons_succ, List.set_cons_zero, loop]
theorem f_turn (hh : 1 ≤ h ∧ h ≤ 4) (hw : 1 ≤ w ∧ w ≤ 5) (k : Nat) (hk : k < turns h w) : fo1 (.n 5) B__law_layings_5 [5, 6, 7, 8, 9, 10, 11] (.int (k : Int)) [N h, N w, laysO (layN h w k), clD (cellsZ h w), none, none, none, none, none, none, none, none, none, none] = .nx [N h, N w, laysO (layN h w (k + 1)), clD (cellsZ h w), none, none, none, none, none, none, none, none, none, none] := by
  obtain ⟨l1, l2⟩ := lay_at hh hw (Nat.le_of_lt hk)
  have tl := turns_le hh hw
  have cl := cells_len h w
  have iw : h * w ≤ 4 * 5 := Nat.mul_le_mul hh.2 hw.2
  have loop := forL_pre (t := .n 7) (a := B__law_layings_4) (ks := [7, 8, 9, 10, 11]) lD (fun p => [N h, N w, laysO (layN h w k), clD (cellsZ h w), none, N k, some ⟨.lst ((p.flatMap (ext (cellsZ h w))).map lD), 1⟩, none, none, none, none, none, none, none]) (l := layN h w k) fun p x q e => by
    have hx : x ∈ layN h w k := by rw [e]; simp
    obtain ⟨m1, m2⟩ := l2 x hx
    have pl : p.length ≤ 1000 := by
      have := congrArg List.length e
      simp at this
      omega
    have fl : ∀ p : List Lay, (p.flatMap (ext (cellsZ h w))).length ≤ 2 * p.length := fun p => by
      induction p with
      | nil => simp
      | cons a p ih =>
        rw [List.flatMap_cons, List.length_append, List.length_cons]
        have : (ext (cellsZ h w) a).length ≤ 2 := by
          unfold ext extB
          rw [List.length_map]
          exact List.length_filter_le _ _
        omega
    have f1 := fl p
    have r := e_row (h := h) (w := w) (a2 := laysO (layN h w k)) (a5 := N k) (row := x) (acc := p.flatMap (ext (cellsZ h w))) (cells := cellsZ h w) (by omega) (by omega) (by omega) (m2 hk)
    rw [r, List.flatMap_append]
    simp
  have e1 : (layN h w k).flatMap (ext (cellsZ h w)) = layN h w (k + 1) := rfl
  rw [e1] at loop
  have e0 : (([] : List Lay).flatMap (ext (cellsZ h w))).map lD = [] := rfl
  rw [e0] at loop
  unfold laysO N at *
  simp [fo1_ap, B__law_layings_5, F__law_layings_4, eVar_ap, eVar_o1, loop]
theorem okD_pr (n : Nat) (p : Pr) : okD (n + 2) (pD p) = true := by
  unfold pD
  rw [okD, okDs, okDs, okD_cell, okD_cell]
  rfl
theorem okD_lay (n : Nat) (l : Lay) : okD (n + 3) (lD l) = true := by
  unfold lD
  rw [okD]
  exact okDs_map _ pD l fun p _ => okD_pr n p
theorem alk_pr (a b : Pr) : alkD (pD a) (pD b) = true := rfl
theorem alk_lays : ∀ a b : Lay, alkDs (a.map pD) (b.map pD) = true
  | [], _ => by unfold alkDs; rfl
  | _ :: _, [] => by unfold alkDs; rfl
  | x :: a, y :: b => by
    rw [List.map_cons, List.map_cons, alkDs, alk_pr, alk_lays a b]
    rfl
theorem sortOk_lays (ls : List Lay) (h : ∀ l ∈ ls, l ≠ []) : sortOk (ls.map lD) = true := by
  refine sortOk_of (fun d hd => ?_) (fun a ha b hb => ?_) fun d hd => ?_
  · obtain ⟨c, _, rfl⟩ := List.mem_map.mp hd; exact okD_lay 57 _
  · obtain ⟨c, _, rfl⟩ := List.mem_map.mp ha
    obtain ⟨c', _, rfl⟩ := List.mem_map.mp hb
    unfold lD
    rw [alkD]
    exact alk_lays c c'
  · obtain ⟨c, hc, rfl⟩ := List.mem_map.mp hd
    cases c with
    | nil => exact absurd rfl (h _ hc)
    | cons p c => rfl
theorem sortOk_prs (l : Lay) : sortOk (l.map pD) = true := by
  refine sortOk_of (fun d hd => ?_) (fun a ha b hb => ?_) fun d hd => ?_
  · obtain ⟨c, _, rfl⟩ := List.mem_map.mp hd; exact okD_pr 58 _
  · obtain ⟨c, _, rfl⟩ := List.mem_map.mp ha
    obtain ⟨c', _, rfl⟩ := List.mem_map.mp hb
    exact alk_pr c c'
  · obtain ⟨c, hc, rfl⟩ := List.mem_map.mp hd
    rfl
theorem s_layings (hh : 1 ≤ h ∧ h ≤ 4) (hw : 1 ≤ w ∧ w ≤ 5) : sem__law_layings [.int (h : Int), .int (w : Int)] = .ok ⟨.lst (sortD ((layN h w (turns h w)).map lD)), 1⟩ := by
  have hb := big_val
  have tl := turns_le hh hw
  have fc := f_cells (h := h) (w := w) (a2 := laysO [[]]) (by omega) (by omega)
  have loop := forL_range (t := .n 5) (a := B__law_layings_5) (ks := [5, 6, 7, 8, 9, 10, 11]) (fun k => [N h, N w, laysO (layN h w k), clD (cellsZ h w), none, none, none, none, none, none, none, none, none, none]) (turns h w) fun k hk => f_turn hh hw k hk
  have e0 : laysO (layN h w 0) = laysO [[]] := rfl
  rw [e0] at loop
  have iw : h * w ≤ 4 * 5 := Nat.mul_le_mul hh.2 hw.2
  have m1 : dMul (.int (h : Int)) (.int (w : Int)) = vI ((h : Int) * (w : Int)) := dMul_sm (big400 (by omega)) (big400 (by omega))
  have d1 : dDiv (.int ((h : Int) * (w : Int) + 1)) (.int 2) = vI ((turns h w : Nat) : Int) := by
    rw [dDiv_ap (by decide) (by decide)]
    congr 1
  have r := fun g => rng1_nat (g := g) (n := turns h w) (by omega)
  have so : oSorted [.lst ((layN h w (turns h w)).map lD)] = some ⟨.lst (sortD ((layN h w (turns h w)).map lD)), 1⟩ := oSorted_lst (sortOk_lays _ fun l hl => by
    have := ((lay_at hh hw (Nat.le_refl _)).2 l hl).1
    intro e
    rw [e] at this
    simp at this
    omega)
  show fnS 14 2 body__law_layings [.int (h : Int), .int (w : Int)] = _
  rw [fnS2]
  have c0 : clD [] = some ⟨.lst [], 0⟩ := rfl
  have l0 : laysO [[]] = some ⟨.lst [.tup []], 0⟩ := rfl
  rw [c0, l0] at fc
  rw [l0] at loop
  unfold N at *
  unfold laysO at loop
  generalize ((turns h w : Nat) : Int) = T at *
  generalize (h : Int) * (w : Int) = hw' at *
  simp [body__law_layings, fc, F__law_layings_5, eVar_ap, go_pk, slot1_ap, m1, d1, r, loop, so]
end
end Law

namespace Law
open PL
/-! ### what a laying is: the program's word -/
def inB (h w : Nat) (c : Cell) : Bool := decide (0 ≤ c.1 ∧ c.1 < (h : Int)) && decide (0 ≤ c.2 ∧ c.2 < (w : Int))
theorem inB_mem (h w : Nat) (c : Cell) : c ∈ cellsZ h w ↔ inB h w c = true := by
  unfold cellsZ inB
  rw [Bool.and_eq_true, decide_eq_true_eq, decide_eq_true_eq]
  constructor
  · intro hc
    obtain ⟨i, hi, hc⟩ := List.mem_flatMap.mp hc
    obtain ⟨j, hj, rfl⟩ := List.mem_map.mp hc
    have := List.mem_range.mp hi
    have := List.mem_range.mp hj
    exact ⟨by simp; omega, by simp; omega⟩
  · rintro ⟨⟨a, b⟩, c1, d⟩
    refine List.mem_flatMap.mpr ⟨c.1.toNat, List.mem_range.mpr (by omega), List.mem_map.mpr ⟨c.2.toNat, List.mem_range.mpr (by omega), ?_⟩⟩
    obtain ⟨x, y⟩ := c
    simp at *
    omega
theorem wh_int (i : Int) : sem_is_whole [.int i] = .ok ⟨.bl true, 0⟩ := rfl
section
variable {h w : Nat}
theorem s_iscell (c : Cell) : sem_is_cell [.int (h : Int), .int (w : Int), cD c] = .ok ⟨.bl (inB h w c), 0⟩ := by
  show fnS 3 3 body_is_cell [.int (h : Int), .int (w : Int), cD c] = _
  rw [fnS3]
  have x1 : dIx (cD c) (.int 0) = some ⟨.int c.1, 0⟩ := rfl
  have x2 : dIx (cD c) (.int 1) = some ⟨.int c.2, 0⟩ := rfl
  have ln : oLen [cD c] = vI 2 := rfl
  have it : dIsi "tuple" (cD c) = vB true := rfl
  have w1 := wh_int c.1
  have w2 := wh_int c.2
  unfold inB
  obtain ⟨a, b⟩ := c
  simp only at *
  by_cases h1 : 0 ≤ a
  · by_cases h2 : a < (h : Int)
    · by_cases h3 : 0 ≤ b
      · by_cases h4 : b < (w : Int) <;> simp [body_is_cell, go_pk, slot1_ap, eVar_ap, x1, x2, ln, it, w1, w2, h1, h2, h3, h4]
      · simp [body_is_cell, go_pk, slot1_ap, eVar_ap, x1, x2, ln, it, w1, w2, h1, h2, h3]
    · simp [body_is_cell, go_pk, slot1_ap, eVar_ap, x1, x2, ln, it, w1, w2, h1, h2]
  · simp [body_is_cell, go_pk, slot1_ap, eVar_ap, x1, x2, ln, it, w1, w2, h1]
def nearZ (h w : Nat) (c : Cell) : List Cell := [(c.1 - 1, c.2), (c.1, c.2 - 1), (c.1, c.2 + 1), (c.1 + 1, c.2)].filter (inB h w)
theorem s_beside (hh : 1 ≤ h ∧ h ≤ 12) (hw : 1 ≤ w ∧ w ≤ 12) (c : Cell) (hc : inB h w c = true) : sem_beside [.int (h : Int), .int (w : Int), cD c] = .ok ⟨.tup ((nearZ h w c).map cD), 0⟩ := by
  have lk : sem_look_at_cell [.int (h : Int), .int (w : Int), cD c] = .ok ⟨.non, 0⟩ := by
    show fnS 3 3 body_look_at_cell [.int (h : Int), .int (w : Int), cD c] = _
    rw [fnS3]
    have a := sides_ok hh hw
    have b := s_iscell (h := h) (w := w) c
    rw [hc] at b
    generalize cD c = x at *
    simp [body_look_at_cell, eVar_ap, a, b]
  show fnS 7 3 body_beside [.int (h : Int), .int (w : Int), cD c] = _
  rw [fnS3]
  have comp : lcL (.n 6) (some (eCall sem_is_cell [eVar 0, eVar 1, eVar 6])) (eVar 6) false [6] ([(c.1 - 1, c.2), (c.1, c.2 - 1), (c.1, c.2 + 1), (c.1 + 1, c.2)].map cD) [N h, N w, some ⟨cD c, 0⟩, some ⟨.int c.1, 0⟩, some ⟨.int c.2, 0⟩, some ⟨.lst ([(c.1 - 1, c.2), (c.1, c.2 - 1), (c.1, c.2 + 1), (c.1 + 1, c.2)].map cD), 0⟩, none] = .ok ((nearZ h w c).map cD) [N h, N w, some ⟨cD c, 0⟩, some ⟨.int c.1, 0⟩, some ⟨.int c.2, 0⟩, some ⟨.lst ([(c.1 - 1, c.2), (c.1, c.2 - 1), (c.1, c.2 + 1), (c.1 + 1, c.2)].map cD), 0⟩, none] := by
    refine lcL_fil cD fun d _ => ?_
    have b := s_iscell (h := h) (w := w) d
    unfold N
    generalize cD d = x at *
    generalize inB h w d = q at *
    cases q <;> simp [lc1, eVar_ap, b]
  have asg : (Tg.t [.n 3, .n 4]).asg (cD c) [some ⟨.int (h : Int), 0⟩, some ⟨.int (w : Int), 0⟩, some ⟨cD c, 0⟩, none, none, none, none] = some [some ⟨.int (h : Int), 0⟩, some ⟨.int (w : Int), 0⟩, some ⟨cD c, 0⟩, some ⟨.int c.1, 0⟩, some ⟨.int c.2, 0⟩, none, none] := rfl
  have L : ([(c.1 - 1, c.2), (c.1, c.2 - 1), (c.1, c.2 + 1), (c.1 + 1, c.2)] : List Cell).map cD = [.tup [.int (c.1 - 1), .int c.2], .tup [.int c.1, .int (c.2 - 1)], .tup [.int c.1, .int (c.2 + 1)], .tup [.int (c.1 + 1), .int c.2]] := rfl
  rw [L] at comp
  unfold N at comp
  generalize cD c = x at *
  generalize (nearZ h w c).map cD = R at *
  simp [body_beside, C_beside_1, go_pk, slot1_ap, eVar_ap, lk, asg, comp]
/-! pairs -/
theorem s_ispair (p : Pr) : sem_is_pair [pD p] = .ok ⟨.bl true, 0⟩ := rfl
def badEl (d : D) : Prop := sem_is_pair [d] = .ok ⟨.bl false, 0⟩ ∧ ∀ (g0 g1 g2 g3 g6 g7 g8 : Option Val), ∃ g', fo1 (.n 4) B__law_right_2 [4, 5] d [g0, g1, g2, g3, none, none, g6, g7, g8, none] = .ret ⟨.bl false, 0⟩ g'
theorem bad1 : badEl (.tup [.int 0, .int 0]) := ⟨rfl, fun _ _ _ _ _ _ _ => ⟨_, rfl⟩⟩
theorem bad2 : badEl .non := ⟨rfl, fun _ _ _ _ _ _ _ => ⟨_, rfl⟩⟩
theorem bad3 : badEl (.tup [.tup [.int 0, .int 0], .non]) := ⟨rfl, fun _ _ _ _ _ _ _ => ⟨_, rfl⟩⟩
theorem bad4 : badEl (.tup [.tup [.bl true, .int 0], .tup [.int 0, .int 1]]) := ⟨rfl, fun _ _ _ _ _ _ _ => ⟨_, rfl⟩⟩
theorem bad5 (c : Cell) : badEl (.tup [cD c]) := ⟨rfl, fun _ _ _ _ _ _ _ => ⟨_, rfl⟩⟩
end
end Law

namespace Law
open PL
abbrev El := Pr ⊕ { d : D // badEl d }
def elD : El → D
  | .inl p => pD p
  | .inr d => d.1
def isPr : El → Bool
  | .inl _ => true
  | .inr _ => false
def prs : List El → Lay
  | [] => []
  | .inl p :: l => p :: prs l
  | .inr _ :: l => prs l
theorem prs_all : ∀ {l : List El}, l.all isPr = true → l.map elD = (prs l).map pD ∧ (prs l).length = l.length
  | [], _ => ⟨rfl, rfl⟩
  | .inl p :: l, h => by
    obtain ⟨a, b⟩ := prs_all (l := l) (by simpa [isPr] using h)
    exact ⟨by rw [List.map_cons, a]; rfl, by show (prs l).length + 1 = _; rw [b]; rfl⟩
  | .inr _ :: l, h => by simp [isPr] at h
theorem prs_app : ∀ (l : List El) (p : Pr), prs (l ++ [.inl p]) = prs l ++ [p]
  | [], _ => rfl
  | .inl q :: l, p => by show q :: prs (l ++ [.inl p]) = _; rw [prs_app l p]; rfl
  | .inr _ :: l, p => by show prs (l ++ [.inl p]) = _; rw [prs_app l p]; rfl
theorem prs_len : ∀ l : List El, (prs l).length ≤ l.length
  | [] => Nat.le_refl _
  | .inl _ :: l => Nat.succ_le_succ (prs_len l)
  | .inr _ :: l => Nat.le_succ_of_le (prs_len l)
def rightP (p : Pr) : Bool := [(p.1.1, p.1.2 + 1), (p.1.1 + 1, p.1.2)].contains p.2
def goodE : El → Bool
  | .inl p => rightP p
  | .inr _ => false
section
variable {h w : Nat} {g0 g1 g2 g3 g6 g7 g8 : Option Val} {es : List El}
theorem r_cell (c : Cell) (x : Option Val) : fo1 (.n 5) B__law_right_1 [5] (cD c) [g0, g1, g2, g3, x, none, g6, g7, g8, none] = .nx [g0, g1, g2, g3, x, none, g6, g7, g8, none] := rfl
theorem r_pair (p : Pr) (cs : List Cell) (hc : cs.length ≤ 1000) : fo1 (.n 4) B__law_right_2 [4, 5] (pD p) [g0, g1, g2, clD cs, none, none, g6, g7, g8, none] = if rightP p = true then .nx [g0, g1, g2, clD (cs ++ [p.1, p.2]), none, none, g6, g7, g8, none] else .ret ⟨.bl false, 0⟩ [g0, g1, g2, clD cs, some ⟨pD p, 0⟩, none, g6, g7, g8, none] := by
  have hb := big_val
  have it : dIsi "tuple" (pD p) = vB true := rfl
  have ln : oLen [pD p] = vI 2 := rfl
  have x1 : dIx (pD p) (.int 1) = some ⟨cD p.2, 0⟩ := rfl
  have x0 : dIx (pD p) (.int 0) = some ⟨cD p.1, 0⟩ := rfl
  have y0 : dIx (cD p.1) (.int 0) = some ⟨.int p.1.1, 0⟩ := rfl
  have y1 : dIx (cD p.1) (.int 1) = some ⟨.int p.1.2, 0⟩ := rfl
  have o : oList [pD p] = some ⟨.lst ([p.1, p.2].map cD), 1⟩ := rfl
  have ct : dAdd (.lst (cs.map cD)) (.lst ([p.1, p.2].map cD)) = some ⟨.lst ((cs ++ [p.1, p.2]).map cD), 1⟩ := by
    rw [cat_lst (by rw [List.length_map, List.length_map]; simp; omega), List.map_append]
  have ni : dNin (cD p.2) (.tup [.tup [.int p.1.1, .int (p.1.2 + 1)], .tup [.int (p.1.1 + 1), .int p.1.2]]) = vB (!rightP p) := dNin_cellsT p.2 [(p.1.1, p.1.2 + 1), (p.1.1 + 1, p.1.2)]
  have loop : forL (.n 5) B__law_right_1 [5] ([p.1, p.2].map cD) [g0, g1, g2, clD cs, some ⟨pD p, 0⟩, none, g6, g7, g8, none] = .nx [g0, g1, g2, clD cs, some ⟨pD p, 0⟩, none, g6, g7, g8, none] := forL_same cD fun c _ => r_cell c _
  have src : ∀ g, itI (pD p) g = .ok ([p.1, p.2].map cD) g := fun _ => rfl
  unfold clD at *
  generalize ([p.1, p.2] : List Cell).map cD = R at *
  generalize (cs ++ [p.1, p.2]).map cD = R2 at *
  generalize cs.map cD = R0 at *
  generalize rightP p = q at *
  cases q
  · simp [fo1_ap, B__law_right_2, F__law_right_1, go_pk, slot1_ap, eVar_ap, it, ln, x1, x0, y0, y1, ni, src, loop]
  · simp [fo1_ap, B__law_right_2, F__law_right_1, go_pk, slot1_ap, eVar_ap, it, ln, x1, x0, y0, y1, ni, src, loop, o, ct]
theorem r_loop (hl : es.length ≤ 100) : (es.all goodE = true ∧ forL (.n 4) B__law_right_2 [4, 5] (es.map elD) [g0, g1, g2, clD [], none, none, g6, g7, g8, none] = .nx [g0, g1, g2, clD (flat (prs es)), none, none, g6, g7, g8, none]) ∨ (es.all goodE = false ∧ ∃ g', forL (.n 4) B__law_right_2 [4, 5] (es.map elD) [g0, g1, g2, clD [], none, none, g6, g7, g8, none] = .ret ⟨.bl false, 0⟩ g') := by
  refine forL_untilP (t := .n 4) (a := B__law_right_2) (ks := [4, 5]) elD (fun p => [g0, g1, g2, clD (flat (prs p)), none, none, g6, g7, g8, none]) goodE ⟨.bl false, 0⟩ fun p x q e _ => ?_
  have pl : p.length ≤ 100 := by
    have := congrArg List.length e
    simp at this
    omega
  cases x with
  | inl x =>
    have r := r_pair (g0 := g0) (g1 := g1) (g2 := g2) (g6 := g6) (g7 := g7) (g8 := g8) x (flat (prs p)) (by rw [flat_len]; have := prs_len p; omega)
    by_cases q : rightP x = true
    · left
      rw [if_pos q] at r
      refine ⟨q, ?_⟩
      rw [prs_app, flat_app]
      exact r
    · right
      rw [if_neg q] at r
      exact ⟨by simpa [goodE] using q, _, r⟩
  | inr d => exact .inr ⟨rfl, d.2.2 _ _ _ _ _ _ _⟩
theorem r_cells (hh : 1 ≤ h ∧ h ≤ 12) (hw : 1 ≤ w ∧ w ≤ 12) : F__law_right_3 [N h, N w, g2, g3, none, none, clD [], none, none, none] = .nx [N h, N w, g2, g3, none, none, clD (cellsZ h w), none, none, none] := by
  have hb := big_val
  have rw1 := fun g => rng1_nat (g := g) (n := w) (by omega)
  have rh := fun g => rng1_nat (g := g) (n := h) (by omega)
  have loop := forL_range (t := .n 7) (a := B__law_right_3) (ks := [7]) (fun i => [N h, N w, g2, g3, none, none, clD (cellsZ i w), none, none, none]) h fun i hi => by
    have comp : lcL (.n 8) none (eTup [eVar 7, eVar 8]) false [8] ((List.range w).map fun (j : Nat) => .int (j : Int)) [N h, N w, g2, g3, none, none, clD (cellsZ i w), N i, none, none] = .ok ((List.range w).map fun (j : Nat) => cD ((i : Int), (j : Int))) [N h, N w, g2, g3, none, none, clD (cellsZ i w), N i, none, none] := by
      refine lcL_mapE _ fun j _ => ?_
      unfold N
      simp [lc1, eVar_ap, cD]
    have e : (List.range w).map (fun (j : Nat) => cD ((i : Int), (j : Int))) = ((List.range w).map fun (j : Nat) => ((i : Int), (j : Int))).map cD := by
      rw [List.map_map]; rfl
    rw [e] at comp
    have cl := cells_len i w
    have iw : i * w ≤ 12 * 12 := Nat.mul_le_mul (by omega) hw.2
    have ct : dAdd (.lst ((cellsZ i w).map cD)) (.lst (((List.range w).map fun (j : Nat) => ((i : Int), (j : Int))).map cD)) = some ⟨.lst ((cellsZ (i + 1) w).map cD), 1⟩ := by
      rw [cat_lst (by simp only [List.length_map, List.length_range]; omega), cells_succ, List.map_append]
    unfold clD N at *
    generalize ((List.range w).map fun (j : Nat) => ((i : Int), (j : Int))).map cD = R1 at *
    generalize (cellsZ (i + 1) w).map cD = R2 at *
    generalize (cellsZ i w).map cD = R0 at *
    simp [fo1_ap, B__law_right_3, C__law_right_2, go_pk, slot1_ap, eVar_ap, rw1, comp, ct]
  have c0 : cellsZ 0 w = [] := rfl
  rw [c0] at loop
  unfold N at *
  simp only [F__law_right_3, sFor_ap, iR1_ap, eVar_ap (g := [some ⟨.int (h : Int), 0⟩, some ⟨.int (w : Int), 0⟩, g2, g3, none, none, clD [], none, none, none]) (i := 0) (d := .int (h : Int)) rfl, iOf_ok, rh, bindIS_ok, killG_cons, killG_nil, List.set_cons_succ, List.set_cons_zero, loop]
def fullB (h w : Nat) (l : Lay) : Bool := eqDs (sortD ((flat l).map cD)) ((cellsZ h w).map cD)
def inOrd (l : Lay) : Bool := eqDs (l.map pD) (sortD (l.map pD))
def layP (h w : Nat) (es : List El) : Bool := es.all goodE && (fullB h w (prs es) && inOrd (prs es))
theorem good_pr {x : El} (h : goodE x = true) : isPr x = true := by
  cases x with
  | inl _ => rfl
  | inr _ => cases h
theorem s_right (hh : 1 ≤ h ∧ h ≤ 12) (hw : 1 ≤ w ∧ w ≤ 12) (hl : es.length ≤ 100) : sem__law_right [.int (h : Int), .int (w : Int), .tup (es.map elD)] = .ok ⟨.bl (layP h w es), 0⟩ := by
  show fnS 10 3 body__law_right [.int (h : Int), .int (w : Int), .tup (es.map elD)] = _
  rw [fnS3]
  have c0 : clD [] = some ⟨.lst [], 0⟩ := rfl
  unfold layP
  rcases r_loop (g0 := N h) (g1 := N w) (g2 := some ⟨.tup (es.map elD), 0⟩) (g6 := none) (g7 := none) (g8 := none) hl with ⟨a, e⟩ | ⟨a, g', e⟩
  · rw [a]
    obtain ⟨p1, p2⟩ := prs_all (l := es) (List.all_eq_true.mpr fun x hx => good_pr (List.all_eq_true.mp a x hx))
    have fc := r_cells (h := h) (w := w) (g2 := some ⟨.tup (es.map elD), 0⟩) (g3 := clD (flat (prs es))) hh hw
    rw [c0] at e fc
    have s1 : oSorted [.lst ((flat (prs es)).map cD)] = some ⟨.lst (sortD ((flat (prs es)).map cD)), 1⟩ := oSorted_lst (sortOk_cells _)
    have s2 : oSorted [.tup ((prs es).map pD)] = some ⟨.lst (sortD ((prs es).map pD)), 1⟩ := oSorted_tup (sortOk_prs _)
    have okc : ∀ l : List Cell, ∀ d ∈ l.map cD, okD 63 d = true := fun l d hd => by
      obtain ⟨c, _, rfl⟩ := List.mem_map.mp hd; exact okD_cell _ _
    have okp : ∀ l : Lay, ∀ d ∈ l.map pD, okD 63 d = true := fun l d hd => by
      obtain ⟨c, _, rfl⟩ := List.mem_map.mp hd; exact okD_pr 61 _
    have q1 := dEq_lst (okDs_sort (okc (flat (prs es)))) (okDs_of (okc (cellsZ h w)))
    have q2 := dEq_lst (okDs_of (okp (prs es))) (okDs_sort (okp (prs es)))
    have i1 : fullB h w (prs es) = eqDs (sortD ((flat (prs es)).map cD)) ((cellsZ h w).map cD) := rfl
    have i2 : inOrd (prs es) = eqDs ((prs es).map pD) (sortD ((prs es).map pD)) := rfl
    rw [← i1] at q1
    rw [← i2] at q2
    unfold N clD at *
    rw [p1] at e fc ⊢
    generalize fullB h w (prs es) = z1 at *
    generalize inOrd (prs es) = z2 at *
    generalize (cellsZ h w).map cD = Cs at *
    generalize sortD ((flat (prs es)).map cD) = F1 at *
    generalize sortD ((prs es).map pD) = F3 at *
    generalize (flat (prs es)).map cD = F0 at *
    generalize (prs es).map pD = F2 at *
    cases z1 <;> simp [body__law_right, S__law_right_1, S__law_right_2, S__law_right_3, S__law_right_4, F__law_right_2, go_pk, slot1_ap, eVar_ap, e, fc, s1, s2, q1, q2]
  · rw [a]
    rw [c0] at e
    unfold N at e
    simp [body__law_right, S__law_right_1, S__law_right_2, F__law_right_2, go_pk, slot1_ap, eVar_ap, e]
end
end Law

namespace Law
open PL
section
variable {h w : Nat} {es : List El} {l : Lay}
theorem el_pair (x : El) : sem_is_pair [elD x] = .ok ⟨.bl (isPr x), 0⟩ := by
  cases x with
  | inl p => exact s_ispair p
  | inr d => exact d.2.1
theorem c_pairs (a3 : Option Val) : C_is_laying_1 [N h, N w, some ⟨.tup (es.map elD), 0⟩, a3, none, none, none, none, none] = .ok ⟨.lst (es.map fun x => .bl (isPr x)), 1⟩ [N h, N w, some ⟨.tup (es.map elD), 0⟩, a3, none, none, none, none, none] := by
  have comp : lcL (.n 5) none (eCall sem_is_pair [eVar 5]) false [5] (es.map elD) [N h, N w, some ⟨.tup (es.map elD), 0⟩, a3, none, none, none, none, none] = .ok (es.map fun x => .bl (isPr x)) [N h, N w, some ⟨.tup (es.map elD), 0⟩, a3, none, none, none, none, none] := by
    refine lcL_mapE elD fun x _ => ?_
    have e := el_pair x
    generalize elD x = d at *
    simp [lc1, eVar_ap, e]
  unfold C_is_laying_1
  generalize es.map elD = E at *
  simp only [eLc_ap, iV_ap, eVar_ap (g := [N h, N w, some ⟨.tup E, 0⟩, a3, none, none, none, none, none]) (i := 2) (d := .tup E) rfl, iOf_ok, itI_tup, bindI_ok, killG_cons, killG_nil, List.set_cons_succ, List.set_cons_zero, comp, okI_ok, restG_nil, lv_f]
theorem c_every (a3 : Option Val) (hl : l.length ≤ 100) : C_is_laying_2 [N h, N w, some ⟨.tup (l.map pD), 0⟩, a3, none, none, none, none, none] = .ok ⟨.lst ((flat l).map cD), 1⟩ [N h, N w, some ⟨.tup (l.map pD), 0⟩, a3, none, none, none, none, none] := by
  have hb := big_val
  have out : lcO (big / (l.map pD).length) (.n 5) none (iV (eVar 5)) (.n 6) none (eVar 6) false [5, 6] [6] (l.map pD) [N h, N w, some ⟨.tup (l.map pD), 0⟩, a3, none, none, none, none, none] = .ok (l.flatMap fun p => [p.1, p.2].map cD) [N h, N w, some ⟨.tup (l.map pD), 0⟩, a3, none, none, none, none, none] := by
    refine lcO_mapE pD fun p hp => ?_
    have hM : 2 ≤ big / (l.map pD).length := (Nat.le_div_iff_mul_le (by rw [List.length_map]; exact List.length_pos_of_mem hp)).mpr (by rw [List.length_map]; omega)
    have inn : lcL (.n 6) none (eVar 6) false [6] ([p.1, p.2].map cD) [N h, N w, some ⟨.tup (l.map pD), 0⟩, a3, none, some ⟨pD p, 0⟩, none, none, none] = .ok ([p.1, p.2].map cD) [N h, N w, some ⟨.tup (l.map pD), 0⟩, a3, none, some ⟨pD p, 0⟩, none, none, none] := by
      refine lcL_mapE cD fun c _ => ?_
      simp [lc1, eVar_ap]
    have src : ∀ g, itI (pD p) g = .ok ([p.1, p.2].map cD) g := fun _ => rfl
    rw [lo1_ap, asg_n, Option.bind_some, testO_none, Option.bind_some, if_pos rfl]
    simp only [List.set_cons_succ, List.set_cons_zero]
    rw [iV_ap, eVar_ap (d := pD p) rfl, iOf_ok, src, lo2_ok (by simpa using hM)]
    simp only [killG_cons, killG_nil, List.set_cons_succ, List.set_cons_zero]
    rw [inn, lo3_ok]
    simp only [killG_cons, killG_nil, List.set_cons_succ, List.set_cons_zero]
  have e : (l.flatMap fun p => [p.1, p.2].map cD) = (flat l).map cD := by
    unfold flat
    rw [List.map_flatMap]
  rw [e] at out
  unfold C_is_laying_2
  generalize l.map pD = E at *
  simp only [eLc2_ap, iV_ap, eVar_ap (g := [N h, N w, some ⟨.tup E, 0⟩, a3, none, none, none, none, none]) (i := 2) (d := .tup E) rfl, iOf_ok, itI_tup, bindI_ok, killG_cons, killG_nil, List.set_cons_succ, List.set_cons_zero]
  rw [show iV (eVar 5) = iV (eVar 5) from rfl, out, okI_ok]
  rfl
def stepP (h w : Nat) (p : Pr) : Bool := ltC p.1 p.2 && (nearZ h w p.1).contains p.2
theorem c_steps (hh : 1 ≤ h ∧ h ≤ 12) (hw : 1 ≤ w ∧ w ≤ 12) (a3 a4 : Option Val) (hin : ∀ p ∈ l, inB h w p.1 = true) : C_is_laying_3 [N h, N w, some ⟨.tup (l.map pD), 0⟩, a3, a4, none, none, none, none] = .ok ⟨.lst (l.map fun p => .bl (stepP h w p)), 1⟩ [N h, N w, some ⟨.tup (l.map pD), 0⟩, a3, a4, none, none, none, none] := by
  have comp : lcL (.t [.n 7, .n 8]) none E_is_laying_1 false [7, 8] (l.map pD) [N h, N w, some ⟨.tup (l.map pD), 0⟩, a3, a4, none, none, none, none] = .ok (l.map fun p => .bl (stepP h w p)) [N h, N w, some ⟨.tup (l.map pD), 0⟩, a3, a4, none, none, none, none] := by
    refine lcL_mapE pD fun p hp => ?_
    have asg : (Tg.t [.n 7, .n 8]).asg (pD p) [N h, N w, some ⟨.tup (l.map pD), 0⟩, a3, a4, none, none, none, none] = some [N h, N w, some ⟨.tup (l.map pD), 0⟩, a3, a4, none, none, some ⟨cD p.1, 0⟩, some ⟨cD p.2, 0⟩] := rfl
    have lt := dLt_cell p.1 p.2
    have be := s_beside hh hw p.1 (hin p hp)
    have i := dIn_cellsT p.2 (nearZ h w p.1)
    unfold stepP N at *
    generalize (nearZ h w p.1).map cD = R at *
    generalize (nearZ h w p.1).contains p.2 = q at *
    generalize ltC p.1 p.2 = q2 at *
    generalize cD p.1 = c1 at *
    generalize cD p.2 = c2 at *
    generalize pD p = p' at *
    cases q2 <;> simp [lc1, asg, E_is_laying_1, go_pk, slot1_ap, eVar_ap, lt, be, i]
  unfold C_is_laying_3
  generalize l.map pD = E at *
  simp only [eLc_ap, iV_ap, eVar_ap (g := [N h, N w, some ⟨.tup E, 0⟩, a3, a4, none, none, none, none]) (i := 2) (d := .tup E) rfl, iOf_ok, itI_tup, bindI_ok, killG_cons, killG_nil, List.set_cons_succ, List.set_cons_zero, comp, okI_ok, restG_nil, lv_f]
theorem full_in (hf : fullB h w l = true) : ∀ p ∈ l, inB h w p.1 = true ∧ inB h w p.2 = true := by
  intro p hp
  have key : ∀ c ∈ flat l, inB h w c = true := fun c hc => by
    obtain ⟨y, hy, e⟩ := eqDs_mem hf (cD c) (sort_mem.mpr (List.mem_map.mpr ⟨c, hc, rfl⟩))
    obtain ⟨c', hc', rfl⟩ := List.mem_map.mp hy
    rw [eqD_cell] at e
    rw [eq_of_beq e]
    exact (inB_mem h w c').mp hc'
  exact ⟨key _ (List.mem_flatMap.mpr ⟨p, hp, by simp⟩), key _ (List.mem_flatMap.mpr ⟨p, hp, by simp⟩)⟩
theorem step_right (p : Pr) (h2 : inB h w p.2 = true) : stepP h w p = rightP p := by
  unfold stepP rightP nearZ ltC
  rw [Bool.eq_iff_iff, Bool.and_eq_true, List.contains_iff_mem, List.contains_iff_mem, List.mem_filter]
  obtain ⟨⟨a, b⟩, c, d⟩ := p
  simp only [List.mem_cons, List.not_mem_nil, or_false, Prod.mk.injEq] at *
  constructor
  · rintro ⟨q1, q2, _⟩
    split at q1 <;> simp at q1 <;> omega
  · intro q
    refine ⟨?_, by omega, h2⟩
    split <;> simp <;> omega
theorem s_laying (hh : 1 ≤ h ∧ h ≤ 12) (hw : 1 ≤ w ∧ w ≤ 12) (hl : es.length ≤ 100) : sem_is_laying [.int (h : Int), .int (w : Int), .tup (es.map elD)] = .ok ⟨.bl (layP h w es), 0⟩ := by
  have cl := s_cells hh hw
  have cp := c_pairs (h := h) (w := w) (es := es) (some ⟨.tup ((cellsZ h w).map cD), 0⟩)
  have al := all_bl es isPr
  show fnS 9 3 body_is_laying [.int (h : Int), .int (w : Int), .tup (es.map elD)] = _
  rw [fnS3]
  unfold layP
  by_cases ap : es.all isPr = true
  · obtain ⟨p1, p2⟩ := prs_all ap
    rw [ap] at al
    have okc : ∀ l : List Cell, ∀ d ∈ l.map cD, okD 63 d = true := fun l d hd => by
      obtain ⟨c, _, rfl⟩ := List.mem_map.mp hd; exact okD_cell _ _
    have okp : ∀ l : Lay, ∀ d ∈ l.map pD, okD 63 d = true := fun l d hd => by
      obtain ⟨c, _, rfl⟩ := List.mem_map.mp hd; exact okD_pr 61 _
    have ge : es.all goodE = (prs es).all rightP := by
      clear hl cp al p1 p2
      induction es with
      | nil => rfl
      | cons x es ih =>
        cases x with
        | inl p =>
          rw [List.all_cons, ih (by simpa [isPr] using ap)]
          rfl
        | inr d => simp [isPr] at ap
    rw [ge]
    rw [p1] at cp ⊢
    have pl : (prs es).length ≤ 100 := by omega
    generalize prs es = l at *
    have s1 : oSorted [.lst ((flat l).map cD)] = some ⟨.lst (sortD ((flat l).map cD)), 1⟩ := oSorted_lst (sortOk_cells _)
    have s2 : oSorted [.tup (l.map pD)] = some ⟨.lst (sortD (l.map pD)), 1⟩ := oSorted_tup (sortOk_prs _)
    have q1 := dNe_lst (okDs_sort (okc (flat l))) (okDs_of (okc (cellsZ h w)))
    have q2 := dNe_lst (okDs_of (okp l)) (okDs_sort (okp l))
    have i1 : fullB h w l = eqDs (sortD ((flat l).map cD)) ((cellsZ h w).map cD) := rfl
    have i2 : inOrd l = eqDs (l.map pD) (sortD (l.map pD)) := rfl
    rw [← i1] at q1
    rw [← i2] at q2
    have ce := c_every (h := h) (w := w) (l := l) (some ⟨.tup ((cellsZ h w).map cD), 0⟩) pl
    have ot : oList [.tup ((cellsZ h w).map cD)] = some ⟨.lst ((cellsZ h w).map cD), 1⟩ := rfl
    have ol : oList [.tup (l.map pD)] = some ⟨.lst (l.map pD), 1⟩ := rfl
    by_cases f : fullB h w l = true
    · have fi := full_in f
      have cs := c_steps hh hw (some ⟨.tup ((cellsZ h w).map cD), 0⟩) (some ⟨.lst ((flat l).map cD), 0⟩) (l := l) fun p hp => (fi p hp).1
      have a2 := all_bl l (stepP h w)
      have e2 : l.all (stepP h w) = l.all rightP := by
        rw [Bool.eq_iff_iff, List.all_eq_true, List.all_eq_true]
        exact ⟨fun z p hp => by rw [← step_right p (fi p hp).2]; exact z p hp, fun z p hp => by rw [step_right p (fi p hp).2]; exact z p hp⟩
      rw [e2] at a2
      rw [f] at q1 ⊢
      unfold N at *
      generalize inOrd l = z2 at *
      generalize l.all rightP = z3 at *
      generalize (cellsZ h w).map cD = Cs at *
      generalize sortD ((flat l).map cD) = F1 at *
      generalize sortD (l.map pD) = F3 at *
      generalize (flat l).map cD = F0 at *
      generalize l.map pD = F2 at *
      cases z2 <;> simp [body_is_laying, S_is_laying_1, S_is_laying_2, S_is_laying_3, S_is_laying_4, S_is_laying_5, go_pk, slot1_ap, eVar_ap, cl, cp, al, s1, s2, q1, q2, ce, cs, a2]
    · rw [Bool.not_eq_true] at f
      rw [f] at q1 ⊢
      unfold N at *
      generalize inOrd l = z2 at *
      generalize (cellsZ h w).map cD = Cs at *
      generalize sortD ((flat l).map cD) = F1 at *
      generalize sortD (l.map pD) = F3 at *
      generalize (flat l).map cD = F0 at *
      generalize l.map pD = F2 at *
      cases z2 <;> simp [body_is_laying, S_is_laying_1, S_is_laying_2, S_is_laying_3, S_is_laying_4, S_is_laying_5, go_pk, slot1_ap, eVar_ap, cl, cp, al, s1, s2, q1, q2, ce]
  · rw [Bool.not_eq_true] at ap
    rw [ap] at al
    have ng : es.all goodE = false := by
      rw [← Bool.not_eq_true] at ap ⊢
      exact fun z => ap (List.all_eq_true.mpr fun x hx => good_pr (List.all_eq_true.mp z x hx))
    rw [ng]
    unfold N at *
    simp [body_is_laying, S_is_laying_1, S_is_laying_2, go_pk, slot1_ap, eVar_ap, cl, cp, al]
end
end Law

namespace Law
open PL
theorem draw_eq : sem__law_draw = fnIO 4 1 bDraw := rfl
theorem same_eq : ∀ k, sem__law_same k = sSame k
  | 0 => rfl
  | k + 1 => by
    show fnS 3 2 (body__law_same (sem__law_same k)) = fnS 3 2 (bSame (sSame k))
    rw [same_eq k]
    rfl
theorem same8 (d : D) (h : smD 8 d = true) : sem__law_same 8 [d, d] = .ok ⟨.bl true, 0⟩ := by
  rw [same_eq]
  exact same_refl 8 d h
theorem dl {v : Val} (hv : Dw v) {lim : Int} (h0 : 0 < lim) (h1 : lim < 1000000) : ∃ (r : Nat) (v' : Val), sem__law_draw v [.int lim] = .ok ⟨.int (r : Int), 0⟩ v' ∧ Dw v' ∧ (r : Int) < lim := dr hv h0 h1
theorem asked0 (a b c : D) (hF : sem_count_layings [a, b] ≠ .bad) : sem__law_asked [.int 0, a, b, c] = ansO (sem_count_layings [a, b]) := by
  show fnS 5 4 body__law_asked [.int 0, a, b, c] = _
  rw [fnS4]
  exact try_ans (g0 := [some ⟨.int 0, 0⟩, some ⟨a, 0⟩, some ⟨b, 0⟩, some ⟨c, 0⟩, none]) (fun _ => rfl) (by simp [go_pk, slot1_ap, eVar_ap]) hF
theorem asked1 (a b c : D) (hF : sem_is_laying [a, b, c] ≠ .bad) : sem__law_asked [.int 1, a, b, c] = ansO (sem_is_laying [a, b, c]) := by
  show fnS 5 4 body__law_asked [.int 1, a, b, c] = _
  rw [fnS4]
  exact try_ans (g0 := [some ⟨.int 1, 0⟩, some ⟨a, 0⟩, some ⟨b, 0⟩, some ⟨c, 0⟩, none]) (fun _ => rfl) (by simp [go_pk, slot1_ap, eVar_ap]) hF
theorem ask_ok {o : FOut} {d : D} {k : Int} {a b c : D} (h : o ≠ .bad → sem__law_asked [.int k, a, b, c] = ansO o) (e : o = .ok ⟨d, 0⟩) : sem__law_asked [.int k, a, b, c] = .ok ⟨d, 0⟩ := by
  rw [h (by rw [e]; exact (nomatch ·)), e]
  rfl
theorem ask_no {o : FOut} {x : Exc} {k : Int} {a b c : D} (h : o ≠ .bad → sem__law_asked [.int k, a, b, c] = ansO o) (e : o = .exc x) : sem__law_asked [.int k, a, b, c] = .ok ⟨.str "puzzle", 0⟩ := by
  rw [h (by rw [e]; exact (nomatch ·)), e]
  rfl
def GoodV (h w : Nat) (d : D) : Prop := ∃ b, sem__law_asked [.int 1, .int (h : Int), .int (w : Int), d] = .ok ⟨.bl b, 0⟩ ∧ sem__law_right [.int (h : Int), .int (w : Int), d] = .ok ⟨.bl b, 0⟩
section
variable {h w : Nat} (hh : 1 ≤ h ∧ h ≤ 12) (hw : 1 ≤ w ∧ w ≤ 12)
include hh hw
theorem good_es {es : List El} (hl : es.length ≤ 100) : GoodV h w (.tup (es.map elD)) :=
  ⟨_, ask_ok (asked1 _ _ _) (s_laying hh hw hl), s_right hh hw hl⟩
theorem good_non : GoodV h w .non := by
  refine ⟨false, ask_ok (asked1 _ _ _) ?_, rfl⟩
  have cl := s_cells hh hw
  show fnS 9 3 body_is_laying [.int (h : Int), .int (w : Int), .non] = _
  rw [fnS3]
  simp [body_is_laying, S_is_laying_1, S_is_laying_2, go_pk, slot1_ap, eVar_ap, cl]
theorem good_lst (ds : List D) : GoodV h w (.lst ds) := by
  refine ⟨false, ask_ok (asked1 _ _ _) ?_, rfl⟩
  have cl := s_cells hh hw
  show fnS 9 3 body_is_laying [.int (h : Int), .int (w : Int), .lst ds] = _
  rw [fnS3]
  simp [body_is_laying, S_is_laying_1, S_is_laying_2, go_pk, slot1_ap, eVar_ap, cl]
end
/-! counts -/
theorem tab_facts : ∀ i < 12, ∀ j < 12, rAt (cTab.getD i []) j = rAt (cTab.getD j []) i ∧ (decide (0 < rAt (cTab.getD i []) j) = (((i + 1) * (j + 1)) % 2 == 0)) ∧ 0 ≤ rAt (cTab.getD i []) j := by decide +kernel
theorem cnt_sym {a b : Nat} (ha : 1 ≤ a ∧ a ≤ 12) (hb : 1 ≤ b ∧ b ≤ 12) : cntZ a b = cntZ b a := by
  rw [cnt_tab a b ha.1 ha.2 hb.1 hb.2, cnt_tab b a hb.1 hb.2 ha.1 ha.2]
  exact (tab_facts (b - 1) (by omega) (a - 1) (by omega)).1
theorem cnt_pos {a b : Nat} (ha : 1 ≤ a ∧ a ≤ 12) (hb : 1 ≤ b ∧ b ≤ 12) : decide (0 < cntZ a b) = ((a * b) % 2 == 0) := by
  rw [cnt_tab a b ha.1 ha.2 hb.1 hb.2, (tab_facts (b - 1) (by omega) (a - 1) (by omega)).2.1, show b - 1 + 1 = b by omega, show a - 1 + 1 = a by omega, Nat.mul_comm]
def twoL : List Int := [1, 1, 2, 3, 5, 8, 13, 21, 34, 55, 89, 144, 233]
def threeL : List Int := [1, 3, 11, 41, 153, 571, 2131]
theorem long_facts : ∀ i < 12, rAt (cTab.getD i []) 1 = rAt twoL (i + 1) ∧ rAt (cTab.getD 0 []) i = (if (i + 1) % 2 = 0 then 1 else 0) ∧ rAt (cTab.getD i []) 2 = (if (i + 1) % 2 = 0 then rAt threeL ((i + 1) / 2) else 0) := by decide +kernel
section
variable {s t a3 a4 a5 a6 a7 a8 a9 a10 a11 a12 a13 a14 a15 a16 a17 a18 g2 g3 : Option Val} {v v' v2 : Val} {R : PL.Env} {h w n : Nat}
theorem st1 {r q : Nat} (e1 : sem__law_draw v [.int 4] = .ok ⟨.int (r : Int), 0⟩ v') (e2 : sem__law_draw v' [.int 5] = .ok ⟨.int (q : Int), 0⟩ v2) : S_law_1 (s :: some v :: g2 :: g3 :: a4 :: a5 :: a6 :: a7 :: R) = .nx (s :: some v2 :: g2 :: g3 :: a4 :: a5 :: N (1 + r) :: N (1 + q) :: R) := by
  have x1 : (1 : Int) + (r : Int) = ((1 + r : Nat) : Int) := by omega
  have x2 : (1 : Int) + (q : Int) = ((1 + q : Nat) : Int) := by omega
  unfold N
  generalize ((1 + r : Nat) : Int) = z1 at *
  generalize ((1 + q : Nat) : Int) = z2 at *
  simp [S_law_1, eCallIO_ap, callIO_ap, e1, e2, x1, x2]
def everyO (h w : Nat) : Option Val := some ⟨.lst (sortD ((layN h w (turns h w)).map lD)), 0⟩
theorem st2 (hh : 1 ≤ h ∧ h ≤ 4) (hw : 1 ≤ w ∧ w ≤ 5) : S_law_2 (s :: some v :: g2 :: g3 :: a4 :: a5 :: N h :: N w :: a8 :: R) = .nx (s :: some v :: g2 :: g3 :: a4 :: a5 :: N h :: N w :: everyO h w :: R) := by
  have l := s_layings hh hw
  unfold N everyO
  simp [S_law_2, eVar_ap, l]
theorem len_every (hh : 1 ≤ h ∧ h ≤ 4) (hw : 1 ≤ w ∧ w ≤ 5) : oLen [.lst (sortD ((layN h w (turns h w)).map lD))] = vI (cntZ h w) := by
  rw [PL.b1, sort_len, List.length_map, (lay_all h (by omega) w (by omega) hh.1 hw.1).2, cnt_tab h w hh.1 (by omega) hw.1 (by omega)]
theorem same_ints (r : List Int) (h : r.length ≤ 100) : sem__law_same 8 [.lst (r.map .int), .lst (r.map .int)] = .ok ⟨.bl true, 0⟩ := same8 _ (by
  have hb := big_val
  rw [smD, smDs_ints, Bool.and_true]
  exact decide_eq_true (by rw [List.length_map]; omega))
theorem st3 (hh : 1 ≤ h ∧ h ≤ 4) (hw : 1 ≤ w ∧ w ≤ 5) : F_law_3 (s :: some v :: g2 :: g3 :: a4 :: a5 :: N h :: N w :: everyO h w :: none :: R) = .nx (s :: some v :: g2 :: g3 :: a4 :: a5 :: N h :: N w :: everyO h w :: none :: R) := by
  have q1 := ask_ok (asked0 (.int (h : Int)) (.int (w : Int)) .non) (s_count (h := h) (w := w) (by omega) (by omega))
  have q2 := ask_ok (asked0 (.int (w : Int)) (.int (h : Int)) .non) (s_count (h := w) (w := h) (by omega) (by omega))
  rw [cnt_sym (a := w) (b := h) (by omega) (by omega)] at q2
  have le := len_every hh hw
  have sa := same_ints [cntZ h w, cntZ h w] (by simp)
  have one : ∀ i : Nat, i ∈ [0, 1] → fo1 (.n 9) B_law_3 [9] (.int (i : Int)) (s :: some v :: g2 :: g3 :: a4 :: a5 :: N h :: N w :: everyO h w :: none :: R) = .nx (s :: some v :: g2 :: g3 :: a4 :: a5 :: N h :: N w :: everyO h w :: none :: R) := by
    intro i _
    unfold N everyO at *
    simp only [List.map_cons, List.map_nil] at sa
    generalize sortD ((layN h w (turns h w)).map lD) = L at *
    rw [fo1_ap, asg_n, atO_some]
    simp only [List.set_cons_succ, List.set_cons_zero]
    simp [-PL.b1, B_law_3, eVar_ap, go_pk, slot1_ap, q1, q2, le, sa]
  have loop := forL_same (fun i : Nat => .int (i : Int)) one
  have src : ∀ g, iR1 (eC (.int 2)) g = .ok ([0, 1].map fun i : Nat => .int (i : Int)) g := fun g => rfl
  rw [F_law_3, sFor_ap, src, bindIS_ok]
  exact loop
end
end Law

namespace Law
open PL
/-! ### the values that are tried -/
def eL (l : Lay) : List El := l.map Sum.inl
theorem eL_map (l : Lay) : (eL l).map elD = l.map pD := by
  unfold eL
  rw [List.map_map]
  rfl
section
variable {s t a3 a4 a5 a6 a7 a8 a9 a10 a11 a12 a13 a14 a15 a16 a17 a18 g2 g3 : Option Val} {v v' v2 : Val} {R : PL.Env} {h w n : Nat}
def tried0 : List D := [.non, .tup [], .tup [.tup [.int 0, .int 0]], .tup [.tup [.tup [.int 0, .int 0], .tup [.int 0, .int 1]]], .lst [.tup [.tup [.int 0, .int 0], .tup [.int 0, .int 1]]], .tup [.tup [.tup [.bl true, .int 0], .tup [.int 0, .int 1]]], .tup [.non], .tup [.tup [.tup [.int 0, .int 0], .non]]]
theorem tried0_good (hh : 1 ≤ h ∧ h ≤ 12) (hw : 1 ≤ w ∧ w ≤ 12) : ∀ d ∈ tried0, GoodV h w d := by
  intro d hd
  simp only [tried0, List.mem_cons, List.not_mem_nil, or_false] at hd
  rcases hd with rfl | rfl | rfl | rfl | rfl | rfl | rfl | rfl
  · exact good_non hh hw
  · exact good_es hh hw (es := []) (by simp)
  · exact good_es hh hw (es := [.inr ⟨_, bad1⟩]) (by simp)
  · exact good_es hh hw (es := [.inl ((0, 0), (0, 1))]) (by simp)
  · exact good_lst hh hw _
  · exact good_es hh hw (es := [.inr ⟨_, bad4⟩]) (by simp)
  · exact good_es hh hw (es := [.inr ⟨_, bad2⟩]) (by simp)
  · exact good_es hh hw (es := [.inr ⟨_, bad3⟩]) (by simp)
theorem st4 : S_law_3 (s :: some v :: g2 :: g3 :: a4 :: a5 :: a6 :: a7 :: a8 :: a9 :: a10 :: R) = .nx (s :: some v :: g2 :: g3 :: a4 :: a5 :: a6 :: a7 :: a8 :: a9 :: some ⟨.lst tried0, 0⟩ :: R) := rfl
/-- two parts with something between -/
def mid (l : Lay) (i : Nat) (x : El) : List El := eL (l.take i) ++ x :: eL (l.drop (i + 1))
theorem mid_map (l : Lay) (i : Nat) (x : El) : (mid l i x).map elD = (l.map pD).take i ++ [elD x] ++ (l.map pD).drop (i + 1) := by
  unfold mid
  rw [List.map_append, List.map_cons, eL_map, eL_map, List.map_take, List.map_drop]
  simp
theorem mid_len (l : Lay) (i : Nat) (x : El) : (mid l i x).length ≤ l.length + 1 := by
  unfold mid eL
  simp
  omega
theorem st5 (hh : 1 ≤ h ∧ h ≤ 4) (hw : 1 ≤ w ∧ w ≤ 5) (hv : Dw v) : ∃ (v' : Val) (p q : Option Val) (ds : List D), Dw v' ∧ (∀ d ∈ ds, GoodV h w d) ∧
    S_law_4 (s :: some v :: g2 :: g3 :: a4 :: a5 :: N h :: N w :: everyO h w :: a9 :: some ⟨.lst tried0, 0⟩ :: a11 :: a12 :: R) = .nx (s :: some v' :: g2 :: g3 :: a4 :: a5 :: N h :: N w :: everyO h w :: a9 :: some ⟨.lst ds, 0⟩ :: p :: q :: R) := by
  have hb := big_val
  have hh' : 1 ≤ h ∧ h ≤ 12 := by omega
  have hw' : 1 ≤ w ∧ w ≤ 12 := by omega
  have le := len_every hh hw
  have tg := tried0_good hh' hw'
  have ll : (sortD ((layN h w (turns h w)).map lD)).length = (layN h w (turns h w)).length := by rw [sort_len, List.length_map]
  have lc : ((layN h w (turns h w)).length : Int) = cntZ h w := by
    rw [(lay_all h (by omega) w (by omega) hh.1 hw.1).2, cnt_tab h w hh.1 (by omega) hw.1 (by omega)]
  by_cases hp : 0 < cntZ h w
  · have lm := (lay_at hh hw (Nat.le_refl _)).1
    obtain ⟨i, v1, e1, d1, l1⟩ := dl hv (lim := cntZ h w) hp (by omega)
    obtain ⟨x, ex, hx⟩ := pickL (sortD ((layN h w (turns h w)).map lD)) i (by omega)
    obtain ⟨l, hl, rfl⟩ := List.mem_map.mp (sort_mem.mp hx)
    have lt := ((lay_at hh hw (Nat.le_refl _)).2 l hl).1
    have tl := turns_le hh hw
    have ll1 : l.length ≤ 10 := by omega
    have ll0 : 1 ≤ l.length := by omega
    obtain ⟨j, v2, e2, d2, l2⟩ := dl d1 (lim := (l.length : Int)) (by omega) (by omega)
    have jl : j < l.length := by omega
    have on : oLen [lD l] = vI (l.length : Int) := by unfold lD; rw [PL.b2, List.length_map]
    have rv : dRev (lD l) = some ⟨.tup ((eL l.reverse).map elD), 0⟩ := by
      rw [eL_map, List.map_reverse]; rfl
    have ol : oList [lD l] = some ⟨.lst (l.map pD), 1⟩ := rfl
    have c1 : oSl true false [lD l, .int 1] = some ⟨.tup ((eL (l.drop 1)).map elD), 0⟩ := by
      rw [eL_map, List.map_drop]
      exact oSl_loT (i := 1) (by rw [List.length_map]; omega)
    have c2 : oSl false true [lD l, .int 1] = some ⟨.tup ((l.take 1).map pD), 0⟩ := by
      rw [List.map_take]
      exact oSl_hiT (i := 1) (by rw [List.length_map]; omega)
    have c3 : dAdd (lD l) (.tup ((l.take 1).map pD)) = some ⟨.tup ((eL (l ++ l.take 1)).map elD), 0⟩ := by
      rw [eL_map, List.map_append]
      exact cat_tup (by rw [List.length_map, List.length_map, List.length_take]; omega)
    have c4 : oSl false true [lD l, .int (j : Int)] = some ⟨.tup ((l.map pD).take j), 0⟩ := oSl_hiT (by rw [List.length_map]; omega)
    have c5 : oSl true false [lD l, .int ((j + 1 : Nat) : Int)] = some ⟨.tup ((l.map pD).drop (j + 1)), 0⟩ := oSl_loT (by rw [List.length_map]; omega)
    have ix : dIx (lD l) (.int (j : Int)) = some ⟨pD l[j], 0⟩ := dIx_tup (by simp [jl])
    have rp : dRev (pD l[j]) = some ⟨pD (l[j].2, l[j].1), 0⟩ := rfl
    have x0 : dIx (pD l[j]) (.int 0) = some ⟨cD l[j].1, 0⟩ := rfl
    have k1 : ∀ d : D, dAdd (.tup ((l.map pD).take j)) (.tup [d]) = some ⟨.tup ((l.map pD).take j ++ [d]), 0⟩ := fun d => cat_tup (by rw [List.length_take, List.length_map]; simp; omega)
    have k2 : ∀ d : El, dAdd (.tup ((l.map pD).take j ++ [elD d])) (.tup ((l.map pD).drop (j + 1))) = some ⟨.tup ((mid l j d).map elD), 0⟩ := fun d => by
      rw [mid_map]
      exact cat_tup (by rw [List.length_append, List.length_take, List.length_drop, List.length_map]; simp; omega)
    have ka := k2 (.inl (l[j].2, l[j].1))
    have kb := k2 (.inl ((0, 0), (1, 1)))
    have kc := k2 (.inr ⟨_, bad5 l[j].1⟩)
    have j1 : (j : Int) + 1 = ((j + 1 : Nat) : Int) := by omega
    have ad : ∀ a b : List D, a.length ≤ 100 → b.length ≤ 100 → dAdd (.lst a) (.lst b) = some ⟨.lst (a ++ b), 1⟩ := fun a b h1 h2 => cat_lst (by omega)
    refine ⟨v2, some ⟨lD l, 0⟩, N j, tried0 ++ [lD l, .tup ((eL l.reverse).map elD), .lst (l.map pD), .tup ((eL (l.drop 1)).map elD), .tup ((eL (l ++ l.take 1)).map elD), .tup ((mid l j (.inl (l[j].2, l[j].1))).map elD)] ++ [.tup ((mid l j (.inl ((0, 0), (1, 1)))).map elD), .tup ((mid l j (.inr ⟨_, bad5 l[j].1⟩)).map elD)], d2, ?_, ?_⟩
    · intro d hd
      have el : ∀ m : Lay, (eL m).length = m.length := fun m => by unfold eL; simp
      rcases List.mem_append.mp hd with hd | hd
      · rcases List.mem_append.mp hd with hd | hd
        · exact tg d hd
        · simp only [List.mem_cons, List.not_mem_nil, or_false] at hd
          rcases hd with rfl | rfl | rfl | rfl | rfl | rfl
          · have := good_es hh' hw' (es := eL l) (by rw [el]; omega)
            rw [eL_map] at this
            exact this
          · exact good_es hh' hw' (by rw [el, List.length_reverse]; omega)
          · exact good_lst hh' hw' _
          · exact good_es hh' hw' (by rw [el, List.length_drop]; omega)
          · exact good_es hh' hw' (by rw [el, List.length_append, List.length_take]; omega)
          · exact good_es hh' hw' (by have := mid_len l j (.inl (l[j].2, l[j].1)); omega)
      · simp only [List.mem_cons, List.not_mem_nil, or_false] at hd
        rcases hd with rfl | rfl
        · exact good_es hh' hw' (by have := mid_len l j (.inl ((0, 0), (1, 1))); omega)
        · exact good_es hh' hw' (by have := mid_len l j (.inr ⟨_, bad5 l[j].1⟩); omega)
    · have t8 : tried0.length = 8 := rfl
      have e00 : elD (.inl (l[j].2, l[j].1)) = pD (l[j].2, l[j].1) := rfl
      have e01 : elD (.inl ((0, 0), (1, 1))) = .tup [.tup [.int 0, .int 0], .tup [.int 1, .int 1]] := rfl
      have e02 : elD (.inr ⟨_, bad5 l[j].1⟩) = .tup [cD l[j].1] := rfl
      rw [e00] at ka
      rw [e01] at kb
      rw [e02] at kc
      have a1 := ad tried0 [lD l, .tup ((eL l.reverse).map elD), .lst (l.map pD), .tup ((eL (l.drop 1)).map elD), .tup ((eL (l ++ l.take 1)).map elD), .tup ((mid l j (.inl (l[j].2, l[j].1))).map elD)] (by omega) (by simp)
      have a2 := ad (tried0 ++ [lD l, .tup ((eL l.reverse).map elD), .lst (l.map pD), .tup ((eL (l.drop 1)).map elD), .tup ((eL (l ++ l.take 1)).map elD), .tup ((mid l j (.inl (l[j].2, l[j].1))).map elD)]) [.tup ((mid l j (.inl ((0, 0), (1, 1)))).map elD), .tup ((mid l j (.inr ⟨_, bad5 l[j].1⟩)).map elD)] (by rw [List.length_append]; simp; omega) (by simp)
      clear e00 e01 e02 k2
      unfold everyO N at *
      generalize (mid l j (.inl (l[j].2, l[j].1))).map elD = M1 at *
      generalize (mid l j (.inl ((0, 0), (1, 1)))).map elD = M2 at *
      generalize (mid l j (.inr ⟨_, bad5 l[j].1⟩)).map elD = M3 at *
      generalize (eL l.reverse).map elD = M4 at *
      generalize (eL (l.drop 1)).map elD = M5 at *
      generalize (eL (l ++ l.take 1)).map elD = M6 at *
      generalize (l.take 1).map pD = M7 at *
      generalize (l.map pD).take j = M8 at *
      generalize (l.map pD).drop (j + 1) = M9 at *
      generalize pD (l[j].2, l[j].1) = P2 at *
      generalize cD l[j].1 = C1 at *
      generalize pD l[j] = P1 at *
      generalize l.map pD = M0 at *
      generalize lD l = L at *
      generalize sortD ((layN h w (turns h w)).map lD) = E at *
      generalize ((j + 1 : Nat) : Int) = J1 at *
      generalize (j : Int) = J at *
      generalize tried0 = T0 at *
      generalize (l.length : Int) = LL at *
      simp [-PL.b1, -PL.b2, -List.append_assoc, S_law_4, eVar_ap, go_pk, slot1_ap, eCallIO_ap, callIO_ap, le, hp, e1, e2, ex, on, rv, ol, c1, c2, c3, c4, c5, ix, rp, x0, k1, ka, kb, kc, j1, a1, a2]
  · refine ⟨v, a11, a12, tried0, hv, tg, ?_⟩
    unfold everyO N at *
    generalize sortD ((layN h w (turns h w)).map lD) = E at *
    generalize tried0 = T0 at *
    simp [-PL.b1, S_law_4, go_pk, slot1_ap, le, hp]
end
end Law

namespace Law
open PL
section
variable {s t a3 a4 a5 a6 a7 a8 a9 a10 a11 a12 a13 a14 a15 a16 a17 a18 g2 g3 : Option Val} {v v' v2 : Val} {R : PL.Env} {h w n : Nat}
theorem same_bl (b : Bool) : sem__law_same 8 [.bl b, .bl b] = .ok ⟨.bl true, 0⟩ := same8 _ rfl
theorem st6 {ds : List D} (hg : ∀ d ∈ ds, GoodV h w d) : F_law_4 (s :: some v :: g2 :: g3 :: a4 :: a5 :: N h :: N w :: a8 :: a9 :: some ⟨.lst ds, 0⟩ :: a11 :: a12 :: none :: R) = .nx (s :: some v :: g2 :: g3 :: a4 :: a5 :: N h :: N w :: a8 :: a9 :: some ⟨.lst ds, 0⟩ :: a11 :: a12 :: none :: R) := by
  have loop : forL (.n 13) B_law_4 [13] (ds.map id) (s :: some v :: g2 :: g3 :: a4 :: a5 :: N h :: N w :: a8 :: a9 :: some ⟨.lst ds, 0⟩ :: a11 :: a12 :: none :: R) = .nx (s :: some v :: g2 :: g3 :: a4 :: a5 :: N h :: N w :: a8 :: a9 :: some ⟨.lst ds, 0⟩ :: a11 :: a12 :: none :: R) := by
    refine forL_same id fun d hd => ?_
    obtain ⟨b, q1, q2⟩ := hg d hd
    have sa := same_bl b
    unfold N
    rw [fo1_ap, id, asg_n, atO_some]
    simp only [List.set_cons_succ, List.set_cons_zero]
    simp [B_law_4, eVar_ap, q1, q2, sa]
  rw [List.map_id] at loop
  simp [F_law_4, eVar_ap, loop]
theorem st7 {r : Nat} (e1 : sem__law_draw v [.int 12] = .ok ⟨.int (r : Int), 0⟩ v') : S_law_5 (s :: some v :: g2 :: g3 :: a4 :: a5 :: a6 :: a7 :: a8 :: a9 :: a10 :: a11 :: a12 :: a13 :: a14 :: R) = .nx (s :: some v' :: g2 :: g3 :: a4 :: a5 :: a6 :: a7 :: a8 :: a9 :: a10 :: a11 :: a12 :: a13 :: N (1 + r) :: R) := by
  have x1 : (1 : Int) + (r : Int) = ((1 + r : Nat) : Int) := by omega
  unfold N
  generalize ((1 + r : Nat) : Int) = z1 at *
  simp [S_law_5, eCallIO_ap, callIO_ap, e1, x1]
theorem st8 : S_law_6 (s :: some v :: g2 :: g3 :: a4 :: a5 :: a6 :: a7 :: a8 :: a9 :: a10 :: a11 :: a12 :: a13 :: N n :: a15 :: R) = .nx (s :: some v :: g2 :: g3 :: a4 :: a5 :: a6 :: a7 :: a8 :: a9 :: a10 :: a11 :: a12 :: a13 :: N n :: some ⟨.bl (n % 2 == 0), 0⟩ :: R) := by
  have m : dMod (.int (n : Int)) (.int 2) = vI ((n : Int) % 2) := dMod_ap (by decide)
  have e : ((n : Int) % 2 == 0) = (n % 2 == 0) := by
    rw [Bool.eq_iff_iff]
    simp only [beq_iff_eq]
    omega
  rw [← e]
  unfold N
  generalize (n : Int) = z at *
  simp [S_law_6, go_pk, slot1_ap, m]
def twoO : Option Val := some ⟨intsD twoL, 1⟩
def threeO : Option Val := some ⟨intsD threeL, 1⟩
theorem st9 (hn : 1 ≤ n ∧ n ≤ 12) : S_law_7 (s :: some v :: twoO :: threeO :: a4 :: a5 :: a6 :: a7 :: a8 :: a9 :: a10 :: a11 :: a12 :: a13 :: N n :: some ⟨.bl (n % 2 == 0), 0⟩ :: R) = .nx (s :: some v :: twoO :: threeO :: a4 :: a5 :: a6 :: a7 :: a8 :: a9 :: a10 :: a11 :: a12 :: a13 :: N n :: some ⟨.bl (n % 2 == 0), 0⟩ :: R) := by
  have q1 := ask_ok (asked0 (.int 2) (.int (n : Int)) .non) (s_count (h := 2) (w := n) (by omega) hn)
  have q2 := ask_ok (asked0 (.int (n : Int)) (.int 1) .non) (s_count (h := n) (w := 1) hn (by omega))
  have q3 := ask_ok (asked0 (.int 3) (.int (n : Int)) .non) (s_count (h := 3) (w := n) (by omega) hn)
  obtain ⟨f1, f2, f3⟩ := long_facts (n - 1) (by omega)
  rw [show n - 1 + 1 = n by omega] at f1 f2 f3
  rw [cnt_tab 2 n (by omega) (by omega) hn.1 hn.2, show 2 - 1 = 1 from rfl, f1] at q1
  rw [cnt_tab n 1 hn.1 hn.2 (by omega) (by omega), show 1 - 1 = 0 from rfl, f2] at q2
  rw [cnt_tab 3 n (by omega) (by omega) hn.1 hn.2, show 3 - 1 = 2 from rfl, f3] at q3
  have i1 := ix_ints twoL n (by show n < 13; omega)
  have dv : dDiv (.int (n : Int)) (.int 2) = vI ((n / 2 : Nat) : Int) := by
    rw [dDiv_ap (by decide) (by decide)]
    congr 1
  have i2 := ix_ints threeL (n / 2) (by show n / 2 < 7; omega)
  by_cases he : n % 2 = 0
  · have hb : (n % 2 == 0) = true := by simpa using he
    rw [if_pos he] at q2 q3
    rw [hb]
    have sa := same_ints [rAt twoL n, 1, rAt threeL (n / 2)] (by simp)
    simp only [List.map_cons, List.map_nil] at sa
    unfold N twoO threeO
    generalize rAt twoL n = z1 at *
    generalize rAt threeL (n / 2) = z2 at *
    generalize ((n / 2 : Nat) : Int) = z3 at *
    generalize intsD twoL = z4 at *
    generalize intsD threeL = z5 at *
    simp [S_law_7, eVar_ap, go_pk, slot1_ap, slot1_ap1, q1, q2, q3, i1, i2, dv, sa]
  · have hb : (n % 2 == 0) = false := by simpa using he
    rw [if_neg he] at q2 q3
    rw [hb]
    have sa := same_ints [rAt twoL n, 0, 0] (by simp)
    simp only [List.map_cons, List.map_nil] at sa
    unfold N twoO threeO
    generalize rAt twoL n = z1 at *
    generalize intsD twoL = z4 at *
    generalize intsD threeL = z5 at *
    simp [S_law_7, eVar_ap, go_pk, slot1_ap, slot1_ap1, q1, q2, q3, i1, sa]
theorem st10 {r q : Nat} (e1 : sem__law_draw v [.int 12] = .ok ⟨.int (r : Int), 0⟩ v') (e2 : sem__law_draw v' [.int 12] = .ok ⟨.int (q : Int), 0⟩ v2) : S_law_8 (s :: some v :: g2 :: g3 :: a4 :: a5 :: a6 :: a7 :: a8 :: a9 :: a10 :: a11 :: a12 :: a13 :: a14 :: a15 :: a16 :: a17 :: R) = .nx (s :: some v2 :: g2 :: g3 :: a4 :: a5 :: a6 :: a7 :: a8 :: a9 :: a10 :: a11 :: a12 :: a13 :: a14 :: a15 :: N (1 + r) :: N (1 + q) :: R) := by
  have x1 : (1 : Int) + (r : Int) = ((1 + r : Nat) : Int) := by omega
  have x2 : (1 : Int) + (q : Int) = ((1 + q : Nat) : Int) := by omega
  unfold N
  generalize ((1 + r : Nat) : Int) = z1 at *
  generalize ((1 + q : Nat) : Int) = z2 at *
  simp [S_law_8, eCallIO_ap, callIO_ap, e1, e2, x1, x2]
theorem st11 {a b : Nat} (ha : 1 ≤ a ∧ a ≤ 12) (hb : 1 ≤ b ∧ b ≤ 12) : S_law_9 (s :: some v :: g2 :: g3 :: a4 :: a5 :: a6 :: a7 :: a8 :: a9 :: a10 :: a11 :: a12 :: a13 :: a14 :: a15 :: N a :: N b :: a18 :: R) = .nx (s :: some v :: g2 :: g3 :: a4 :: a5 :: a6 :: a7 :: a8 :: a9 :: a10 :: a11 :: a12 :: a13 :: a14 :: a15 :: N a :: N b :: some ⟨.int (cntZ a b), 0⟩ :: R) := by
  have q1 := ask_ok (asked0 (.int (a : Int)) (.int (b : Int)) .non) (s_count ha hb)
  unfold N
  simp [S_law_9, eVar_ap, q1]
theorem st12 {a b : Nat} (ha : 1 ≤ a ∧ a ≤ 12) (hb : 1 ≤ b ∧ b ≤ 12) : S_law_10 (s :: some v :: g2 :: g3 :: a4 :: a5 :: a6 :: a7 :: a8 :: a9 :: a10 :: a11 :: a12 :: a13 :: a14 :: a15 :: N a :: N b :: some ⟨.int (cntZ a b), 0⟩ :: R) = .nx (s :: some v :: g2 :: g3 :: a4 :: a5 :: a6 :: a7 :: a8 :: a9 :: a10 :: a11 :: a12 :: a13 :: a14 :: a15 :: N a :: N b :: some ⟨.int (cntZ a b), 0⟩ :: R) := by
  have q1 := ask_ok (asked0 (.int (b : Int)) (.int (a : Int)) .non) (s_count hb ha)
  rw [cnt_sym hb ha] at q1
  have cp := cnt_pos ha hb
  have m : dMul (.int (a : Int)) (.int (b : Int)) = vI ((a : Int) * (b : Int)) := dMul_sm (big400 (by omega)) (big400 (by omega))
  have md : dMod (.int ((a : Int) * (b : Int))) (.int 2) = vI (((a : Int) * (b : Int)) % 2) := dMod_ap (by decide)
  have e : (((a : Int) * (b : Int)) % 2 == 0) = (a * b % 2 == 0) := by
    rw [Bool.eq_iff_iff]
    simp only [beq_iff_eq]
    have : ((a : Int) * (b : Int)) = ((a * b : Nat) : Int) := by rw [Int.natCast_mul]
    rw [this]
    omega
  rw [← e] at cp
  unfold N
  generalize (a : Int) * (b : Int) = ab at *
  generalize hq : (ab % 2 == 0) = q at *
  have e2 : dEq (.int (ab % 2)) (.int 0) = vB q := by rw [PL.a7, hq]
  have e3 : dGt (.int (cntZ a b)) (.int 0) = vB q := by rw [PL.a5, cp]
  simp [-PL.a7, -PL.a5, S_law_10, eVar_ap, go_pk, slot1_ap, q1, m, md, e2, e3]
theorem ask_bad0 (x : D) (hx : x = .int 0 ∨ x = .int 13 ∨ x = .non ∨ x = .bl true) : sem_count_layings [x, .int 2] = .exc ⟨0, noW⟩ ∧ sem_count_layings [.int 2, x] = .exc ⟨0, noW⟩ ∧ sem_is_laying [x, .int 2, .tup []] = .exc ⟨0, noW⟩ ∧ sem_is_laying [.int 2, x, .tup []] = .exc ⟨0, noW⟩ := by
  rcases hx with rfl | rfl | rfl | rfl <;> exact ⟨rfl, rfl, rfl, rfl⟩
theorem st13 {i j k l : Nat} {v3 v4 : Val} (e1 : sem__law_draw v [.int 2] = .ok ⟨.int (i : Int), 0⟩ v') (h1 : i < 2) (e2 : sem__law_draw v' [.int 4] = .ok ⟨.int (j : Int), 0⟩ v2) (h2 : j < 4) (e3 : sem__law_draw v2 [.int 2] = .ok ⟨.int (k : Int), 0⟩ v3) (h3 : k < 2) (e4 : sem__law_draw v3 [.int 4] = .ok ⟨.int (l : Int), 0⟩ v4) (h4 : l < 4) : S_law_11 (s :: some v :: R) = .nx (s :: some v4 :: R) := by
  obtain ⟨x, ex, hx⟩ := pickL [.int 0, .int 13, .non, .bl true] j h2
  obtain ⟨y, ey, hy⟩ := pickL [.int 0, .int 13, .non, .bl true] l h4
  obtain ⟨x1, _, x3, _⟩ := ask_bad0 x (by simpa using hx)
  obtain ⟨_, y2, _, y4⟩ := ask_bad0 y (by simpa using hy)
  have q1 : sem__law_asked [.int (i : Int), x, .int 2, .tup []] = .ok ⟨.str "puzzle", 0⟩ := by
    have : i = 0 ∨ i = 1 := by omega
    rcases this with rfl | rfl
    · exact ask_no (asked0 _ _ _) x1
    · exact ask_no (asked1 _ _ _) x3
  have q2 : sem__law_asked [.int (k : Int), .int 2, y, .tup []] = .ok ⟨.str "puzzle", 0⟩ := by
    have : k = 0 ∨ k = 1 := by omega
    rcases this with rfl | rfl
    · exact ask_no (asked0 _ _ _) y2
    · exact ask_no (asked1 _ _ _) y4
  simp [S_law_11, eVar_ap, go_pk, slot1_ap, eCallIO_ap, callIO_ap, e1, e2, e3, e4, ex, ey, q1, q2, ne_puz]
def env0 (s : Option Val) (v : Val) : PL.Env := [s, some v, twoO, threeO, none, none, none, none, none, none, none, none, none, none, none, none, none, none, none]
theorem turn_ok (s : Option Val) (v : Val) (hv : Dw v) (k : Int) : ∃ v' : Val, Dw v' ∧ fo1 (.n 5) B_law_5 [5, 6, 7, 8, 9, 10, 11, 12, 13, 14, 15, 16, 17, 18] (.int k) (env0 s v) = .nx (env0 s v') := by
  obtain ⟨r, v1, e1, d1, l1⟩ := dl hv (lim := 4) (by decide) (by decide)
  obtain ⟨q, v2, e2, d2, l2⟩ := dl d1 (lim := 5) (by decide) (by decide)
  have hh : 1 ≤ 1 + r ∧ 1 + r ≤ 4 := by omega
  have hw : 1 ≤ 1 + q ∧ 1 + q ≤ 5 := by omega
  obtain ⟨v3, p1, p2, ds, d3, hg, e3⟩ := st5 (s := s) (g2 := twoO) (g3 := threeO) (a4 := none) (a5 := some ⟨.int k, 0⟩) (a9 := none) (a11 := none) (a12 := none) (R := [none, none, none, none, none, none]) hh hw d2
  obtain ⟨r4, v4, e4, d4, l4⟩ := dl d3 (lim := 12) (by decide) (by decide)
  obtain ⟨r5, v5, e5, d5, l5⟩ := dl d4 (lim := 12) (by decide) (by decide)
  obtain ⟨r6, v6, e6, d6, l6⟩ := dl d5 (lim := 12) (by decide) (by decide)
  obtain ⟨r7, v7, e7, d7, l7⟩ := dl d6 (lim := 2) (by decide) (by decide)
  obtain ⟨r8, v8, e8, d8, l8⟩ := dl d7 (lim := 4) (by decide) (by decide)
  obtain ⟨r9, v9, e9, d9, l9⟩ := dl d8 (lim := 2) (by decide) (by decide)
  obtain ⟨ra, va, ea, da, la⟩ := dl d9 (lim := 4) (by decide) (by decide)
  refine ⟨va, da, ?_⟩
  rw [fo1_ap, asg_n, atO_some, env0]
  simp only [List.set_cons_succ, List.set_cons_zero]
  rw [B_law_5, seq_ap, st1 e1 e2, bindS_nx, seq_ap, st2 hh hw, bindS_nx, seq_ap, st3 hh hw, bindS_nx, seq_ap, st4, bindS_nx, seq_ap, e3, bindS_nx, seq_ap, st6 hg, bindS_nx, seq_ap, st7 e4, bindS_nx, seq_ap, st8, bindS_nx, seq_ap, st9 (by omega), bindS_nx, seq_ap, st10 e5 e6, bindS_nx, seq_ap, st11 (by omega) (by omega), bindS_nx, seq_ap, st12 (by omega) (by omega), bindS_nx, st13 e7 (by omega) e8 (by omega) e9 (by omega) ea (by omega), endO_nx]
  rfl
end
theorem seq_skip {a b : Sx} {g : PL.Env} {g1 : PL.Env} (h : (seq a (seq b skip)) g = .nx g1) {c : Sx} : (seq a (seq b c)) g = c g1 := by
  rw [seq_ap] at h ⊢
  cases e : a g with
  | nx g2 =>
    rw [e, bindS_nx, seq_ap] at h
    rw [bindS_nx, seq_ap]
    cases e2 : b g2 with
    | nx g3 =>
      rw [e2, bindS_nx, skip_ap] at h
      cases h
      rw [bindS_nx]
    | _ => rw [e2] at h; cases h
  | _ => rw [e] at h; cases h
theorem math (ns : List Int) (_ : ns.length ≤ 63) : ∃ o, sem_law [.src ns] = .ok ⟨.bl true, o⟩ := by
  obtain ⟨v, ev, hv⟩ := draws_ok (ns := ns)
  have ev : sem__law_draws [.src ns] = .ok v := ev
  obtain ⟨g', eL, v', hv', rfl⟩ := forL_inv (t := .n 5) (a := B_law_5) (ks := [5, 6, 7, 8, 9, 10, 11, 12, 13, 14, 15, 16, 17, 18]) (P := fun _ g => ∃ v', Dw v' ∧ g = env0 (some ⟨.src ns, 0⟩) v') 3
    (fun i _ g ⟨v1, hv1, eg⟩ => by
      subst eg
      obtain ⟨v2, hv2, e2⟩ := turn_ok (some ⟨.src ns, 0⟩) v1 hv1 (i : Int)
      exact ⟨_, e2, v2, hv2, rfl⟩) (g := env0 (some ⟨.src ns, 0⟩) v) ⟨v, hv, rfl⟩
  refine ⟨0, ?_⟩
  show fnS 19 1 body_law [.src ns] = _
  have b1 : sem_count_layings [.int 8, .int 8] = .ok ⟨.int 12988816, 0⟩ := by
    have := s_count (h := 8) (w := 8) (by decide) (by decide)
    rw [cnt_tab 8 8 (by decide) (by decide) (by decide) (by decide)] at this
    exact this
  have sa : sem__law_same 8 [.int 12988816, .int 12988816] = .ok ⟨.bl true, 0⟩ := same8 _ rfl
  have src : ∀ g, iR1 (eC (.int 3)) g = .ok ((List.range 3).map fun (i : Nat) => .int (i : Int)) g := fun g => rfl
  have two : (seq F_law_1 (seq F_law_2 skip)) [some ⟨.src ns, 0⟩, some v, some ⟨.lst [.int 1, .int 1], 1⟩, some ⟨.lst [.int 1, .int 3], 1⟩, none, none, none, none, none, none, none, none, none, none, none, none, none, none, none] = .nx (env0 (some ⟨.src ns, 0⟩) v) := by kernel_rfl
  have i1 : S_law_12 (some ⟨.src ns, 0⟩ :: List.replicate 18 none) = .nx [some ⟨.src ns, 0⟩, some v, none, none, none, none, none, none, none, none, none, none, none, none, none, none, none, none, none] := by
    rw [S_law_12, sSet_ap, eCall_ap, goE_cons, eVar_ap (d := .src ns) rfl, bindO_ok, goE_nil, ev, ofF_ok, bindE_ok, keepV_t]
    rfl
  have i2 : S_law_13 [some ⟨.src ns, 0⟩, some v, none, none, none, none, none, none, none, none, none, none, none, none, none, none, none, none, none] = .nx [some ⟨.src ns, 0⟩, some v, some ⟨.lst [.int 1, .int 1], 1⟩, some ⟨.lst [.int 1, .int 3], 1⟩, none, none, none, none, none, none, none, none, none, none, none, none, none, none, none] := rfl
  rw [fnS1, body_law, seq_ap, i1, bindS_nx, seq_ap, i2, bindS_nx, seq_skip two, seq_ap, F_law_5, sFor_ap, src, bindIS_ok]
  show fnO (bindS (forL (.n 5) B_law_5 [5, 6, 7, 8, 9, 10, 11, 12, 13, 14, 15, 16, 17, 18] ((List.range 3).map fun (i : Nat) => .int (i : Int)) (env0 (some ⟨.src ns, 0⟩) v)) _) = _
  rw [eL, bindS_nx]
  simp [S_law_14, b1, sa]
end Law

namespace Law
open PySem PySem.Spec PySem.Calls L2 PL
abbrev R : PySem.W.OpenRow := PySem.W.OpenLaw.row PySem.Challenge.rw_pencilrows_k66_whole_layings_counted
abbrev hk : PySem.W.Hook := hookP 4 ck fn
def ob (s : PySem.W.SharedT) : He.AlD := obsPG 4 ck fn (HandSHeadRun.getT s)
theorem ob_eq (s : PySem.W.SharedT) : ob s = hk.obs s.abs := obsPG_eq (HandSHeadRun.getT_eq s)
def loose : List Str := ["PencilError", "BadPuzzle", "MOST_SIDE", "is_whole", "is_side", "look_at_sides", "all_cells", "is_cell", "look_at_cell", "beside", "is_pair", "is_laying", "count_layings", "steps_of", "_law_draws", "_law_draw", "_law_same", "_law_layings", "_law_right", "_law_asked"]
theorem run (w : World) : HandSHeadRun.RunEq R (PySem.W.view R.prog [24]) hk ob 3000 loose w := by
  intro os
  kernel_rfl
theorem facts {P : Program} {w : World} {K : PySem.W.Frag} {h : Heap} {mg : Str → Option Value} {f : Addr} (KX : K.In h) (G : h.Ns mainGlobals mg) (hfa : mg ("law" : Str) = some (.ref f)) (c : SaysP ck fn K) :
    ∃ fd : FuncData, (∀ (s : Shared) (v : Value), BindsTo s fd ⟨[v], []⟩ [("script", v)]) ∧ ∀ base : Heap, K.In base → base.Ns mainGlobals mg → FnOk P w K mg base (L2.CX P w) 10 f fd ["script"] (spF ⟨K, w, fns K⟩ (cls K) 1 sem_law) := by
  obtain ⟨fd, F⟩ := c.def_ 17 (d := d_law) rfl
  have e := hfa.symm.trans (He.glo_ok KX G (factsB_fact (ckF c) 30 (f := .glo "law") rfl))
  cases e
  have b := FunD.bindsA (ps := ["script"]) F fun _ _ _ _ _ _ us hl => match us, hl with | [_], _ => rfl
  exact ⟨fd, fun s v => b s [v] rfl, fun base _ _ => okf_law KX G c F⟩
end Law
open PySem PySem.W PySem.Calls PyProof.Rows
theorem PySem.Challenge.cw_pencilrows_k66_whole_layings_counted_holds : PySem.Challenge.rw_pencilrows_k66_whole_layings_counted.Holds := by
  w_on; o_law
  refine HandSHeadRun.head_any (r := OpenLaw.row PySem.Challenge.rw_pencilrows_k66_whole_layings_counted) (q := view (OpenLaw.row PySem.Challenge.rw_pencilrows_k66_whole_layings_counted).prog [24]) (H := Law.hk) (ob := Law.ob) (M := 3000) (loose := Law.loose) (d := HandSHeadRun.topDef (OpenLaw.row PySem.Challenge.rw_pencilrows_k66_whole_layings_counted).prog 24) (kwd := []) Law.ob_eq
    (by kernel_rfl) (fun s => by kernel_rfl) Law.run (by kernel_rfl) (by kernel_rfl) (by kernel_rfl) (by rfl) (by first | assumption | decide +kernel) (by decide +kernel) ⟨rfl, rfl, rfl, rfl, rfl, by decide +kernel⟩ ?hw ?hc
  case hw => w_witness2
  case hc =>
    refine PL.walk_w (row := PySem.Challenge.rw_pencilrows_k66_whole_layings_counted) (most := 63) (lvl := 10) (par := "script") rfl (by decide) (by kernel_rfl) ⟨rfl, by decide, by decide⟩ ?_
    intro w mg fa h Y G hmg0
    obtain ⟨K, KX, c⟩ := Y
    have hmg : mg ("law" : PySem.Str) = some (.ref fa) := by
      have e : (HandSHeadRun.topDef (OpenLaw.row PySem.Challenge.rw_pencilrows_k66_whole_layings_counted).prog 24).name = ("law" : PySem.Str) := by kernel_rfl
      rw [← e]
      exact hmg0
    obtain ⟨fd, hb, hF⟩ := Law.facts (P := PySem.Challenge.rw_pencilrows_k66_whole_layings_counted.prog) (w := w) KX G hmg c
    exact ⟨K, fd, _, KX, hb, fun H a ns hl hO hS => PL.sp_law Law.math H a ns hl hO hS, hF⟩

