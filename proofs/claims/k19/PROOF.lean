import PyProof.Rows.All
import Wide.All
import OpenK.AllK
import Wide.FinOn
import HandS.ForSpec
import HandS.ForMost
import KE.KDictKeyed
import HandS.Defaults
import HandS.ExcIs
import HandS.TupAny
import HandS.TupMul
import HandS.Style
import HandS.Wide
import HandS.WideBits
import HandS.Deep
import HandS.IsInst
import KE.KTupSum
import HandS.TupLe
import HandS.Head0
import HandS.Head1
import HandS.Head2
import HandS.HeadEnd
import HandS.HeadHook1
import HandS.HeadHook2
import HandS.Lambda
import PySem.Challenge.RW_pencilrows_k19_whole_heights_that_are_se
set_option Elab.async false
set_option linter.all false
set_option maxRecDepth 100000
set_option maxHeartbeats 0
/-! PL1: plain data, how it lies in the abstract heap, who owns what may still change. -/
namespace PL
open PySem PySem.Spec L2

/-- plain data -/
inductive D where
  | non | bl (b : Bool) | int (i : Int) | str (s : Str)
  | tup (xs : List D) | lst (xs : List D) | dct (kvs : List (D × D)) | fn (f : Nat) | src (is : List Int)
/-- data with how deep it is its holder's own -/
structure Val where
  d : D
  o : Nat := 0
abbrev Env := List (Option Val)
structure Exc where
  c : Nat
  w : Str
inductive Out where
  | ok (v : Val) (g : Env) | exc (x : Exc) (g : Env) | bad
abbrev Ex := Env → Out
inductive SOut where
  | nx (g : Env) | ret (v : Val) (g : Env) | brk (g : Env) | ct (g : Env) | exc (x : Exc) (g : Env) | bad
abbrev Sx := Env → SOut

/-- what a dict's key counts as -/
def keyD : D → Option NestedKey
  | .non => some .none
  | .bl b => some (.num (if b then 1 else 0))
  | .int i => some (.num i)
  | .str x => some (.text x)
  | .tup xs => (go xs).map .tup
  | _ => none
where go : List D → Option (List NestedKey)
  | [] => some []
  | x :: xs => match keyD x, go xs with
    | some k, some ks => some (k :: ks)
    | _, _ => none
def isTup : D → Bool
  | .tup _ => true
  | _ => false
def isMut : D → Bool
  | .lst _ => true
  | .dct _ => true
  | _ => false

/-- what a tracked thing that may change holds -/
inductive Sh where
  | lst (vs : List V)
  | dct (es : List DictEntry)
def DictAt (a : Addr) (es : List DictEntry) (h : Heap) : Prop := ∃ ep, h.DictRaw a es.toArray ep
def shO (a : Addr) : Sh → HO
  | .lst vs => .lst vs
  | .dct es => .ext (DictAt a es)

/-- where the functions stand -/
abbrev Fns := Nat → Option Addr
structure Cn where
  K : PySem.W.Frag
  w : World
  fns : Fns
section
variable (c : Cn) (H : Hp)
mutual
/-- the value v is the data d; lists and dicts of it stand at frozen places -/
inductive Rp (F : Addr → Prop) : V → D → Prop
  | non : Rp F .non .non
  | bl (b : Bool) : Rp F (.bl b) (.bl b)
  | int (i : Int) : Rp F (.int i) (.int i)
  | str (x : Str) : Rp F (.str x) (.str x)
  | tup {a : Addr} {vs : List V} {ds : List D} : SqT c.K H a vs → RpA F vs ds → Rp F (.ref a) (.tup ds)
  | lst {a : Addr} {vs : List V} {ds : List D} : F a → Rd H a (.lst vs) → RpA F vs ds → Rp F (.ref a) (.lst ds)
  | dct {a : Addr} {es : List DictEntry} {kvs : List (D × D)} : F a → H a = some (shO a (.dct es)) → RpE F es kvs → Rp F (.ref a) (.dct kvs)
  | fn {f : Nat} {a : Addr} : c.fns f = some a → Rp F (.ref a) (.fn f)
  | src {a : Addr} {is : List Int} : (F a ∧ Rd H a (.lst (is.map V.int))) ∨ SqL c.K (fun _ => none) a (is.map V.int) → Rp F (.ref a) (.src is)
inductive RpA (F : Addr → Prop) : List V → List D → Prop
  | nil : RpA F [] []
  | cons {v : V} {vs : List V} {d : D} {ds : List D} : Rp F v d → RpA F vs ds → RpA F (v :: vs) (d :: ds)
inductive RpE (F : Addr → Prop) : List DictEntry → List (D × D) → Prop
  | nil : RpE F [] []
  | cons {e : DictEntry} {es : List DictEntry} {kv vv : V} {k v : D} {nk : NestedKey} {kvs : List (D × D)} : RelV kv e.key → RelV vv e.val → Rp F kv k → Rp F vv v → keyD k = some nk → e.hash = nk.hash c.w → RpE F es kvs → RpE F (e :: es) ((k, v) :: kvs)
end
mutual
/-- the value v is the data d; n levels of lists and dicts down, they stand at the places L, the holder's own -/
inductive Own (F : Addr → Prop) : Nat → V → D → List Addr → Prop
  | frz {n : Nat} {v : V} {d : D} : (n = 0 ∨ isMut d = false) → Rp c H F v d → Own F n v d []
  | lst {n : Nat} {a : Addr} {vs : List V} {ds : List D} {L : List Addr} : H a = some (.lst vs) → OwnA F n vs ds L → Own F (n + 1) (.ref a) (.lst ds) (a :: L)
  | dct {n : Nat} {a : Addr} {es : List DictEntry} {kvs : List (D × D)} {L : List Addr} : H a = some (shO a (.dct es)) → OwnE F n es kvs L → Own F (n + 1) (.ref a) (.dct kvs) (a :: L)
inductive OwnA (F : Addr → Prop) : Nat → List V → List D → List Addr → Prop
  | nil {n : Nat} : OwnA F n [] [] []
  | cons {n : Nat} {v : V} {vs : List V} {d : D} {ds : List D} {L M : List Addr} : Own F n v d L → OwnA F n vs ds M → OwnA F n (v :: vs) (d :: ds) (L ++ M)
inductive OwnE (F : Addr → Prop) : Nat → List DictEntry → List (D × D) → List Addr → Prop
  | nil {n : Nat} : OwnE F n [] [] []
  | cons {n : Nat} {e : DictEntry} {es : List DictEntry} {kv vv : V} {k v : D} {nk : NestedKey} {kvs : List (D × D)} {L M : List Addr} : RelV kv e.key → RelV vv e.val → Rp c H F kv k → Own F n vv v L → keyD k = some nk → e.hash = nk.hash c.w → OwnE F n es kvs M → OwnE F n (e :: es) ((k, v) :: kvs) (L ++ M)
end
end

section
variable {c : Cn} {H H' : Hp} {F F' : Addr → Prop}
/-- what is not the own of anybody stands: tuples and frozen things -/
structure Keep (F F' : Addr → Prop) (H H' : Hp) : Prop where
  fr : ∀ a, F a → F' a
  tup : ∀ a vs, SqT c.K H a vs → SqT c.K H' a vs
  frz : ∀ a o, F a → H a = some o → H' a = some o
theorem rd_keep (k : Keep (c := c) F F' H H') {a : Addr} {u : HO} (f : F a) (r : Rd H a u) : Rd H' a u := by
  rcases r with r | ⟨o, r⟩
  · exact .inl (k.frz a _ f r)
  · exact .inr ⟨o, k.frz a _ f r⟩
mutual
theorem Rp.keep (k : Keep (c := c) F F' H H') : ∀ {v : V} {d : D}, Rp c H F v d → Rp c H' F' v d
  | _, _, .non => .non
  | _, _, .bl b => .bl b
  | _, _, .int i => .int i
  | _, _, .str x => .str x
  | _, _, .tup h r => .tup (k.tup _ _ h) (RpA.keep k r)
  | _, _, .lst f h r => .lst (k.fr _ f) (rd_keep k f h) (RpA.keep k r)
  | _, _, .dct f h r => .dct (k.fr _ f) (k.frz _ _ f h) (RpE.keep k r)
  | _, _, .fn h => .fn h
  | _, _, .src h => .src (h.imp (fun ⟨f, r⟩ => ⟨k.fr _ f, rd_keep k f r⟩) id)
theorem RpA.keep (k : Keep (c := c) F F' H H') : ∀ {vs : List V} {ds : List D}, RpA c H F vs ds → RpA c H' F' vs ds
  | _, _, .nil => .nil
  | _, _, .cons h r => .cons (Rp.keep k h) (RpA.keep k r)
theorem RpE.keep (k : Keep (c := c) F F' H H') : ∀ {es : List DictEntry} {kvs : List (D × D)}, RpE c H F es kvs → RpE c H' F' es kvs
  | _, _, .nil => .nil
  | _, _, .cons a b h1 h2 e1 e2 r => .cons a b (Rp.keep k h1) (Rp.keep k h2) e1 e2 (RpE.keep k r)
end
mutual
theorem Own.keep (k : Keep (c := c) F F' H H') : ∀ {n : Nat} {v : V} {d : D} {L : List Addr}, (∀ a ∈ L, ∀ o, H a = some o → H' a = some o) → Own c H F n v d L → Own c H' F' n v d L
  | _, _, _, _, _, .frz z r => .frz z (r.keep k)
  | _, _, _, _, l, .lst h r => .lst (l _ List.mem_cons_self _ h) (OwnA.keep k (fun a ha => l a (List.mem_cons_of_mem _ ha)) r)
  | _, _, _, _, l, .dct h r => .dct (l _ List.mem_cons_self _ h) (OwnE.keep k (fun a ha => l a (List.mem_cons_of_mem _ ha)) r)
theorem OwnA.keep (k : Keep (c := c) F F' H H') : ∀ {n : Nat} {vs : List V} {ds : List D} {L : List Addr}, (∀ a ∈ L, ∀ o, H a = some o → H' a = some o) → OwnA c H F n vs ds L → OwnA c H' F' n vs ds L
  | _, _, _, _, _, .nil => .nil
  | _, _, _, _, l, .cons h r => .cons (Own.keep k (fun a ha => l a (List.mem_append_left _ ha)) h) (OwnA.keep k (fun a ha => l a (List.mem_append_right _ ha)) r)
theorem OwnE.keep (k : Keep (c := c) F F' H H') : ∀ {n : Nat} {es : List DictEntry} {kvs : List (D × D)} {L : List Addr}, (∀ a ∈ L, ∀ o, H a = some o → H' a = some o) → OwnE c H F n es kvs L → OwnE c H' F' n es kvs L
  | _, _, _, _, _, .nil => .nil
  | _, _, _, _, l, .cons a b h1 h2 e1 e2 r => .cons a b (h1.keep k) (Own.keep k (fun a ha => l a (List.mem_append_left _ ha)) h2) e1 e2 (OwnE.keep k (fun a ha => l a (List.mem_append_right _ ha)) r)
end
/-- more may be frozen -/
theorem Keep.more (h : ∀ a, F a → F' a) : Keep (c := c) F F' H H := ⟨h, fun _ _ x => x, fun _ _ _ x => x⟩
theorem src_sq {a : Addr} {xs : List V} (h : (F a ∧ Rd H a (.lst xs)) ∨ SqL c.K (fun _ => none) a xs) : SqL c.K H a xs := by
  rcases h with ⟨_, h⟩ | h | h
  · exact .inl h
  · rcases h with h | ⟨_, h⟩ <;> cases h
  · exact .inr h
theorem Rp.more (h : ∀ a, F a → F' a) {v : V} {d : D} (r : Rp c H F v d) : Rp c H F' v d := r.keep (.more h)
theorem RpA.more (h : ∀ a, F a → F' a) {v : List V} {d : List D} (r : RpA c H F v d) : RpA c H F' v d := r.keep (.more h)
theorem RpE.more (h : ∀ a, F a → F' a) {v : List DictEntry} {d : List (D × D)} (r : RpE c H F v d) : RpE c H F' v d := r.keep (.more h)
mutual
/-- the own is frozen -/
theorem Own.freeze (h : ∀ a, F a → F' a) : ∀ {n : Nat} {v : V} {d : D} {L : List Addr}, (∀ a ∈ L, F' a) → Own c H F n v d L → Rp c H F' v d
  | _, _, _, _, _, .frz _ r => r.more h
  | _, _, _, _, l, .lst e r => .lst (l _ List.mem_cons_self) (.of e) (OwnA.freeze h (fun a ha => l a (List.mem_cons_of_mem _ ha)) r)
  | _, _, _, _, l, .dct e r => .dct (l _ List.mem_cons_self) e (OwnE.freeze h (fun a ha => l a (List.mem_cons_of_mem _ ha)) r)
theorem OwnA.freeze (h : ∀ a, F a → F' a) : ∀ {n : Nat} {vs : List V} {ds : List D} {L : List Addr}, (∀ a ∈ L, F' a) → OwnA c H F n vs ds L → RpA c H F' vs ds
  | _, _, _, _, _, .nil => .nil
  | _, _, _, _, l, .cons r1 r => .cons (Own.freeze h (fun a ha => l a (List.mem_append_left _ ha)) r1) (OwnA.freeze h (fun a ha => l a (List.mem_append_right _ ha)) r)
theorem OwnE.freeze (h : ∀ a, F a → F' a) : ∀ {n : Nat} {es : List DictEntry} {kvs : List (D × D)} {L : List Addr}, (∀ a ∈ L, F' a) → OwnE c H F n es kvs L → RpE c H F' es kvs
  | _, _, _, _, _, .nil => .nil
  | _, _, _, _, l, .cons a b r0 r1 e1 e2 r => .cons a b (r0.more h) (Own.freeze h (fun a ha => l a (List.mem_append_left _ ha)) r1) e1 e2 (OwnE.freeze h (fun a ha => l a (List.mem_append_right _ ha)) r)
end
theorem Own.zero {v : V} {d : D} {L : List Addr} (h : Own c H F 0 v d L) : Rp c H F v d ∧ L = [] := by
  cases h with
  | frz _ r => exact ⟨r, rfl⟩
theorem Own.of {v : V} {d : D} (r : Rp c H F v d) : Own c H F 0 v d [] := .frz (.inl rfl) r
theorem OwnA.of {vs : List V} {ds : List D} : RpA c H F vs ds → OwnA c H F 0 vs ds []
  | .nil => .nil
  | .cons r rs => by
    have := OwnA.cons (Own.of r) (OwnA.of rs)
    exact this
theorem OwnA.zero : ∀ {vs : List V} {ds : List D} {L : List Addr}, OwnA c H F 0 vs ds L → RpA c H F vs ds ∧ L = []
  | _, _, _, .nil => ⟨.nil, rfl⟩
  | _, _, _, .cons h r => by
    obtain ⟨h1, h2⟩ := h.zero
    obtain ⟨r1, r2⟩ := OwnA.zero r
    exact ⟨.cons h1 r1, by rw [h2, r2]; rfl⟩
theorem OwnE.zero : ∀ {es : List DictEntry} {kvs : List (D × D)} {L : List Addr}, OwnE c H F 0 es kvs L → RpE c H F es kvs ∧ L = []
  | _, _, _, .nil => ⟨.nil, rfl⟩
  | _, _, _, .cons a b h0 h e1 e2 r => by
    obtain ⟨h1, h2⟩ := h.zero
    obtain ⟨r1, r2⟩ := OwnE.zero r
    exact ⟨.cons a b h0 h1 e1 e2 r1, by rw [h2, r2]; rfl⟩
theorem RpA.length : ∀ {vs : List V} {ds : List D}, RpA c H F vs ds → vs.length = ds.length
  | _, _, .nil => rfl
  | _, _, .cons _ r => by simp [r.length]
theorem RpA.get : ∀ {vs : List V} {ds : List D} {i : Nat} {v : V}, RpA c H F vs ds → vs[i]? = some v → ∃ d, ds[i]? = some d ∧ Rp c H F v d
  | _, _, _, _, .nil, e => by simp at e
  | _, _, 0, _, .cons h _, e => by simp at e; subst e; exact ⟨_, rfl, h⟩
  | _, _, i + 1, _, .cons _ r, e => by
    obtain ⟨d, h1, h2⟩ := RpA.get (i := i) r (by simpa using e)
    exact ⟨d, by simpa using h1, h2⟩
theorem RpA.get' : ∀ {vs : List V} {ds : List D} {i : Nat} {d : D}, RpA c H F vs ds → ds[i]? = some d → ∃ v, vs[i]? = some v ∧ Rp c H F v d
  | _, _, _, _, .nil, e => by simp at e
  | _, _, 0, _, .cons h _, e => by simp at e; subst e; exact ⟨_, rfl, h⟩
  | _, _, i + 1, _, .cons _ r, e => by
    obtain ⟨d, h1, h2⟩ := RpA.get' (i := i) r (by simpa using e)
    exact ⟨d, by simpa using h1, h2⟩
theorem RpA.append : ∀ {vs ws : List V} {ds es : List D}, RpA c H F vs ds → RpA c H F ws es → RpA c H F (vs ++ ws) (ds ++ es)
  | _, _, _, _, .nil, s => s
  | _, _, _, _, .cons h r, s => .cons h (RpA.append r s)
end
end PL

/-! PL2: states, steps, the judgement of an expression. -/
namespace PL
open PySem PySem.Spec L2

abbrev Fz := Addr → Prop
abbrev Ow := Nat → List Addr

structure G (c : Cn) (n : Nat) (pz : List (Nat × V)) (F : Fz) (H : Hp) (σ : St) (g : Env) (own : Ow) : Prop where
  len : g.length = n
  slen : σ.length = n
  slot : ∀ i v, g[i]? = some (some v) → ∃ x, σ[i]? = some (some x) ∧ Own c H F v.o x v.d (own i)
  emp : ∀ i, (∀ v, g[i]? ≠ some (some v)) → own i = []
  nodup : ∀ i, (own i).Nodup
  disj : ∀ i j a, i ≠ j → a ∈ own i → a ∈ own j → False
  sep : ∀ i a, a ∈ own i → ¬ F a ∧ ∃ sh, H a = some (shO a sh)
  frz : ∀ a, F a → ∃ o, H a = some o
  pin : ∀ p ∈ pz, σ[p.1]? = some (some p.2)

structure Step (F : Fz) (H : Hp) (own : Ow) (F' : Fz) (H' : Hp) (own' : Ow) : Prop where
  fr : ∀ a, F a → F' a
  keep : ∀ a o, H a = some o → (∀ i, a ∉ own i) → H' a = some o
  new : ∀ a, F' a → F a ∨ (∃ i, a ∈ own i) ∨ H a = none
  own : ∀ i a, a ∈ own' i → (∃ j, a ∈ own j) ∨ H a = none
  tr : ∀ a o, H a = some o → ∃ o', H' a = some o'

theorem Step.refl {F : Fz} {H : Hp} {own : Ow} : Step F H own F H own := ⟨fun _ h => h, fun _ _ h _ => h, fun _ h => .inl h, fun i _ h => .inl ⟨i, h⟩, fun _ o h => ⟨o, h⟩⟩
theorem Step.trans {F : Fz} {H : Hp} {own : Ow} {F1 : Fz} {H1 : Hp} {own1 : Ow} {F2 : Fz} {H2 : Hp} {own2 : Ow} (a : Step F H own F1 H1 own1) (b : Step F1 H1 own1 F2 H2 own2) : Step F H own F2 H2 own2 where
  fr := fun x h => b.fr x (a.fr x h)
  keep := fun x o h n => b.keep x o (a.keep x o h n) fun i hi => by
    rcases a.own i x hi with ⟨j, hj⟩ | z
    · exact n j hj
    · rw [h] at z; cases z
  new := fun x h => by
    have back : H1 x = none → H x = none := fun z => by
      cases q : H x with
      | none => rfl
      | some o => obtain ⟨o', e⟩ := a.tr x o q; rw [z] at e; cases e
    rcases b.new x h with h | ⟨i, h⟩ | h
    · exact a.new x h
    · rcases a.own i x h with h | h
      · exact .inr (.inl h)
      · exact .inr (.inr h)
    · exact .inr (.inr (back h))
  own := fun i x h => by
    rcases b.own i x h with ⟨j, h⟩ | h
    · exact a.own j x h
    · right
      cases q : H x with
      | none => rfl
      | some o => obtain ⟨o', e⟩ := a.tr x o q; rw [h] at e; cases e
  tr := fun x o h => let ⟨_, e⟩ := a.tr x o h; b.tr x _ e

theorem sh_tup {a : Addr} {sh : Sh} {xs : List V} (h : shO a sh = .tup xs) : False := by cases sh <;> cases h
theorem sh_frz {a : Addr} {sh : Sh} {o : Obj} {u : HO} (h : shO a sh = .frz o u) : False := by cases sh <;> cases h

section
variable {c : Cn} {n : Nat} {pz : List (Nat × V)} {F F' : Fz} {H H' : Hp} {σ : St} {g : Env} {own own' : Ow}
theorem G.noTup (I : G c n pz F H σ g own) {a : Addr} {o : HO} (h : H a = some o) (ht : ∀ sh, shO a sh ≠ o) : ∀ i, a ∉ own i := fun i hi => by
  obtain ⟨_, sh, e⟩ := I.sep i a hi
  rw [h] at e; cases e
  exact ht sh rfl
theorem Step.keeps (I : G c n pz F H σ g own) (s : Step F H own F' H' own') : Keep (c := c) F F' H H' where
  fr := s.fr
  tup := fun a vs h => by
    rcases h with (h | ⟨o, h⟩) | h
    · exact .inl (.inl (s.keep a _ h (I.noTup h fun sh e => sh_tup e)))
    · exact .inl (.inr ⟨o, s.keep a _ h (I.noTup h fun sh e => sh_frz e)⟩)
    · exact .inr h
  frz := fun a o f h => s.keep a o h fun i hi => (I.sep i a hi).1 f
end

/-- how an exception lies -/
structure ExK where
  cls : Nat → Option Addr
def ExR (k : Nat → Option Addr) (e : Exc) (cls : Value) (d : Option Addr) (H : Hp) : Prop :=
  ∃ C, k e.c = some C ∧ cls = .ref C ∧ ((e.c < 2 ∧ d = none) ∨ (2 ≤ e.c ∧ ∃ dd, d = some dd ∧ H dd = some (.xd [(("word" : Str), .str e.w)])))

structure Par where
  fns : Fns
  cls : Nat → Option Addr
  pz : List (Nat × V)
  W : WX
abbrev cn (X : Cx) (P : Par) : Cn := ⟨X.K, X.w, P.fns⟩
abbrev GX (X : Cx) (P : Par) (F : Fz) (H : Hp) (σ : St) (g : Env) (own : Ow) : Prop := G (cn X P) X.N.length P.pz F H σ g own

/-- the new owner's places -/
structure Frsh (F0 : Fz) (H0 : Hp) (own0 : Ow) (F : Fz) (H : Hp) (own : Ow) (L : List Addr) : Prop where
  nd : L.Nodup
  sep : ∀ a ∈ L, ¬ F a ∧ (∀ i, a ∉ own i) ∧ (∃ sh, H a = some (shO a sh)) ∧ ((∃ i, a ∈ own0 i) ∨ H0 a = none)

def PostX (X : Cx) (P : Par) (F0 : Fz) (H0 : Hp) (own0 : Ow) (σ : St) (e : Exc) (g : Env) : Prop :=
  ∀ F' H' own' cls d, Step F0 H0 own0 F' H' own' → GX X P F' H' σ g own' → ExR P.cls e cls d H' → P.W cls d σ H'
def PostK (X : Cx) (P : Par) (F0 : Fz) (H0 : Hp) (own0 : Ow) (σ : St) (k : Val → Env → Prop) : Out → Prop
  | .ok v g => k v g
  | .exc e g => PostX X P F0 H0 own0 σ e g
  | .bad => False
def End (X : Cx) (P : Par) (F0 : Fz) (H0 : Hp) (own0 : Ow) (σ : St) (Q : VK) (v : Val) (g : Env) : Prop :=
  ∀ F' H' own' x L, Step F0 H0 own0 F' H' own' → GX X P F' H' σ g own' → Own (cn X P) H' F' v.o x v.d L → Frsh F0 H0 own0 F' H' own' L → Q x H'
def tE (X : Cx) (P : Par) (f : Ex) : TE := fun σ H Q => ∃ F g own, GX X P F H σ g own ∧ PostK X P F H own σ (End X P F H own σ Q) (f g)

structure SE (X : Cx) (P : Par) (e : Expr) (f : Ex) : Prop where
  pe : PE X e (tE X P f)
theorem pe_imp {X : Cx} {e : Expr} {t t' : TE} (h : PE X e t) (i : ∀ σ H Q, t' σ H Q → t σ H Q) : PE X e t' := ⟨fun pins s σ H Q I q => h.run pins s σ H Q I (i σ H Q q)⟩

structure Tmp where
  x : V
  v : Val
  L : List Addr
structure MidAt (X : Cx) (P : Par) (σ : St) (ts : List Tmp) (H1 : Hp) (F0 : Fz) (H0 : Hp) (own0 : Ow) (F1 : Fz) (g1 : Env) (own1 : Ow) : Prop where
  g : GX X P F1 H1 σ g1 own1
  st : Step F0 H0 own0 F1 H1 own1
  own : ∀ t ∈ ts, Own (cn X P) H1 F1 t.v.o t.x t.v.d t.L
  nd : (ts.flatMap (·.L)).Nodup
  sep : ∀ t ∈ ts, ∀ a ∈ t.L, ¬ F1 a ∧ (∀ i, a ∉ own1 i) ∧ (∃ sh, H1 a = some (shO a sh)) ∧ ((∃ i, a ∈ own0 i) ∨ H0 a = none)
abbrev Bk := Fz → Hp → Ow → Env → Prop
def Mid (X : Cx) (P : Par) (σ : St) (ts : List Tmp) (B : Bk) (H1 : Hp) : Prop := ∃ F0 H0 own0 F1 g1 own1, MidAt X P σ ts H1 F0 H0 own0 F1 g1 own1 ∧ B F0 H0 own0 g1

section
variable {X : Cx} {P : Par} {σ : St} {H : Hp} {Q : VK} {ts : List Tmp} {f : Ex}
theorem mid_start {F : Fz} {g : Env} {own : Ow} {B : Bk} (I : GX X P F H σ g own) (h : B F H own g) : Mid X P σ [] B H :=
  ⟨F, H, own, F, g, own, ⟨I, .refl, (fun t ht => nomatch ht), List.nodup_nil, (fun t ht => nomatch ht)⟩, h⟩
theorem mid_of (h : tE X P f σ H Q) : Mid X P σ [] (fun F0 H0 own0 g => PostK X P F0 H0 own0 σ (End X P F0 H0 own0 σ Q) (f g)) H :=
  let ⟨_, _, _, I, q⟩ := h
  mid_start I q
/-- an expression is come to -/
theorem mid_eval {k : Fz → Hp → Ow → Val → Env → Prop} (h : Mid X P σ ts (fun F0 H0 own0 g => PostK X P F0 H0 own0 σ (k F0 H0 own0) (f g)) H) :
    tE X P f σ H fun x H1 => ∃ v L, Mid X P σ (⟨x, v, L⟩ :: ts) (fun F0 H0 own0 g => k F0 H0 own0 v g) H1 := by
  obtain ⟨F0, H0, own0, F1, g1, own1, m, q⟩ := h
  refine ⟨F1, g1, own1, m.g, ?_⟩
  cases e : f g1 with
  | bad => rw [e] at q; exact q
  | exc x g =>
    rw [e] at q
    exact fun F' H' own' cls d s => q F' H' own' cls d (m.st.trans s)
  | ok v g =>
    rw [e] at q
    intro F' H' own' x L s I o fr
    have kp := s.keeps m.g
    have kL : ∀ t ∈ ts, ∀ a ∈ t.L, ∀ ob, H a = some ob → H' a = some ob := fun t ht a ha ob e => s.keep a ob e (m.sep t ht a ha).2.1
    have ap : ∀ t ∈ ts, ∀ a ∈ t.L, a ∉ L := fun t ht a ha hl => by
      obtain ⟨_, h2, ⟨sh, h3⟩, _⟩ := m.sep t ht a ha
      rcases (fr.sep a hl).2.2.2 with ⟨i, z⟩ | z
      · exact h2 i z
      · rw [h3] at z; cases z
    refine ⟨v, L, F0, H0, own0, F', g, own', ⟨I, m.st.trans s, fun t ht => ?_, ?_, fun t ht a ha => ?_⟩, q⟩
    · rcases List.mem_cons.mp ht with rfl | ht
      · exact o
      · exact (m.own t ht).keep kp (kL t ht)
    · rw [List.flatMap_cons, List.nodup_append]
      refine ⟨fr.nd, m.nd, fun a ha b hb e => ?_⟩
      obtain ⟨t, ht, hb⟩ := List.mem_flatMap.mp hb
      subst e
      exact ap t ht _ hb ha
    · rcases List.mem_cons.mp ht with rfl | ht
      · obtain ⟨h1, h2, h3, h4⟩ := fr.sep a ha
        refine ⟨h1, h2, h3, ?_⟩
        rcases h4 with ⟨i, z⟩ | z
        · exact m.st.own i a z
        · right
          cases q : H0 a with
          | none => rfl
          | some ob => obtain ⟨o', e'⟩ := m.st.tr a ob q; rw [z] at e'; cases e'
      · obtain ⟨h1, h2, ⟨sh, h3⟩, h4⟩ := m.sep t ht a ha
        refine ⟨fun z => ?_, fun i z => ?_, ⟨sh, kL t ht a ha _ h3⟩, h4⟩
        · rcases s.new a z with z | ⟨i, z⟩ | z
          · exact h1 z
          · exact h2 i z
          · rw [h3] at z; cases z
        · rcases s.own i a z with ⟨j, z⟩ | z
          · exact h2 j z
          · rw [h3] at z; cases z
/-- the end -/
theorem mid_done {t : Tmp} (h : Mid X P σ [t] (fun F0 H0 own0 g => PostK X P F0 H0 own0 σ (End X P F0 H0 own0 σ Q) (.ok t.v g)) H) : Q t.x H := by
  obtain ⟨F0, H0, own0, F1, g1, own1, m, q⟩ := h
  have hm : t ∈ [t] := List.mem_singleton.mpr rfl
  refine q F1 H own1 t.x t.L m.st m.g (m.own t hm) ⟨?_, m.sep t hm⟩
  have := m.nd
  simpa using this
/-- a temporary is frozen -/
theorem mid_freeze {t : Tmp} {B : Bk} (h : Mid X P σ (t :: ts) B H) : Mid X P σ (⟨t.x, ⟨t.v.d, 0⟩, []⟩ :: ts) B H := by
  obtain ⟨F0, H0, own0, F1, g1, own1, m, q⟩ := h
  have h0 : t ∈ t :: ts := List.mem_cons_self
  have up : ∀ a, F1 a → (F1 a ∨ a ∈ t.L) := fun a h => .inl h
  have nd := m.nd
  rw [List.flatMap_cons, List.nodup_append] at nd
  have ap : ∀ u ∈ ts, ∀ a ∈ u.L, a ∉ t.L := fun u hu a ha z => nd.2.2 a z a (List.mem_flatMap.mpr ⟨u, hu, ha⟩) rfl
  refine ⟨F0, H0, own0, fun a => F1 a ∨ a ∈ t.L, g1, own1, ⟨?_, ?_, fun u hu => ?_, by simpa using nd.2.1, fun u hu a ha => ?_⟩, q⟩
  · refine ⟨m.g.len, m.g.slen, fun i v e => ?_, m.g.emp, m.g.nodup, m.g.disj, fun i a ha => ⟨fun z => ?_, (m.g.sep i a ha).2⟩, fun a z => ?_, m.g.pin⟩
    · obtain ⟨x, e1, o⟩ := m.g.slot i v e
      exact ⟨x, e1, o.keep (.more up) fun _ _ _ z => z⟩
    · rcases z with z | z
      · exact (m.g.sep i a ha).1 z
      · exact (m.sep t h0 a z).2.1 i ha
    · rcases z with z | z
      · exact m.g.frz a z
      · obtain ⟨sh, e⟩ := (m.sep t h0 a z).2.2.1
        exact ⟨_, e⟩
  · refine ⟨fun a z => .inl (m.st.fr a z), m.st.keep, fun a z => ?_, m.st.own, m.st.tr⟩
    rcases z with z | z
    · exact m.st.new a z
    · exact .inr (m.sep t h0 a z).2.2.2
  · rcases List.mem_cons.mp hu with rfl | hu
    · exact .of ((m.own t h0).freeze up fun a ha => .inr ha)
    · exact (m.own u (List.mem_cons_of_mem _ hu)).keep (.more up) fun _ _ _ z => z
  · rcases List.mem_cons.mp hu with rfl | hu
    · cases ha
    · obtain ⟨h1, h2⟩ := m.sep u (List.mem_cons_of_mem _ hu) a ha
      refine ⟨fun z => ?_, h2⟩
      rcases z with z | z
      · exact h1 z
      · exact ap u hu a ha z
end
end PL

/-! PL3: operands, operations by data, names, constants, and | or | not | if. -/
namespace PL
open PySem PySem.Spec L2

/-- nothing that stands changes -/
abbrev Grow (H H' : Hp) : Prop := ∀ a o, H a = some o → H' a = some o
theorem Grow.refl {H : Hp} : Grow H H := fun _ _ h => h
theorem Grow.upd {H : Hp} {a : Addr} {o : HO} (h : H a = none) : Grow H (L2.upd H a o) := fun b u e => by
  rw [upd_ne (ne_of_none e h)]; exact e
section
variable {c : Cn} {n : Nat} {pz : List (Nat × V)} {F : Fz} {H H' H'' : Hp} {σ : St} {g : Env} {own : Ow}
theorem Grow.trans (a : Grow H H') (b : Grow H' H'') : Grow H H'' := fun x o h => b x o (a x o h)
theorem Grow.sqT (k : Grow H H') {K : PySem.W.Frag} {a : Addr} {vs : List V} (h : SqT K H a vs) : SqT K H' a vs := by
  rcases h with (h | ⟨o, h⟩) | h
  · exact .inl (.inl (k _ _ h))
  · exact .inl (.inr ⟨o, k _ _ h⟩)
  · exact .inr h
theorem Grow.keep (k : Grow H H') : Keep (c := c) F F H H' := ⟨fun _ h => h, fun _ _ h => k.sqT h, fun a o _ h => k a o h⟩
theorem Grow.step (k : Grow H H') : Step F H own F H' own := ⟨fun _ h => h, fun a o h _ => k a o h, fun _ h => .inl h, fun i _ h => .inl ⟨i, h⟩, fun a o h => ⟨o, k a o h⟩⟩
theorem G.grow (I : G c n pz F H σ g own) (k : Grow H H') : G c n pz F H' σ g own where
  len := I.len
  slen := I.slen
  slot := fun i v e => let ⟨x, h, o⟩ := I.slot i v e; ⟨x, h, o.keep k.keep fun a _ ob e => k a ob e⟩
  emp := I.emp
  nodup := I.nodup
  disj := I.disj
  sep := fun i a h => let ⟨h1, sh, h2⟩ := I.sep i a h; ⟨h1, sh, k _ _ h2⟩
  frz := fun a h => let ⟨o, e⟩ := I.frz a h; ⟨o, k a o e⟩
  pin := I.pin
end

/-- a value's top may be somebody's own; what is in it is frozen -/
inductive Rt (c : Cn) (H : Hp) (F : Fz) : V → D → Prop
  | of {v : V} {d : D} : Rp c H F v d → Rt c H F v d
  | lst {a : Addr} {vs : List V} {ds : List D} : H a = some (.lst vs) → RpA c H F vs ds → Rt c H F (.ref a) (.lst ds)
  | dct {a : Addr} {es : List DictEntry} {kvs : List (D × D)} : H a = some (shO a (.dct es)) → RpE c H F es kvs → Rt c H F (.ref a) (.dct kvs)
inductive RtA (c : Cn) (H : Hp) (F : Fz) : List V → List D → Prop
  | nil : RtA c H F [] []
  | cons {v : V} {vs : List V} {d : D} {ds : List D} : Rt c H F v d → RtA c H F vs ds → RtA c H F (v :: vs) (d :: ds)

/-- what an operation by data may end in -/
def Ends2 (c : Cn) (F : Fz) (H : Hp) (v : Val) (Q : VK) : Prop :=
  ∀ H' z L, Grow H H' → Own c H' F v.o z v.d L → L.Nodup → (∀ a ∈ L, H a = none ∧ ∃ sh, H' a = some (shO a sh)) → Q z H'
abbrev Trk (F : Fz) (H : Hp) : Prop := ∀ a, F a → ∃ o, H a = some o
theorem Own.rt {c : Cn} {H : Hp} {F : Fz} {n : Nat} {x : V} {d : D} {L : List Addr} (o : Own c H F n x d L) (h : n ≤ 1) : Rt c H F x d := by
  cases o with
  | frz _ r => exact .of r
  | @lst m a vs ds L e r =>
    have z : m = 0 := by omega
    subst z
    exact .lst e r.zero.1
  | @dct m a es kvs L e r =>
    have z : m = 0 := by omega
    subst z
    exact .dct e r.zero.1
/-- an operation o on data, as a rule by values -/
def rD2 (c : Cn) (o : D → D → Option Val) : R2 := fun x y H Q => ∃ F d e v, Trk F H ∧ Rt c H F x d ∧ Rt c H F y e ∧ o d e = some v ∧ Ends2 c F H v Q
def rD1 (c : Cn) (o : D → Option Val) : V → Hp → VK → Prop := fun x H Q => ∃ F d v, Trk F H ∧ Rt c H F x d ∧ o d = some v ∧ Ends2 c F H v Q
def rDn (c : Cn) (o : List D → Option Val) : List V → Hp → VK → Prop := fun xs H Q => ∃ F ds v, Trk F H ∧ RtA c H F xs ds ∧ o ds = some v ∧ Ends2 c F H v Q
/-- ends without a new thing -/
theorem Ends2.val {c : Cn} {F : Fz} {H : Hp} {d : D} {Q : VK} {z : V} {n : Nat} (h : Ends2 c F H ⟨d, n⟩ Q) (hm : n = 0 ∨ isMut d = false) (r : Rp c H F z d) : Q z H :=
  h H z [] .refl (.frz hm r) List.nodup_nil (fun _ ha => nomatch ha)
/-- a new tuple -/
theorem Ends2.tup {c : Cn} {F : Fz} {H : Hp} {ds : List D} {vs : List V} {Q : VK} {p : Addr} {n : Nat} (h : Ends2 c F H ⟨.tup ds, n⟩ Q) (hp : H p = none) (r : RpA c H F vs ds) : Q (.ref p) (upd H p (.tup vs)) :=
  h _ _ [] (.upd hp) (.frz (.inr rfl) (.tup (.of upd_same) (r.keep (Grow.upd hp).keep))) List.nodup_nil (fun _ ha => nomatch ha)
/-- a new list -/
theorem Ends2.lst {c : Cn} {F : Fz} {H : Hp} {ds : List D} {vs : List V} {Q : VK} {p : Addr} (h : Ends2 c F H ⟨.lst ds, 1⟩ Q) (hp : H p = none) (r : RpA c H F vs ds) : Q (.ref p) (upd H p (.lst vs)) :=
  h _ _ [p] (.upd hp) (.lst upd_same (.of (r.keep (Grow.upd hp).keep))) (by simp) fun a ha => by
    have e : a = p := by simpa using ha
    subst e
    exact ⟨hp, .lst vs, upd_same⟩

/-! ### operands -/
inductive Opd where
  | ex (f : Ex)
  | pk (i : Nat)
def slot1 (i : Nat) (g : Env) : Option D := match g[i]? with
  | some (some v) => if v.o ≤ 1 then some v.d else none
  | _ => none
def bindO (o : Out) (k : Val → Env → Out) : Out := match o with
  | .ok v g => k v g
  | .exc e g => .exc e g
  | .bad => .bad
abbrev Rs := Env → Option D
def Opd.go (a : Opd) (k : Rs → Env → Out) (g : Env) : Out := match a with
  | .ex f => bindO (f g) fun v g1 => k (fun _ => some v.d) g1
  | .pk i => match g[i]? with
    | some (some _) => k (slot1 i) g
    | _ => .bad
def tO (X : Cx) (P : Par) : Opd → TE
  | .ex f => tE X P f
  | .pk i => tVar i
structure SO (X : Cx) (P : Par) (e : Expr) (a : Opd) : Prop where
  pe : PE X e (tO X P a)
theorem so_ex {X : Cx} {P : Par} {e : Expr} {f : Ex} (h : SE X P e f) : SO X P e (.ex f) := ⟨h.pe⟩
theorem so_pk {X : Cx} {P : Par} {i : Nat} {x : Str} {pos : Pos} (hN : X.N[i]? = some x) (hv : Vis X.env.scope x) (hd : (x == ("__debug__" : Str)) = false := by decide) (hcd : (x == ("__classdict__" : Str)) = false := by decide) : SO X P (.Name x pos) (.pk i) := ⟨pe_var hN hv hd hcd⟩

section
variable {X : Cx} {P : Par} {σ : St} {H : Hp} {Q : VK} {ts : List Tmp} {f : Ex}
theorem tE_mono {Q' : VK} (h : tE X P f σ H Q) (i : ∀ x H, Q x H → Q' x H) : tE X P f σ H Q' := by
  obtain ⟨F, g, own, I, q⟩ := h
  refine ⟨F, g, own, I, ?_⟩
  cases e : f g with
  | bad => rw [e] at q; exact q
  | exc x g => rw [e] at q; exact q
  | ok v g => rw [e] at q; exact fun F' H' own' x L a b c d => i _ _ (q F' H' own' x L a b c d)
theorem tO_mono {a : Opd} {Q' : VK} (h : tO X P a σ H Q) (i : ∀ x H, Q x H → Q' x H) : tO X P a σ H Q' := by
  cases a with
  | ex f => exact tE_mono h i
  | pk j => obtain ⟨v, e, q⟩ := h; exact ⟨v, e, i _ _ q⟩
theorem postK_bind {F0 : Fz} {H0 : Hp} {own0 : Ow} {k : Val → Env → Prop} {o : Out} {r : Val → Env → Out} : PostK X P F0 H0 own0 σ k (bindO o r) = PostK X P F0 H0 own0 σ (fun v g => PostK X P F0 H0 own0 σ k (r v g)) o := by
  cases o <;> rfl
/-- the value x is read off by r -/
def RO (σ : St) (ts : List Tmp) (x : V) (r : Rs) : Prop := (∃ d, (⟨x, ⟨d, 0⟩, []⟩ : Tmp) ∈ ts ∧ r = fun _ => some d) ∨ ∃ i, σ[i]? = some (some x) ∧ r = slot1 i
theorem RO.more {t : Tmp} {x : V} {r : Rs} (h : RO σ ts x r) : RO σ (t :: ts) x r := by
  rcases h with ⟨d, h, e⟩ | h
  · exact .inl ⟨d, List.mem_cons_of_mem _ h, e⟩
  · exact .inr h
theorem RO.rt {x : V} {r : Rs} {d : D} {F0 : Fz} {H0 : Hp} {own0 : Ow} {F1 : Fz} {g1 : Env} {own1 : Ow} (h : RO σ ts x r) (m : MidAt X P σ ts H F0 H0 own0 F1 g1 own1) (e : r g1 = some d) : Rt (cn X P) H F1 x d := by
  rcases h with ⟨d', h, rfl⟩ | ⟨i, h, rfl⟩
  · cases e
    exact .of (m.own _ h).zero.1
  · unfold slot1 at e
    split at e
    · rename_i v hv
      split at e
      · rename_i hle
        cases e
        obtain ⟨x', e1, o⟩ := m.g.slot i v hv
        rw [h] at e1; cases e1
        exact o.rt hle
      · cases e
    · cases e
theorem mid_imp {B B' : Bk} (h : Mid X P σ ts B H) (i : ∀ F0 H0 own0 g, B F0 H0 own0 g → B' F0 H0 own0 g) : Mid X P σ ts B' H :=
  let ⟨F0, H0, own0, F1, g1, own1, m, q⟩ := h
  ⟨F0, H0, own0, F1, g1, own1, m, i _ _ _ _ q⟩
/-- an operand is come to -/
theorem mid_opd {a : Opd} {k : Fz → Hp → Ow → Val → Env → Prop} {r : Rs → Env → Out} (h : Mid X P σ ts (fun F0 H0 own0 g => PostK X P F0 H0 own0 σ (k F0 H0 own0) (a.go r g)) H) :
    tO X P a σ H fun x H1 => ∃ ts' r', RO σ ts' x r' ∧ (∀ y s, RO σ ts y s → RO σ ts' y s) ∧ Mid X P σ ts' (fun F0 H0 own0 g => PostK X P F0 H0 own0 σ (k F0 H0 own0) (r r' g)) H1 := by
  cases a with
  | pk i =>
    obtain ⟨F0, H0, own0, F1, g1, own1, m, q⟩ := h
    have q' : PostK X P F0 H0 own0 σ (k F0 H0 own0) (match g1[i]? with
      | some (some _) => r (slot1 i) g1
      | _ => .bad) := q
    split at q'
    · rename_i v hv
      obtain ⟨x, hx, _⟩ := m.g.slot i v hv
      exact ⟨x, hx, ts, slot1 i, .inr ⟨i, hx, rfl⟩, fun _ _ z => z, F0, H0, own0, F1, g1, own1, m, q'⟩
    · exact False.elim q'
  | ex f =>
    have h' := mid_imp (B' := fun F0 H0 own0 g => PostK X P F0 H0 own0 σ (fun v g1 => PostK X P F0 H0 own0 σ (k F0 H0 own0) (r (fun _ => some v.d) g1)) (f g)) h fun F0 H0 own0 g q => by
      have q' : PostK X P F0 H0 own0 σ (k F0 H0 own0) (bindO (f g) fun v g1 => r (fun _ => some v.d) g1) := q
      rw [postK_bind] at q'
      exact q'
    refine tE_mono (mid_eval h') fun x H1 ⟨v, L, mm⟩ => ?_
    exact ⟨_, _, .inl ⟨v.d, List.mem_cons_self, rfl⟩, fun y s z => z.more, mid_freeze mm⟩
end
end PL

/-! PL4: the combinators of expressions. -/
namespace PL
open PySem PySem.Spec L2

section
variable {X : Cx} {P : Par} {σ : St} {H : Hp} {Q : VK} {ts : List Tmp}
/-- the end of an operation by data -/
theorem mid_end2 {v : Val} {F0 : Fz} {H0 : Hp} {own0 : Ow} {F1 : Fz} {g1 : Env} {own1 : Ow} (m : MidAt X P σ ts H F0 H0 own0 F1 g1 own1) (q : End X P F0 H0 own0 σ Q v g1) : Ends2 (cn X P) F1 H v Q := by
  intro H' z L k o nd sep
  refine q F1 H' own1 z L (m.st.trans k.step) (m.g.grow k) o ⟨nd, fun a ha => ?_⟩
  obtain ⟨h1, h2⟩ := sep a ha
  refine ⟨fun f => ?_, fun i hi => ?_, h2, .inr ?_⟩
  · obtain ⟨u, e⟩ := m.g.frz a f
    rw [h1] at e; cases e
  · obtain ⟨_, sh, e⟩ := m.g.sep i a hi
    rw [h1] at e; cases e
  · cases e : H0 a with
    | none => rfl
    | some u => obtain ⟨u', e'⟩ := m.st.tr a u e; rw [h1] at e'; cases e'

/-! ### two operands -/
def fin2 (o : D → D → Option Val) (a b : Option D) (g : Env) : Out := match a, b with
  | some d, some e => match o d e with
    | some v => .ok v g
    | none => .bad
  | _, _ => .bad
def e2 (o : D → D → Option Val) (a b : Opd) : Ex := fun g => a.go (fun ra g1 => b.go (fun rb g2 => fin2 o (ra g2) (rb g2) g2) g1) g
theorem fin2_end {o : D → D → Option Val} {x y : V} {ra rb : Rs} {k : Fz → Hp → Ow → Val → Env → Prop} (hx : RO σ ts x ra) (hy : RO σ ts y rb)
    (h : Mid X P σ ts (fun F0 H0 own0 g => PostK X P F0 H0 own0 σ (k F0 H0 own0) (fin2 o (ra g) (rb g) g)) H) :
    ∃ d e v F0 H0 own0 F1 g1 own1, MidAt X P σ ts H F0 H0 own0 F1 g1 own1 ∧ Rt (cn X P) H F1 x d ∧ Rt (cn X P) H F1 y e ∧ o d e = some v ∧ k F0 H0 own0 v g1 := by
  obtain ⟨F0, H0, own0, F1, g1, own1, m, q⟩ := h
  cases e1 : ra g1 with
  | none => rw [e1] at q; exact False.elim q
  | some d =>
    cases e2 : rb g1 with
    | none => rw [e1, e2] at q; exact False.elim q
    | some e =>
      rw [e1, e2] at q
      simp only [fin2] at q
      cases e3 : o d e with
      | none => rw [e3] at q; exact False.elim q
      | some v => rw [e3] at q; exact ⟨d, e, v, F0, H0, own0, F1, g1, own1, m, hx.rt m e1, hy.rt m e2, e3, q⟩
theorem core2 {o : D → D → Option Val} {a b : Opd} (h : tE X P (e2 o a b) σ H Q) : tOp (rD2 (cn X P) o) (tO X P a) (tO X P b) σ H Q := by
  refine tO_mono (mid_opd (mid_of h)) fun x H1 ⟨ts1, ra, hx, _, m1⟩ => ?_
  refine tO_mono (mid_opd m1) fun y H2 ⟨ts2, rb, hy, up, m2⟩ => ?_
  obtain ⟨d, e, v, F0, H0, own0, F1, g1, own1, m, r1, r2, e3, q⟩ := fin2_end (up _ _ hx) hy m2
  exact ⟨F1, d, e, v, m.g.frz, r1, r2, e3, mid_end2 m q⟩
variable {ea eb ec : Expr} {a b : Opd} {pos : Pos} {o o' : D → D → Option Val}
theorem s_bin {op : Operator} (ho : OpR X (binaryOp op) (rD2 (cn X P) o)) (ha : SO X P ea a) (hb : SO X P eb b) : SE X P (.BinOp ea op eb pos) (e2 o a b) := ⟨pe_imp (pe_op ho ha.pe hb.pe) fun _ _ _ h => core2 h⟩
theorem s_cmp {op : CmpOp} (ho : OpR X (compareOp op) (rD2 (cn X P) o)) (ha : SO X P ea a) (hb : SO X P eb b) (hm : behindInMarks op eb = false) : SE X P (.Compare ea [op] [eb] pos) (e2 o a b) :=
  ⟨pe_imp (pe_cmpR ho ha.pe hb.pe hm) fun _ _ _ h => core2 h⟩
theorem s_ix (ho : IxR X (rD2 (cn X P) o)) (ha : SO X P ea a) (hb : SO X P eb b) (hs : PlainIx eb) : SE X P (.Subscript ea eb pos) (e2 o a b) := ⟨pe_imp (pe_ix ho ha.pe hb.pe hs) fun _ _ _ h => core2 h⟩

/-! ### tests -/
structure ST (X : Cx) (P : Par) (e : Expr) (f : Ex) : Prop where
  pt : PT X e (tB (tE X P f))
theorem pt_imp {e : Expr} {t t' : TT} (h : PT X e t) (i : ∀ σ H Q, t' σ H Q → t σ H Q) : PT X e t' := ⟨fun pins s σ H Q I q => h.run pins s σ H Q I (i σ H Q q)⟩
theorem st_val {e : Expr} {f : Ex} (h : SE X P e f) (he : ∀ whole, isTrue e X.env whole = (do let v ← whole; standAt e.pos; holding [v] (truthy v)) := by intro _; rfl) : ST X P e f := ⟨pt_val h.pe he⟩
theorem st_cmp {op : CmpOp} (ho : OpR X (compareOp op) (rD2 (cn X P) o)) (ha : SO X P ea a) (hb : SO X P eb b) (hm : behindInMarks op eb = false) : ST X P (.Compare ea [op] [eb] pos) (e2 o a b) :=
  ⟨pt_imp (pt_cmpR ho ha.pe hb.pe hm) fun _ _ _ h => core2 h⟩

/-! ### a chain of two comparisons -/
def asB (d : D) : Option Bool := match d with
  | .bl b => some b
  | _ => none
def e3 (o o' : D → D → Option Val) (a b c : Opd) : Ex := fun g => a.go (fun ra g1 => b.go (fun rb g2 =>
  bindO (fin2 o (ra g2) (rb g2) g2) fun v g3 => match v.d with
    | .bl true => c.go (fun rc g4 => fin2 o' (rb g4) (rc g4) g4) g3
    | .bl false => .ok ⟨.bl false, 0⟩ g3
    | _ => .bad) g1) g
theorem core3 {a b c : Opd} (h : tE X P (e3 o o' a b c) σ H Q) : tChain (rD2 (cn X P) o) (rD2 (cn X P) o') (tO X P a) (tO X P b) (tO X P c) σ H Q := by
  refine tO_mono (mid_opd (mid_of h)) fun x H1 ⟨ts1, ra, hx, _, m1⟩ => ?_
  refine tO_mono (mid_opd m1) fun y H2 ⟨ts2, rb, hy, up, m2⟩ => ?_
  have m2' := mid_imp m2 (B' := fun F0 H0 own0 g => PostK X P F0 H0 own0 σ (fun v g3 => PostK X P F0 H0 own0 σ (End X P F0 H0 own0 σ Q) (match v.d with
    | .bl true => c.go (fun rc g4 => fin2 o' (rb g4) (rc g4) g4) g3
    | .bl false => .ok ⟨.bl false, 0⟩ g3
    | _ => .bad)) (fin2 o (ra g) (rb g) g)) fun F0 H0 own0 g q => by rw [postK_bind] at q; exact q
  obtain ⟨d, e, v, F0, H0, own0, F1, g1, own1, m, r1, r2, e3, q⟩ := fin2_end (up _ _ hx) hy m2'
  refine ⟨F1, d, e, v, m.g.frz, r1, r2, e3, fun H3 z L k ow nd sep => ?_⟩
  obtain ⟨vd, vn⟩ := v
  have isb : ∀ k, vd = .bl k → z = .bl k := fun k e => by
    subst e
    cases ow with
    | frz _ r => cases r; rfl
  have hm : MidAt X P σ ts2 H3 F0 H0 own0 F1 g1 own1 := ⟨m.g.grow k, m.st.trans k.step, fun t ht => (m.own t ht).keep k.keep fun a _ ob e => k a ob e, m.nd, fun t ht a ha => by
    obtain ⟨h1, h2, ⟨sh, h3⟩, h4⟩ := m.sep t ht a ha
    exact ⟨h1, h2, ⟨sh, k _ _ h3⟩, h4⟩⟩
  simp only at q
  split at q
  · refine ⟨true, isb _ rfl, ?_⟩
    rw [if_pos rfl]
    have mm : Mid X P σ ts2 (fun F0 H0 own0 g => PostK X P F0 H0 own0 σ (End X P F0 H0 own0 σ Q) (c.go (fun rc g4 => fin2 o' (rb g4) (rc g4) g4) g)) H3 := ⟨F0, H0, own0, F1, g1, own1, hm, q⟩
    refine tO_mono (mid_opd mm) fun w' H4 ⟨ts4, rc, hw, up4, m4⟩ => ?_
    obtain ⟨d, e, v, F0, H0, own0, F1, g1, own1, m, r1, r2, e3, q⟩ := fin2_end (up4 _ _ hy) hw m4
    exact ⟨F1, d, e, v, m.g.frz, r1, r2, e3, mid_end2 m q⟩
  · refine ⟨false, isb _ rfl, ?_⟩
    rw [if_neg Bool.false_ne_true]
    exact (mid_end2 hm q).val (.inl rfl) (.bl false)
  · exact False.elim q
theorem s_chain {op op' : CmpOp} {c : Opd} (ho : OpR X (compareOp op) (rD2 (cn X P) o)) (ho' : OpR X (compareOp op') (rD2 (cn X P) o')) (ha : SO X P ea a) (hb : SO X P eb b) (hc : SO X P ec c)
    (hm : lastMarks [op, op'] [eb, ec] = false := by with_unfolding_all rfl) : SE X P (.Compare ea [op, op'] [eb, ec] pos) (e3 o o' a b c) := ⟨pe_imp (pe_chain ho ho' ha.pe hb.pe hc.pe hm) fun _ _ _ h => core3 h⟩
theorem st_chain {op op' : CmpOp} {c : Opd} (ho : OpR X (compareOp op) (rD2 (cn X P) o)) (ho' : OpR X (compareOp op') (rD2 (cn X P) o')) (ha : SO X P ea a) (hb : SO X P eb b) (hc : SO X P ec c)
    (hm : lastMarks [op, op'] [eb, ec] = false := by with_unfolding_all rfl) : ST X P (.Compare ea [op, op'] [eb, ec] pos) (e3 o o' a b c) := ⟨pt_imp (pt_chain ho ho' ha.pe hb.pe hc.pe hm) fun _ _ _ h => core3 h⟩

/-! ### one operand -/
def fin1 (o : D → Option Val) (a : Option D) (g : Env) : Out := match a with
  | some d => match o d with
    | some v => .ok v g
    | none => .bad
  | none => .bad
def e1 (o : D → Option Val) (a : Opd) : Ex := fun g => a.go (fun ra g1 => fin1 o (ra g1) g1) g
theorem fin1_end {o : D → Option Val} {x : V} {ra : Rs} {k : Fz → Hp → Ow → Val → Env → Prop} (hx : RO σ ts x ra)
    (h : Mid X P σ ts (fun F0 H0 own0 g => PostK X P F0 H0 own0 σ (k F0 H0 own0) (fin1 o (ra g) g)) H) :
    ∃ d v F0 H0 own0 F1 g1 own1, MidAt X P σ ts H F0 H0 own0 F1 g1 own1 ∧ Rt (cn X P) H F1 x d ∧ o d = some v ∧ k F0 H0 own0 v g1 := by
  obtain ⟨F0, H0, own0, F1, g1, own1, m, q⟩ := h
  cases e1 : ra g1 with
  | none => rw [e1] at q; exact False.elim q
  | some d =>
    rw [e1] at q
    simp only [fin1] at q
    cases e3 : o d with
    | none => rw [e3] at q; exact False.elim q
    | some v => rw [e3] at q; exact ⟨d, v, F0, H0, own0, F1, g1, own1, m, hx.rt m e1, e3, q⟩
theorem core1 {o : D → Option Val} {a : Opd} (h : tE X P (e1 o a) σ H Q) : tUn (rD1 (cn X P) o) (tO X P a) σ H Q := by
  refine tO_mono (mid_opd (mid_of h)) fun x H1 ⟨ts1, ra, hx, _, m1⟩ => ?_
  obtain ⟨d, v, F0, H0, own0, F1, g1, own1, m, r1, e3, q⟩ := fin1_end hx m1
  exact ⟨F1, d, v, m.g.frz, r1, e3, mid_end2 m q⟩
theorem s_un {op : UnaryOp} {o : D → Option Val} (ho : UnR X (unaryOp op) (rD1 (cn X P) o)) (ha : SO X P ea a) : SE X P (.UnaryOp op ea pos) (e1 o a) := ⟨pe_imp (pe_un ho ha.pe) fun _ _ _ h => core1 h⟩

/-! ### n operands -/
def allS : List Rs → Env → Option (List D)
  | [], _ => some []
  | r :: rs, g => match r g, allS rs g with
    | some d, some ds => some (d :: ds)
    | _, _ => none
def finN (o : List D → Option Val) (a : Option (List D)) (g : Env) : Out := match a with
  | some ds => match o ds with
    | some v => .ok v g
    | none => .bad
  | none => .bad
def goN : List Opd → (List Rs → Env → Out) → Env → Out
  | [], k, g => k [] g
  | a :: as, k, g => a.go (fun r g1 => goN as (fun rs g2 => k (r :: rs) g2) g1) g
def tOs (X : Cx) (P : Par) : List Opd → TA
  | [] => tNil
  | a :: as => tCons (tO X P a) (tOs X P as)
structure SA (X : Cx) (P : Par) (es : List Expr) (as : List Opd) : Prop where
  pa : PA X es (tOs X P as)
theorem sa_nil : SA X P [] [] := ⟨pa_nil⟩
theorem sa_cons {e : Expr} {es : List Expr} {a : Opd} {as : List Opd} (h : SO X P e a) (hs : SA X P es as) (hst : starEach (e :: es) X.env = (false, eval e X.env) :: starEach es X.env := by rfl) : SA X P (e :: es) (a :: as) := ⟨pa_cons h.pe hs.pa hst⟩
inductive ROs (σ : St) (ts : List Tmp) : List V → List Rs → Prop
  | nil : ROs σ ts [] []
  | cons {x : V} {xs : List V} {r : Rs} {rs : List Rs} : RO σ ts x r → ROs σ ts xs rs → ROs σ ts (x :: xs) (r :: rs)
theorem ROs.up {ts' : List Tmp} (u : ∀ y s, RO σ ts y s → RO σ ts' y s) : ∀ {xs : List V} {rs : List Rs}, ROs σ ts xs rs → ROs σ ts' xs rs
  | _, _, .nil => .nil
  | _, _, .cons h t => .cons (u _ _ h) (ROs.up u t)
theorem ROs.rt {F0 : Fz} {H0 : Hp} {own0 : Ow} {F1 : Fz} {g1 : Env} {own1 : Ow} (m : MidAt X P σ ts H F0 H0 own0 F1 g1 own1) : ∀ {xs : List V} {rs : List Rs} {ds : List D}, ROs σ ts xs rs → allS rs g1 = some ds → RtA (cn X P) H F1 xs ds
  | _, _, _, .nil, e => by cases e; exact .nil
  | _, _, _, .cons (r := r) (rs := rs) h t, e => by
    unfold allS at e
    cases e1 : r g1 with
    | none => rw [e1] at e; cases e
    | some d =>
      cases e2 : allS rs g1 with
      | none => rw [e1, e2] at e; cases e
      | some ds' =>
        rw [e1, e2] at e
        cases e
        exact .cons (h.rt m e1) (ROs.rt m t e2)
theorem tOs_mono : ∀ {as : List Opd} {H : Hp} {Q Q' : List V → Hp → Prop}, tOs X P as σ H Q → (∀ x H, Q x H → Q' x H) → tOs X P as σ H Q'
  | [], _, _, _, h, i => i _ _ h
  | _ :: _, _, _, _, h, i => tO_mono h fun x H1 h1 => tOs_mono h1 fun xs H2 h2 => i _ _ h2
theorem mid_opds {k : Fz → Hp → Ow → Val → Env → Prop} : ∀ {as : List Opd} {ts : List Tmp} {H : Hp} {r : List Rs → Env → Out}, Mid X P σ ts (fun F0 H0 own0 g => PostK X P F0 H0 own0 σ (k F0 H0 own0) (goN as r g)) H →
    tOs X P as σ H fun xs H1 => ∃ ts' rs, ROs σ ts' xs rs ∧ (∀ y s, RO σ ts y s → RO σ ts' y s) ∧ Mid X P σ ts' (fun F0 H0 own0 g => PostK X P F0 H0 own0 σ (k F0 H0 own0) (r rs g)) H1
  | [], ts, H, r, h => ⟨ts, [], .nil, fun _ _ z => z, h⟩
  | a :: as, ts, H, r, h => by
    refine tO_mono (mid_opd h) fun x H1 ⟨ts1, ra, hx, u1, m1⟩ => ?_
    refine tOs_mono (mid_opds m1) fun xs H2 ⟨ts2, rs, hs, u2, m2⟩ => ?_
    exact ⟨ts2, ra :: rs, .cons (u2 _ _ hx) hs, fun y s z => u2 _ _ (u1 _ _ z), m2⟩
def en (o : List D → Option Val) (as : List Opd) : Ex := fun g => goN as (fun rs g1 => finN o (allS rs g1) g1) g
theorem finN_end {o : List D → Option Val} {xs : List V} {rs : List Rs} {k : Fz → Hp → Ow → Val → Env → Prop} (hx : ROs σ ts xs rs)
    (h : Mid X P σ ts (fun F0 H0 own0 g => PostK X P F0 H0 own0 σ (k F0 H0 own0) (finN o (allS rs g) g)) H) :
    ∃ ds v F0 H0 own0 F1 g1 own1, MidAt X P σ ts H F0 H0 own0 F1 g1 own1 ∧ RtA (cn X P) H F1 xs ds ∧ o ds = some v ∧ k F0 H0 own0 v g1 := by
  obtain ⟨F0, H0, own0, F1, g1, own1, m, q⟩ := h
  cases e1 : allS rs g1 with
  | none => rw [e1] at q; exact False.elim q
  | some ds =>
    rw [e1] at q
    simp only [finN] at q
    cases e3 : o ds with
    | none => rw [e3] at q; exact False.elim q
    | some v => rw [e3] at q; exact ⟨ds, v, F0, H0, own0, F1, g1, own1, m, hx.rt m e1, e3, q⟩
theorem coreN {o : List D → Option Val} {as : List Opd} (h : tE X P (en o as) σ H Q) : tOs X P as σ H fun xs H1 => rDn (cn X P) o xs H1 Q := by
  refine tOs_mono (mid_opds (mid_of h)) fun xs H1 ⟨ts1, rs, hx, _, m1⟩ => ?_
  obtain ⟨ds, v, F0, H0, own0, F1, g1, own1, m, r1, e3, q⟩ := finN_end hx m1
  exact ⟨F1, ds, v, m.g.frz, r1, e3, mid_end2 m q⟩
theorem s_callB {x : Str} {p : Pos} {id : String} {e : Expr} {es : List Expr} {as : List Opd} {o : List D → Option Val} (hc : CallR X (.builtin id) (rDn (cn X P) o)) (hg : Gl X x) (hm : X.mg x = none) (hv : bootBuiltins x = some (.builtin id)) (ha : SA X P (e :: es) as)
    (hn : x ≠ "__name__" := by decide) (hdb : (x == ("__debug__" : Str)) = false := by decide)
    (he : starEach (e :: es) X.env = (false, eval e X.env) :: starEach es X.env := by rfl) (hpl : (backTo pos (starEach es X.env)).any (·.1) = false := by rfl) : SE X P (.Call (.Name x p) (e :: es) [] pos) (en o as) :=
  ⟨pe_imp (pe_callB hc hg hm hv ha.pa hn hdb he hpl) fun _ _ _ h => coreN h⟩
theorem s_callT {x : Str} {p : Pos} {T : String} {e : Expr} {es : List Expr} {as : List Opd} {o : List D → Option Val} (hc : CallR X (.type T) (rDn (cn X P) o)) (hg : Gl X x) (hm : X.mg x = none) (hv : bootBuiltins x = some (.type T)) (ha : SA X P (e :: es) as)
    (hn : x ≠ "__name__" := by decide) (hdb : (x == ("__debug__" : Str)) = false := by decide)
    (he : starEach (e :: es) X.env = (false, eval e X.env) :: starEach es X.env := by rfl) (hpl : (backTo pos (starEach es X.env)).any (·.1) = false := by rfl) : SE X P (.Call (.Name x p) (e :: es) [] pos) (en o as) :=
  ⟨pe_imp (pe_callTy hc hg hm hv ha.pa hn hdb he hpl) fun _ _ _ h => coreN h⟩
/-- (a, b, ..) -/
def oTup (ds : List D) : Option Val := if ds.length ≤ 16777216 then some ⟨.tup ds, 0⟩ else none
theorem RtA.length : ∀ {c : Cn} {F : Fz} {vs : List V} {ds : List D}, RtA c H F vs ds → vs.length = ds.length
  | _, _, _, _, .nil => rfl
  | _, _, _, _, .cons _ r => by simp [RtA.length r]

/-! ### names, constants -/
def eVar (i : Nat) : Ex := fun g => match g[i]? with
  | some (some v) => .ok ⟨v.d, 0⟩ (if v.o = 0 then g else g.set i (some ⟨v.d, 0⟩))
  | _ => .bad
def eC (d : D) : Ex := fun g => .ok ⟨d, 0⟩ g
theorem s_var {i : Nat} {x : Str} (hN : X.N[i]? = some x) (hv : Vis X.env.scope x) (hd : (x == ("__debug__" : Str)) = false := by decide) (hcd : (x == ("__classdict__" : Str)) = false := by decide) : SE X P (.Name x pos) (eVar i) := by
  refine ⟨pe_imp (pe_var hN hv hd hcd) fun σ H Q h => ?_⟩
  obtain ⟨F, g, own, I, q⟩ := h
  unfold eVar at q
  split at q
  · rename_i v hv
    obtain ⟨x, hx, o⟩ := I.slot i v hv
    refine ⟨x, hx, ?_⟩
    by_cases hz : v.o = 0
    · rw [if_pos hz] at q
      rw [hz] at o
      exact q F H own x [] .refl I (.of o.zero.1) ⟨List.nodup_nil, fun _ h => nomatch h⟩
    · rw [if_neg hz] at q
      -- the slot is frozen
      have hi : i < g.length := by
        have := (List.getElem?_eq_some_iff.mp hv).1
        exact this
      have up : ∀ a, F a → (F a ∨ a ∈ own i) := fun _ h => .inl h
      refine q (fun a => F a ∨ a ∈ own i) H (fun j => if j = i then [] else own j) x [] ?_ ?_ (.of (o.freeze up fun a ha => .inr ha)) ⟨List.nodup_nil, fun _ h => nomatch h⟩
      · refine ⟨up, fun a o e _ => e, fun a z => ?_, fun j a ha => ?_, fun a o e => ⟨o, e⟩⟩
        · rcases z with z | z
          · exact .inl z
          · exact .inr (.inl ⟨i, z⟩)
        · split at ha
          · cases ha
          · exact .inl ⟨j, ha⟩
      · refine ⟨by rw [List.length_set]; exact I.len, I.slen, fun j u e => ?_, fun j z => ?_, fun j => ?_, fun j k a hjk h1 h2 => ?_, fun j a ha => ?_, fun a z => ?_, I.pin⟩
        · by_cases hj : j = i
          · subst hj
            rw [List.getElem?_set_self hi] at e
            cases e
            rw [if_pos rfl]
            exact ⟨x, hx, .of (o.freeze up fun a ha => .inr ha)⟩
          · rw [List.getElem?_set_ne (Ne.symm hj)] at e
            rw [if_neg hj]
            obtain ⟨y, hy, o'⟩ := I.slot j u e
            exact ⟨y, hy, o'.keep (.more up) fun _ _ _ h => h⟩
        · by_cases hj : j = i
          · rw [if_pos hj]
          · rw [if_neg hj]
            exact I.emp j fun v e => z v (by rw [List.getElem?_set_ne (Ne.symm hj)]; exact e)
        · show (if j = i then [] else own j).Nodup
          split
          · exact List.nodup_nil
          · exact I.nodup j
        · have h1 : a ∈ (if j = i then [] else own j) := h1
          have h2 : a ∈ (if k = i then [] else own k) := h2
          split at h1
          · cases h1
          · split at h2
            · cases h2
            · exact I.disj j k a hjk h1 h2
        · have ha : a ∈ (if j = i then [] else own j) := ha
          split at ha
          · cases ha
          · rename_i hj
            obtain ⟨h1, h2⟩ := I.sep j a ha
            refine ⟨fun z => ?_, h2⟩
            rcases z with z | z
            · exact h1 z
            · exact I.disj j i a hj ha z
        · rcases z with z | z
          · exact I.frz a z
          · obtain ⟨_, sh, e⟩ := I.sep i a z
            exact ⟨_, e⟩
  · exact False.elim q
theorem s_const {e : Expr} {v : V} {d : D} (h : PE X e (tC v)) (r : ∀ H F, Rp (cn X P) H F v d) : SE X P e (eC d) := by
  refine ⟨pe_imp h fun σ H Q h => ?_⟩
  obtain ⟨F, g, own, I, q⟩ := h
  exact q F H own v [] .refl I (.of (r H F)) ⟨List.nodup_nil, fun _ h => nomatch h⟩
theorem s_int {i : Int} {j : Nat} : SE X P (.Constant (.int i) j pos) (eC (.int i)) := s_const pe_int fun _ _ => .int i
theorem s_bl {b : Bool} {j : Nat} : SE X P (.Constant (.bool b) j pos) (eC (.bl b)) := s_const pe_bl fun _ _ => .bl b
theorem s_non {j : Nat} : SE X P (.Constant .none j pos) (eC .non) := s_const pe_non fun _ _ => .non
theorem s_str {x : Str} {j : Nat} : SE X P (.Constant (.str x) j pos) (eC (.str x)) := s_const pe_str fun _ _ => .str x
theorem s_gint {x : Str} {i : Int} {t : Tok} (hg : Gl X x) (hm : X.mg x = some (.int i t)) (hd : (x == ("__debug__" : Str)) = false := by decide) : SE X P (.Name x pos) (eC (.int i)) := s_const (pe_glob (v := .int i) hg hm ⟨t, rfl⟩ hd) fun _ _ => .int i
theorem s_gfn {x : Str} {f : Nat} {a : Addr} (hg : Gl X x) (hm : X.mg x = some (.ref a)) (hf : P.fns f = some a) (hd : (x == ("__debug__" : Str)) = false := by decide) : SE X P (.Name x pos) (eC (.fn f)) := s_const (pe_glob (v := .ref a) hg hm rfl hd) fun _ _ => .fn hf

/-! ### and, or, not, if -/
def eAnd (fa fb : Ex) : Ex := fun g => bindO (fa g) fun v g1 => match v.d with
  | .bl true => fb g1
  | .bl false => .ok ⟨.bl false, 0⟩ g1
  | _ => .bad
def eOr (fa fb : Ex) : Ex := fun g => bindO (fa g) fun v g1 => match v.d with
  | .bl true => .ok ⟨.bl true, 0⟩ g1
  | .bl false => fb g1
  | _ => .bad
def eNot (fa : Ex) : Ex := fun g => bindO (fa g) fun v g1 => match v.d with
  | .bl b => .ok ⟨.bl (!b), 0⟩ g1
  | _ => .bad
def eIf (c fa fb : Ex) : Ex := fun g => bindO (c g) fun v g1 => match v.d with
  | .bl true => fa g1
  | .bl false => fb g1
  | _ => .bad
/-- a part whose value is a bool, then the rest -/
theorem mid_bool {f : Ex} {r : Bool → Env → Out} {k : Fz → Hp → Ow → Val → Env → Prop}
    (h : Mid X P σ ts (fun F0 H0 own0 g => PostK X P F0 H0 own0 σ (k F0 H0 own0) (bindO (f g) fun v g1 => match v.d with
      | .bl b => r b g1
      | _ => .bad)) H) :
    tE X P f σ H fun x H1 => ∃ b ts', x = .bl b ∧ Mid X P σ ts' (fun F0 H0 own0 g => PostK X P F0 H0 own0 σ (k F0 H0 own0) (r b g)) H1 := by
  have h' := mid_imp h (B' := fun F0 H0 own0 g => PostK X P F0 H0 own0 σ (fun v g1 => PostK X P F0 H0 own0 σ (k F0 H0 own0) (match v.d with
      | .bl b => r b g1
      | _ => .bad)) (f g)) fun F0 H0 own0 g q => by rw [postK_bind] at q; exact q
  refine tE_mono (mid_eval h') fun x H1 ⟨v, L, F0, H0, own0, F1, g1, own1, m, q⟩ => ?_
  have o := m.own _ List.mem_cons_self
  obtain ⟨vd, vn⟩ := v
  simp only at q o
  split at q
  · rename_i b
    refine ⟨b, _, ?_, F0, H0, own0, F1, g1, own1, m, q⟩
    cases o with
    | frz _ r => cases r; rfl
  · exact False.elim q
/-- going on from where one stands -/
theorem mid_go {f : Ex} {k : VK} (h : Mid X P σ ts (fun F0 H0 own0 g => PostK X P F0 H0 own0 σ (End X P F0 H0 own0 σ k) (f g)) H) : tE X P f σ H k := by
  obtain ⟨F0, H0, own0, F1, g1, own1, m, q⟩ := h
  refine ⟨F1, g1, own1, m.g, ?_⟩
  cases e : f g1 with
  | bad => rw [e] at q; exact q
  | exc x g => rw [e] at q; exact fun F' H' own' cls d s => q F' H' own' cls d (m.st.trans s)
  | ok v g =>
    rw [e] at q
    intro F' H' own' x L s I o fr
    refine q F' H' own' x L (m.st.trans s) I o ⟨fr.nd, fun a ha => ?_⟩
    obtain ⟨h1, h2, h3, h4⟩ := fr.sep a ha
    refine ⟨h1, h2, h3, ?_⟩
    rcases h4 with ⟨i, z⟩ | z
    · exact m.st.own i a z
    · right
      cases q : H0 a with
      | none => rfl
      | some ob => obtain ⟨o', e'⟩ := m.st.tr a ob q; rw [z] at e'; cases e'
/-- an end that is a bool -/
theorem mid_bl {b : Bool} (h : Mid X P σ ts (fun F0 H0 own0 g => PostK X P F0 H0 own0 σ (End X P F0 H0 own0 σ Q) (.ok ⟨.bl b, 0⟩ g)) H) : Q (.bl b) H :=
  let ⟨_, _, _, _, _, _, m, q⟩ := h
  (mid_end2 m q).val (.inl rfl) (.bl b)
variable {fa fb fc : Ex}
theorem eAnd_b {g : Env} : eAnd fa fb g = bindO (fa g) fun v g1 => match v.d with
    | .bl b => (if b then fb g1 else .ok ⟨.bl false, 0⟩ g1)
    | _ => .bad := by
  unfold eAnd
  cases fa g with
  | ok v g1 =>
    obtain ⟨vd, vn⟩ := v
    cases vd with
    | bl b => cases b <;> rfl
    | _ => rfl
  | _ => rfl
theorem eOr_b {g : Env} : eOr fa fb g = bindO (fa g) fun v g1 => match v.d with
    | .bl b => (if b then .ok ⟨.bl true, 0⟩ g1 else fb g1)
    | _ => .bad := by
  unfold eOr
  cases fa g with
  | ok v g1 =>
    obtain ⟨vd, vn⟩ := v
    cases vd with
    | bl b => cases b <;> rfl
    | _ => rfl
  | _ => rfl
theorem eIf_b {g : Env} : eIf fc fa fb g = bindO (fc g) fun v g1 => match v.d with
    | .bl b => (if b then fa g1 else fb g1)
    | _ => .bad := by
  unfold eIf
  cases fc g with
  | ok v g1 =>
    obtain ⟨vd, vn⟩ := v
    cases vd with
    | bl b => cases b <;> rfl
    | _ => rfl
  | _ => rfl
theorem core_and (h : tE X P (eAnd fa fb) σ H Q) : tE X P fa σ H fun x H1 => ∃ c, x = .bl c ∧ if c = true then tE X P fb σ H1 Q else Q (.bl false) H1 := by
  have m := mid_of h
  simp only [eAnd_b] at m
  refine tE_mono (mid_bool m) fun x H1 ⟨b, ts', e, m1⟩ => ⟨b, e, ?_⟩
  cases b with
  | true => rw [if_pos rfl]; exact mid_go (by simpa using m1)
  | false => rw [if_neg Bool.false_ne_true]; exact mid_bl (by simpa using m1)
theorem core_or (h : tE X P (eOr fa fb) σ H Q) : tE X P fa σ H fun x H1 => ∃ c, x = .bl c ∧ if c = true then Q (.bl true) H1 else tE X P fb σ H1 Q := by
  have m := mid_of h
  simp only [eOr_b] at m
  refine tE_mono (mid_bool m) fun x H1 ⟨b, ts', e, m1⟩ => ⟨b, e, ?_⟩
  cases b with
  | true => rw [if_pos rfl]; exact mid_bl (by simpa using m1)
  | false => rw [if_neg Bool.false_ne_true]; exact mid_go (by simpa using m1)
theorem core_not (h : tE X P (eNot fa) σ H Q) : tE X P fa σ H fun x H1 => ∃ c, x = .bl c ∧ Q (.bl (!c)) H1 := by
  have m := mid_of h
  unfold eNot at m
  exact tE_mono (mid_bool (r := fun b g1 => .ok ⟨.bl (!b), 0⟩ g1) m) fun x H1 ⟨b, ts', e, m1⟩ => ⟨b, e, mid_bl m1⟩
theorem core_if (h : tE X P (eIf fc fa fb) σ H Q) : tE X P fc σ H fun x H1 => ∃ c, x = .bl c ∧ if c = true then tE X P fa σ H1 Q else tE X P fb σ H1 Q := by
  have m := mid_of h
  simp only [eIf_b] at m
  refine tE_mono (mid_bool m) fun x H1 ⟨b, ts', e, m1⟩ => ⟨b, e, ?_⟩
  cases b with
  | true => rw [if_pos rfl]; exact mid_go (by simpa using m1)
  | false => rw [if_neg Bool.false_ne_true]; exact mid_go (by simpa using m1)
variable {rest : List Expr}
theorem s_one {op : BoolOp} (h : SE X P ea fa) : SE X P (.BoolOp op [ea] pos) fa := ⟨pe_one h.pe⟩
theorem s_and (ha : SE X P ea fa) (hb : SE X P (.BoolOp .And (eb :: rest) pos) fb) : SE X P (.BoolOp .And (ea :: eb :: rest) pos) (eAnd fa fb) := ⟨pe_imp (pe_and ha.pe hb.pe) fun _ _ _ h => core_and h⟩
theorem s_or (ha : SE X P ea fa) (hb : SE X P (.BoolOp .Or (eb :: rest) pos) fb) : SE X P (.BoolOp .Or (ea :: eb :: rest) pos) (eOr fa fb) := ⟨pe_imp (pe_or ha.pe hb.pe) fun _ _ _ h => core_or h⟩
theorem s_not (ha : SE X P ea fa) : SE X P (.UnaryOp .Not ea pos) (eNot fa) := ⟨pe_imp (pe_not ha.pe) fun _ _ _ h => core_not h⟩
theorem s_if (hc : ST X P ec fc) (ha : SE X P ea fa) (hb : SE X P eb fb) : SE X P (.IfExp ec ea eb pos) (eIf fc fa fb) := ⟨pe_imp (pe_ifExp hc.pt ha.pe hb.pe) fun _ _ _ h => core_if h⟩
/-- .. as tests -/
structure SW (X : Cx) (P : Par) (e : Expr) (f : Ex) : Prop where
  pw : PW X e (tB (tE X P f))
theorem pw_imp {e : Expr} {t t' : TT} (h : PW X e t) (i : ∀ σ H Q, t' σ H Q → t σ H Q) : PW X e t' := ⟨fun wh pins s σ H Q I q => h.run wh pins s σ H Q I (i σ H Q q)⟩
theorem SW.st {e : Expr} {f : Ex} (h : SW X P e f) : ST X P e f := ⟨h.pw.pt⟩
theorem sw_and1 (h : ST X P ea fa) : SW X P (.BoolOp .And [ea] pos) fa := ⟨pw_and1 h.pt⟩
theorem sw_or1 (h : ST X P ea fa) : SW X P (.BoolOp .Or [ea] pos) fa := ⟨pw_or1 h.pt⟩
theorem sw_and (ha : ST X P ea fa) (hb : SW X P (.BoolOp .And (eb :: rest) pos) fb) : SW X P (.BoolOp .And (ea :: eb :: rest) pos) (eAnd fa fb) :=
  ⟨pw_imp (pw_and ha.pt hb.pw) fun σ H Q h => tE_mono (core_and h) fun x H1 ⟨c, e, q⟩ => ⟨c, e, by
    cases c with
    | true => rw [if_pos rfl] at q ⊢; exact q
    | false => obtain ⟨c', e', q'⟩ : ∃ c', V.bl false = .bl c' ∧ Q c' H1 := by simpa using q
               cases e'; simpa using q'⟩⟩
theorem sw_or (ha : ST X P ea fa) (hb : SW X P (.BoolOp .Or (eb :: rest) pos) fb) : SW X P (.BoolOp .Or (ea :: eb :: rest) pos) (eOr fa fb) :=
  ⟨pw_imp (pw_or ha.pt hb.pw) fun σ H Q h => tE_mono (core_or h) fun x H1 ⟨c, e, q⟩ => ⟨c, e, by
    cases c with
    | false => rw [if_neg Bool.false_ne_true] at q ⊢; exact q
    | true => obtain ⟨c', e', q'⟩ : ∃ c', V.bl true = .bl c' ∧ Q c' H1 := by simpa using q
              cases e'; simpa using q'⟩⟩
theorem st_not (ha : ST X P ea fa) : ST X P (.UnaryOp .Not ea pos) (eNot fa) :=
  ⟨pt_imp (pt_not ha.pt) fun σ H Q h => tE_mono (core_not h) fun x H1 ⟨c, e, c', e', q⟩ => ⟨c, e, by cases e'; exact q⟩⟩
end
end PL

/-! PL5: statements, targets, what a loop walks, for, while. -/
namespace PL
open PySem PySem.Spec L2

def PostS (X : Cx) (P : Par) (F0 : Fz) (H0 : Hp) (own0 : Ow) (D : Ends) : SOut → Prop
  | .nx g => ∀ F' H' own' σ', Step F0 H0 own0 F' H' own' → GX X P F' H' σ' g own' → D.nx σ' H'
  | .brk g => ∀ F' H' own' σ', Step F0 H0 own0 F' H' own' → GX X P F' H' σ' g own' → D.bk σ' H'
  | .ct g => ∀ F' H' own' σ', Step F0 H0 own0 F' H' own' → GX X P F' H' σ' g own' → D.ct σ' H'
  | .ret v g => ∀ F' H' own' σ' x L, Step F0 H0 own0 F' H' own' → GX X P F' H' σ' g own' → Own (cn X P) H' F' v.o x v.d L → Frsh F0 H0 own0 F' H' own' L → D.rt x H'
  | .exc e g => ∀ F' H' own' σ' cls d, Step F0 H0 own0 F' H' own' → GX X P F' H' σ' g own' → ExR P.cls e cls d H' → P.W cls d σ' H'
  | .bad => False
def tS (X : Cx) (P : Par) (f : Sx) : TS := fun D σ H => ∃ F g own, GX X P F H σ g own ∧ PostS X P F H own D (f g)
structure SS (X : Cx) (P : Par) (st : Stmt) (f : Sx) : Prop where
  ps : PS X st (tS X P f)
structure SB (X : Cx) (P : Par) (sts : List Stmt) (f : Sx) : Prop where
  ps : PSs X sts (tS X P f)
theorem ps_imp {X : Cx} {st : Stmt} {t t' : TS} (h : PS X st t) (i : ∀ D σ H, t' D σ H → t D σ H) : PS X st t' := ⟨fun pins s σ H D I q => h.run pins s σ H D I (i D σ H q)⟩
theorem pss_imp {X : Cx} {st : List Stmt} {t t' : TS} (h : PSs X st t) (i : ∀ D σ H, t' D σ H → t D σ H) : PSs X st t' := ⟨fun pins s σ H D I q => h.run pins s σ H D I (i D σ H q)⟩

/-- younger places are young for the elder, too -/
theorem young {F0 : Fz} {H0 : Hp} {own0 : Ow} {F1 : Fz} {H1 : Hp} {own1 : Ow} (s : Step F0 H0 own0 F1 H1 own1) {a : Addr} (h : (∃ i, a ∈ own1 i) ∨ H1 a = none) : (∃ i, a ∈ own0 i) ∨ H0 a = none := by
  rcases h with ⟨i, z⟩ | z
  · exact s.own i a z
  · right
    cases q : H0 a with
    | none => rfl
    | some ob => obtain ⟨o', e'⟩ := s.tr a ob q; rw [z] at e'; cases e'
theorem Frsh.elder {F0 : Fz} {H0 : Hp} {own0 : Ow} {F1 : Fz} {H1 : Hp} {own1 : Ow} {F2 : Fz} {H2 : Hp} {own2 : Ow} {L : List Addr} (s : Step F0 H0 own0 F1 H1 own1) (f : Frsh F1 H1 own1 F2 H2 own2 L) : Frsh F0 H0 own0 F2 H2 own2 L :=
  ⟨f.nd, fun a ha => let ⟨h1, h2, h3, h4⟩ := f.sep a ha; ⟨h1, h2, h3, young s h4⟩⟩
section
variable {X : Cx} {P : Par} {σ : St} {H : Hp} {D D' : Ends} {ts : List Tmp}
theorem postS_step {F0 : Fz} {H0 : Hp} {own0 : Ow} {F1 : Fz} {H1 : Hp} {own1 : Ow} (s : Step F0 H0 own0 F1 H1 own1) {r : SOut} (h : PostS X P F0 H0 own0 D r) : PostS X P F1 H1 own1 D r := by
  cases r with
  | nx g => exact fun F' H' own' σ' t => h F' H' own' σ' (s.trans t)
  | brk g => exact fun F' H' own' σ' t => h F' H' own' σ' (s.trans t)
  | ct g => exact fun F' H' own' σ' t => h F' H' own' σ' (s.trans t)
  | ret v g => exact fun F' H' own' σ' x L t I o f => h F' H' own' σ' x L (s.trans t) I o (f.elder s)
  | exc e g => exact fun F' H' own' σ' cls d t => h F' H' own' σ' cls d (s.trans t)
  | bad => exact h
/-- other ends -/
structure EndsLe (D D' : Ends) : Prop where
  nx : ∀ σ H, D.nx σ H → D'.nx σ H
  rt : ∀ v H, D.rt v H → D'.rt v H
  bk : ∀ σ H, D.bk σ H → D'.bk σ H
  ct : ∀ σ H, D.ct σ H → D'.ct σ H
theorem postS_le {F0 : Fz} {H0 : Hp} {own0 : Ow} (l : EndsLe D D') {r : SOut} (h : PostS X P F0 H0 own0 D r) : PostS X P F0 H0 own0 D' r := by
  cases r with
  | nx g => exact fun F' H' own' σ' s I => l.nx _ _ (h F' H' own' σ' s I)
  | brk g => exact fun F' H' own' σ' s I => l.bk _ _ (h F' H' own' σ' s I)
  | ct g => exact fun F' H' own' σ' s I => l.ct _ _ (h F' H' own' σ' s I)
  | ret v g => exact fun F' H' own' σ' x L s I o f => l.rt _ _ (h F' H' own' σ' x L s I o f)
  | exc e g => exact h
  | bad => exact h
theorem ittt {p q : Prop} (h : p) : if true = true then p else q := h
theorem itff {p q : Prop} (h : q) : if false = true then p else q := h
def bindS (r : SOut) (k : Env → SOut) : SOut := match r with
  | .nx g => k g
  | r => r
def seq (f h : Sx) : Sx := fun g => bindS (f g) h
def skip : Sx := fun g => .nx g
theorem core_seq {f h : Sx} (q : tS X P (seq f h) D σ H) : tS X P f { D with nx := tS X P h D } σ H := by
  obtain ⟨F, g, own, I, q⟩ := q
  refine ⟨F, g, own, I, ?_⟩
  unfold seq at q
  cases e : f g with
  | nx g' => rw [e] at q; exact fun F' H' own' σ' s I' => ⟨F', g', own', I', postS_step s q⟩
  | brk g' => rw [e] at q; exact q
  | ct g' => rw [e] at q; exact q
  | ret v g' => rw [e] at q; exact q
  | exc x g' => rw [e] at q; exact q
  | bad => rw [e] at q; exact q
variable {st : Stmt} {sts : List Stmt} {f h : Sx} {pos : Pos}
theorem sb_nil : SB X P [] skip := ⟨pss_imp pss_nil fun D σ H ⟨F, g, own, I, q⟩ => q F H own σ .refl I⟩
theorem sb_cons (h1 : SS X P st f) (h2 : SB X P sts h) : SB X P (st :: sts) (seq f h) := ⟨pss_imp (pss_cons h1.ps h2.ps) fun _ _ _ q => core_seq q⟩
theorem sb_one (h1 : SS X P st f) : SB X P [st] f := ⟨pss_one h1.ps⟩
def sBrk : Sx := fun g => .brk g
def sCt : Sx := fun g => .ct g
theorem s_pass : SS X P (.Pass pos) skip := ⟨ps_imp ps_pass fun D σ H ⟨F, g, own, I, q⟩ => q F H own σ .refl I⟩
theorem s_break : SS X P (.Break pos) sBrk := ⟨ps_imp ps_break fun D σ H ⟨F, g, own, I, q⟩ => q F H own σ .refl I⟩
theorem s_continue : SS X P (.Continue pos) sCt := ⟨ps_imp ps_continue fun D σ H ⟨F, g, own, I, q⟩ => q F H own σ .refl I⟩

/-- from an expression to a statement -/
def bindE (o : Out) (k : Val → Env → SOut) : SOut := match o with
  | .ok v g => k v g
  | .exc e g => .exc e g
  | .bad => .bad
theorem mid_ofS {fe : Ex} {k : Val → Env → SOut} (q : tS X P (fun g => bindE (fe g) k) D σ H) :
    tE X P fe σ H fun x H1 => ∃ v L, Mid X P σ [⟨x, v, L⟩] (fun F0 H0 own0 g => PostS X P F0 H0 own0 D (k v g)) H1 := by
  obtain ⟨F, g, own, I, q⟩ := q
  refine mid_eval (k := fun F0 H0 own0 v g => PostS X P F0 H0 own0 D (k v g)) (mid_start I ?_)
  have q : PostS X P F H own D (bindE (fe g) k) := q
  cases e : fe g with
  | ok v g1 => rw [e] at q; exact q
  | exc x g1 => rw [e] at q; exact fun F' H' own' cls d s I' r => q F' H' own' σ cls d s I' r
  | bad => rw [e] at q; exact q
def sEx (fe : Ex) : Sx := fun g => bindE (fe g) fun _ g1 => .nx g1
def sRet (fe : Ex) : Sx := fun g => bindE (fe g) .ret
def sRetN : Sx := fun g => .ret ⟨.non, 0⟩ g
def sIf (c : Ex) (t e : Sx) : Sx := fun g => bindE (c g) fun v g1 => match v.d with
  | .bl true => t g1
  | .bl false => e g1
  | _ => .bad
variable {e ec : Expr} {fe fc : Ex}
theorem s_expr (he : SE X P e fe) (hs : swapsWith e none pos.line X.env = pure false := by rfl) : SS X P (.Expr e pos) (sEx fe) :=
  ⟨ps_imp (ps_expr he.pe hs) fun D σ H q => tE_mono (mid_ofS q) fun x H1 ⟨v, L, F0, H0, own0, F1, g1, own1, m, q⟩ => q F1 H1 own1 σ m.st m.g⟩
theorem s_ret (he : SE X P e fe) : SS X P (.Return (some e) pos) (sRet fe) :=
  ⟨ps_imp (ps_ret he.pe) fun D σ H q => tE_mono (mid_ofS q) fun x H1 ⟨v, L, F0, H0, own0, F1, g1, own1, m, q⟩ =>
    q F1 H1 own1 σ x L m.st m.g (m.own _ (List.mem_singleton.mpr rfl)) ⟨by have := m.nd; simpa using this, m.sep _ (List.mem_singleton.mpr rfl)⟩⟩
theorem s_retN : SS X P (.Return none pos) sRetN :=
  ⟨ps_imp ps_retN fun D σ H ⟨F, g, own, I, q⟩ => q F H own σ .non [] .refl I (.of .non) ⟨List.nodup_nil, fun _ h => nomatch h⟩⟩
theorem s_ifS {a b : List Stmt} (hc : ST X P ec fc) (ha : SB X P a f) (hb : SB X P b h) : SS X P (.If ec a b pos) (sIf fc f h) := by
  refine ⟨ps_imp (ps_if hc.pt ha.ps hb.ps) fun D σ H q => tE_mono (mid_ofS q) fun x H1 ⟨v, L, F0, H0, own0, F1, g1, own1, m, q⟩ => ?_⟩
  have o := m.own _ List.mem_cons_self
  obtain ⟨vd, vn⟩ := v
  simp only at q o
  split at q
  · refine ⟨true, by (cases o with | frz _ r => cases r; rfl), ?_⟩
    exact ittt ⟨F1, g1, own1, m.g, postS_step m.st q⟩
  · refine ⟨false, by (cases o with | frz _ r => cases r; rfl), ?_⟩
    exact itff ⟨F1, g1, own1, m.g, postS_step m.st q⟩
  · exact False.elim q

/-! ### stores -/
/-- a name's slot takes a value -/
theorem G.set {c : Cn} {n : Nat} {pz : List (Nat × V)} {F : Fz} {g : Env} {own : Ow} (I : G c n pz F H σ g own) {i : Nat} {x : V} {v : Val} {L : List Addr} (hi : i < n) (hp : i ∉ pz.map (·.1)) (o : Own c H F v.o x v.d L) (nd : L.Nodup)
    (sep : ∀ a ∈ L, ¬ F a ∧ (∀ j, a ∉ own j) ∧ ∃ sh, H a = some (shO a sh)) : G c n pz F H (σ.set i (some x)) (g.set i (some v)) (fun j => if j = i then L else own j) := by
  have hg : i < g.length := by rw [I.len]; exact hi
  have hs : i < σ.length := by rw [I.slen]; exact hi
  refine ⟨by rw [List.length_set]; exact I.len, by rw [List.length_set]; exact I.slen, fun j u e => ?_, fun j z => ?_, fun j => ?_, fun j k a hjk h1 h2 => ?_, fun j a ha => ?_, I.frz, fun p hpz => ?_⟩
  · by_cases hj : j = i
    · subst hj
      rw [List.getElem?_set_self hg] at e
      cases e
      rw [if_pos rfl]
      exact ⟨x, List.getElem?_set_self hs, o⟩
    · rw [List.getElem?_set_ne (Ne.symm hj)] at e
      rw [if_neg hj, List.getElem?_set_ne (Ne.symm hj)]
      exact I.slot j u e
  · by_cases hj : j = i
    · subst hj
      exact absurd (List.getElem?_set_self hg) (z v)
    · rw [if_neg hj]
      exact I.emp j fun w e => z w (by rw [List.getElem?_set_ne (Ne.symm hj)]; exact e)
  · show (if j = i then L else own j).Nodup
    split
    · exact nd
    · exact I.nodup j
  · have h1 : a ∈ (if j = i then L else own j) := h1
    have h2 : a ∈ (if k = i then L else own k) := h2
    split at h1
    · split at h2
      · rename_i e1 e2; exact hjk (e1.trans e2.symm)
      · exact (sep a h1).2.1 k h2
    · split at h2
      · exact (sep a h2).2.1 j h1
      · exact I.disj j k a hjk h1 h2
  · have ha : a ∈ (if j = i then L else own j) := ha
    split at ha
    · exact ⟨(sep a ha).1, (sep a ha).2.2⟩
    · exact I.sep j a ha
  · have hne : p.1 ≠ i := fun e => hp (e ▸ List.mem_map_of_mem hpz)
    rw [List.getElem?_set_ne (Ne.symm hne)]
    exact I.pin p hpz
/-- slots are forgotten -/
theorem G.wipe {c : Cn} {n : Nat} {pz : List (Nat × V)} {F : Fz} {g : Env} {own : Ow} (I : G c n pz F H σ g own) (i : Nat) : G c n pz F H σ (g.set i none) (fun j => if j = i then [] else own j) := by
  refine ⟨by rw [List.length_set]; exact I.len, I.slen, fun j u e => ?_, fun j z => ?_, fun j => ?_, fun j k a hjk h1 h2 => ?_, fun j a ha => ?_, I.frz, I.pin⟩
  · by_cases hj : j = i
    · subst hj
      by_cases hl : j < g.length
      · rw [List.getElem?_set_self hl] at e; cases e
      · rw [List.getElem?_eq_none (by simpa using hl)] at e; cases e
    · rw [List.getElem?_set_ne (Ne.symm hj)] at e
      rw [if_neg hj]
      exact I.slot j u e
  · by_cases hj : j = i
    · rw [if_pos hj]
    · rw [if_neg hj]
      exact I.emp j fun w e => z w (by rw [List.getElem?_set_ne (Ne.symm hj)]; exact e)
  · show (if j = i then [] else own j).Nodup
    split
    · exact List.nodup_nil
    · exact I.nodup j
  · have h1 : a ∈ (if j = i then [] else own j) := h1
    have h2 : a ∈ (if k = i then [] else own k) := h2
    split at h1
    · cases h1
    · split at h2
      · cases h2
      · exact I.disj j k a hjk h1 h2
  · have ha : a ∈ (if j = i then [] else own j) := ha
    split at ha
    · cases ha
    · exact I.sep j a ha
def killG (ks : List Nat) (g : Env) : Env := ks.foldl (fun g i => g.set i none) g
theorem G.kill {c : Cn} {n : Nat} {pz : List (Nat × V)} {F : Fz} : ∀ {ks : List Nat} {g : Env} {own : Ow}, G c n pz F H σ g own → ∃ own', G c n pz F H σ (killG ks g) own' ∧ ∀ i a, a ∈ own' i → a ∈ own i
  | [], g, own, I => ⟨own, I, fun _ _ h => h⟩
  | k :: ks, g, own, I => by
    obtain ⟨own', I', h⟩ := G.kill (ks := ks) (I.wipe k)
    refine ⟨own', I', fun i a ha => ?_⟩
    have := h i a ha
    have : a ∈ (if i = k then [] else own i) := this
    split at this
    · cases this
    · exact this
theorem Step.less {F : Fz} {own own' : Ow} (h : ∀ i a, a ∈ own' i → a ∈ own i) : Step F H own F H own' := ⟨fun _ h => h, fun _ _ h _ => h, fun _ h => .inl h, fun i a ha => .inl ⟨i, h i a ha⟩, fun _ o h => ⟨o, h⟩⟩
/-- forget slots -/
def sKill (ks : List Nat) (f : Sx) : Sx := fun g => match f g with
  | .nx g' => .nx (killG ks g')
  | r => r
theorem s_kill {ks : List Nat} (h : SS X P st f) : SS X P st (sKill ks f) := by
  refine ⟨ps_imp h.ps fun D σ H ⟨F, g, own, I, q⟩ => ⟨F, g, own, I, ?_⟩⟩
  unfold sKill at q
  cases e : f g with
  | nx g' =>
    rw [e] at q
    intro F' H' own' σ' s I'
    obtain ⟨own2, I2, hl⟩ := I'.kill (ks := ks)
    exact q F' H' own2 σ' (s.trans (.less hl)) I2
  | brk g' => rw [e] at q; exact q
  | ct g' => rw [e] at q; exact q
  | ret v g' => rw [e] at q; exact q
  | exc x g' => rw [e] at q; exact q
  | bad => rw [e] at q; exact q
/-- a temporary goes into a slot -/
theorem mid_store {t : Tmp} {i : Nat} {F0 : Fz} {H0 : Hp} {own0 : Ow} {F1 : Fz} {g1 : Env} {own1 : Ow} (m : MidAt X P σ (t :: ts) H F0 H0 own0 F1 g1 own1) (hi : i < X.N.length) (hp : i ∉ P.pz.map (·.1)) :
    ∃ own2, MidAt X P (σ.set i (some t.x)) ts H F0 H0 own0 F1 (g1.set i (some t.v)) own2 := by
  have h0 : t ∈ t :: ts := List.mem_cons_self
  have nd := m.nd
  rw [List.flatMap_cons, List.nodup_append] at nd
  refine ⟨_, m.g.set hi hp (m.own t h0) nd.1 fun a ha => let ⟨h1, h2, h3, _⟩ := m.sep t h0 a ha; ⟨h1, h2, h3⟩, ⟨m.st.fr, m.st.keep, m.st.new, fun j a ha => ?_, m.st.tr⟩, fun u hu => m.own u (List.mem_cons_of_mem _ hu), nd.2.1, fun u hu a ha => ?_⟩
  · have ha : a ∈ (if j = i then t.L else own1 j) := ha
    split at ha
    · exact (m.sep t h0 a ha).2.2.2
    · exact m.st.own j a ha
  · obtain ⟨h1, h2, h3, h4⟩ := m.sep u (List.mem_cons_of_mem _ hu) a ha
    refine ⟨h1, fun j hj => ?_, h3, h4⟩
    have hj : a ∈ (if j = i then t.L else own1 j) := hj
    split at hj
    · exact nd.2.2 a hj a (List.mem_flatMap.mpr ⟨u, hu, ha⟩) rfl
    · exact h2 j hj
def keepV (k : Bool) (v : Val) : Val := if k then v else ⟨v.d, 0⟩
def sSet (i : Nat) (k : Bool) (fe : Ex) : Sx := fun g => bindE (fe g) fun v g1 => .nx (g1.set i (some (keepV k v)))
theorem mid_keep {t : Tmp} {B : Bk} {k : Bool} (h : Mid X P σ (t :: ts) B H) : ∃ L, Mid X P σ (⟨t.x, keepV k t.v, L⟩ :: ts) B H := by
  cases k with
  | true => exact ⟨t.L, h⟩
  | false => exact ⟨[], mid_freeze h⟩
theorem core_set {i : Nat} {k : Bool} (hi : i < X.N.length) (hp : i ∉ P.pz.map (·.1)) (q : tS X P (sSet i k fe) D σ H) : tE X P fe σ H fun x H1 => D.nx (σ.set i (some x)) H1 :=
  tE_mono (mid_ofS q) fun x H1 ⟨v, L, m⟩ => by
    obtain ⟨L', F0, H0, own0, F1, g1, own1, m, q⟩ := mid_keep (k := k) m
    obtain ⟨own2, m2⟩ := mid_store m hi hp
    exact q F1 H1 own2 _ m2.st m2.g
theorem s_set {i : Nat} {k : Bool} {x : Str} {pos' : Pos} (hN : X.N.Nodup) (hi : X.N[i]? = some x) (hx : Loc X.env.scope x) (he : SE X P e fe) (hp : i ∉ P.pz.map (·.1)) (hs : swapsWith e (some (.Name x pos')) pos.line X.env = pure false := by rfl)
    (hf : X.fn x = true ∨ X.env.scope.names.lookup x = some .local := by first | exact .inl rfl | exact .inr rfl | assumption) : SS X P (.Assign [.Name x pos'] e pos) (sSet i k fe) :=
  ⟨ps_imp (ps_set hN hi hx he.pe hs hf) fun D σ H q => core_set (List.getElem?_eq_some_iff.mp hi).1 hp q⟩

/-! ### targets -/
inductive Tg where
  | n (i : Nat) | t (ts : List Tg)
mutual
def Tg.asg : Tg → PL.D → Env → Option Env
  | .n i, d, g => some (g.set i (some ⟨d, 0⟩))
  | .t ts, .tup ds, g => Tg.asgs ts ds g
  | .t _, _, _ => none
def Tg.asgs : List Tg → List PL.D → Env → Option Env
  | [], [], g => some g
  | a :: as, d :: ds, g => match a.asg d g with
    | some g' => Tg.asgs as ds g'
    | none => none
  | _, _, _ => none
end
mutual
/-- the slots that a target stores -/
def Tg.sl : Tg → List Nat
  | .n i => [i]
  | .t ts => Tg.sls ts
def Tg.sls : List Tg → List Nat
  | [] => []
  | a :: as => a.sl ++ Tg.sls as
end
mutual
def Tg.ok (n : Nat) (pz : List (Nat × V)) : Tg → Prop
  | .n i => i < n ∧ i ∉ pz.map (·.1)
  | .t ts => Tg.oks n pz ts
def Tg.oks (n : Nat) (pz : List (Nat × V)) : List Tg → Prop
  | [] => True
  | a :: as => a.ok n pz ∧ Tg.oks n pz as
end
/-- a target's reading: of a value that is frozen data -/
def tG (X : Cx) (P : Par) (t : Tg) : TG := fun v σ H Q => ∃ F g own d g', GX X P F H σ g own ∧ Rp (cn X P) H F v d ∧ t.asg d g = some g' ∧ ∀ σ' own', (∀ j, j ∉ t.sl → σ'[j]? = σ[j]?) → Step F H own F H own' → GX X P F H σ' g' own' → Q σ' H
def tGs (X : Cx) (P : Par) (t : List Tg) : TGs := fun vs σ H Q => ∃ F g own ds g', GX X P F H σ g own ∧ RpA (cn X P) H F vs ds ∧ Tg.asgs t ds g = some g' ∧ ∀ σ' own', (∀ j, j ∉ Tg.sls t → σ'[j]? = σ[j]?) → Step F H own F H own' → GX X P F H σ' g' own' → Q σ' H
structure SG (X : Cx) (P : Par) (e : Expr) (t : Tg) : Prop where
  pg : PG X e (tG X P t)
structure SGs (X : Cx) (P : Par) (es : List Expr) (t : List Tg) : Prop where
  pg : PGs X es (tGs X P t)
theorem pg_imp {e : Expr} {t t' : TG} (h : PG X e t) (i : ∀ v σ H Q, t' v σ H Q → t v σ H Q) : PG X e t' := ⟨fun pins s σ H v u Q I r q => h.run pins s σ H v u Q I r (i v σ H Q q)⟩
theorem pgs_imp {e : List Expr} {t t' : TGs} (h : PGs X e t) (i : ∀ v σ H Q, t' v σ H Q → t v σ H Q) : PGs X e t' := ⟨fun pins s σ H v u Q I r q => h.run pins s σ H v u Q I r (i v σ H Q q)⟩
theorem sg_name {i : Nat} {x : Str} (hN : X.N.Nodup) (hi : X.N[i]? = some x) (hx : Loc X.env.scope x) (hp : i ∉ P.pz.map (·.1)) (hf : X.fn x = true ∨ X.env.scope.names.lookup x = some .local := by first | exact .inl rfl | exact .inr rfl | assumption) : SG X P (.Name x pos) (.n i) := by
  refine ⟨pg_imp (pg_name hN hi hx hf) fun v σ H Q ⟨F, g, own, d, g', I, r, e, q⟩ => ?_⟩
  cases e
  refine q _ _ (fun j hj => List.getElem?_set_ne fun e => hj (by rw [e]; exact List.mem_singleton.mpr rfl)) ?_ (I.set (v := ⟨d, 0⟩) (L := []) (List.getElem?_eq_some_iff.mp hi).1 hp (.of r) List.nodup_nil fun _ h => nomatch h)
  refine .less fun j a ha => ?_
  have ha : a ∈ (if j = i then [] else own j) := ha
  split at ha
  · cases ha
  · exact ha
theorem sgs_nil : SGs X P [] [] := by
  refine ⟨pgs_imp pgs_nil fun vs σ H Q ⟨F, g, own, ds, g', I, r, e, q⟩ => ?_⟩
  cases ds with
  | nil =>
    cases e
    cases r
    exact ⟨rfl, q σ own (fun _ _ => rfl) .refl I⟩
  | cons _ _ => cases e
theorem sgs_cons {es : List Expr} {t : Tg} {ts : List Tg} (h1 : SG X P e t) (h2 : SGs X P es ts) (hs : (assignEach (e :: es) X.env).map (·.2) = assign e X.env :: (assignEach es X.env).map (·.2) := by rfl) : SGs X P (e :: es) (t :: ts) := by
  refine ⟨pgs_imp (pgs_cons h1.pg h2.pg hs) fun vs σ H Q ⟨F, g, own, ds, g', I, r, e, q⟩ => ?_⟩
  cases r with
  | nil => cases e
  | @cons v vs d ds r rs =>
    unfold Tg.asgs at e
    cases e1 : t.asg d g with
    | none => rw [e1] at e; cases e
    | some g1 =>
      rw [e1] at e
      refine ⟨v, vs, rfl, F, g, own, d, g1, I, r, e1, fun σ' own' z s I' => ?_⟩
      exact ⟨F, g1, own', ds, g', I', rs, e, fun σ2 own2 z2 s2 I2 => q σ2 own2 (fun j hj => by
        have hj : j ∉ t.sl ++ Tg.sls ts := hj
        rw [z2 j fun h => hj (List.mem_append_right _ h), z j fun h => hj (List.mem_append_left _ h)]) (s.trans s2) I2⟩
theorem sg_tup {es : List Expr} {k : Nat} {ts : List Tg} (hc : X.calm = true) (h : SGs X P es ts) (hl : (assignEach es X.env).length = ts.length := by rfl) (hst : (assignEach es X.env).findIdx? (·.1) = none := by rfl) : SG X P (.Tuple es k pos) (.t ts) := by
  refine ⟨pg_imp (pg_tup hc h.pg hl hst) fun v σ H Q ⟨F, g, own, d, g', I, r, e, q⟩ => ?_⟩
  cases d with
  | tup ds =>
    cases r with
    | @tup a vs _ hq rs =>
      have e : Tg.asgs ts ds g = some g' := e
      have hlen : ∀ (ts : List Tg) (ds : List PL.D) (g g' : Env), Tg.asgs ts ds g = some g' → ds.length = ts.length := by
        intro ts
        induction ts with
        | nil =>
          intro ds g g' e
          cases ds with
          | nil => rfl
          | cons _ _ => cases e
        | cons t ts ih =>
          intro ds g g' e
          cases ds with
          | nil => cases e
          | cons d ds =>
            unfold Tg.asgs at e
            cases e1 : t.asg d g with
            | none => rw [e1] at e; cases e
            | some g1 => rw [e1] at e; simp [ih ds g1 g' e]
      exact ⟨a, vs, rfl, hq, by rw [rs.length, hlen _ _ _ _ e], F, g, own, ds, g', I, rs, e, q⟩
  | _ => cases e
def sAsg (t : Tg) (fe : Ex) : Sx := fun g => bindE (fe g) fun v g1 => match t.asg v.d g1 with
  | some g2 => .nx g2
  | none => .bad
theorem s_asg {tg : Expr} {t : Tg} (he : SE X P e fe) (hg : SG X P tg t) (hs : swapsWithSole [tg] e pos.line X.env = pure false := by rfl) (hw : swappedStores [tg] e X.env = pure none := by rfl)
    (h1 : (assignEach [tg] X.env).map (·.2) = [assign tg X.env] := by rfl) : SS X P (.Assign [tg] e pos) (sAsg t fe) := by
  refine ⟨ps_imp (ps_asg he.pe hg.pg hs hw h1) fun D σ H q => tE_mono (mid_ofS q) fun x H1 ⟨v, L, m⟩ => ?_⟩
  obtain ⟨F0, H0, own0, F1, g1, own1, m, q⟩ := mid_freeze m
  have r := (m.own _ List.mem_cons_self).zero.1
  cases e : t.asg v.d g1 with
  | none => rw [e] at q; exact False.elim q
  | some g2 =>
    rw [e] at q
    exact ⟨F1, g1, own1, v.d, g2, m.g, r, e, fun σ' own' _ s I' => q F1 H1 own' σ' (m.st.trans s) I'⟩
end
end PL

/-! PL6: what a loop walks, for, while, comprehensions. -/
namespace PL
open PySem PySem.Spec L2

def ItOk (c : Cn) (J : It) (F1 : Fz) (H1 : Hp) (ds : List PL.D) : Prop := ∀ F H, Keep (c := c) F1 F H1 H → Trk F H → ∀ i, (i < ds.length → J.go i H) ∧ (ds.length ≤ i → J.stop i H) ∧ ∀ x H', i < ds.length → J.yld i H x H' → ∃ d, ds[i]? = some d ∧ Grow H H' ∧ Rp c H' F x d
inductive IOut where
  | ok (ds : List PL.D) (g : Env) | exc (x : Exc) (g : Env) | bad
abbrev Src := Env → IOut
def PostI (X : Cx) (P : Par) (F0 : Fz) (H0 : Hp) (own0 : Ow) (σ : St) (R : It → Hp → Prop) : IOut → Prop
  | .ok ds g => ∀ F' H' own' J, Step F0 H0 own0 F' H' own' → GX X P F' H' σ g own' → ItOk (cn X P) J F' H' ds → ds.length ≤ sizeLine → R J H'
  | .exc e g => PostX X P F0 H0 own0 σ e g
  | .bad => False
def tI (X : Cx) (P : Par) (f : Src) : TI := fun σ H R => ∃ F g own, GX X P F H σ g own ∧ PostI X P F H own σ R (f g)
structure SI (X : Cx) (P : Par) (tg iter : Expr) (f : Src) : Prop where
  pi : PI X tg iter (tI X P f)
theorem pi_imp {X : Cx} {tg iter : Expr} {t t' : TI} (h : PI X tg iter t) (i : ∀ σ H R, t' σ H R → t σ H R) : PI X tg iter t' := ⟨fun pins s σ H R I q => h.run pins s σ H R I (i σ H R q)⟩
section
variable {c : Cn} {F F' F'' : Fz} {H H' H'' : Hp}
theorem Keep.trans (a : Keep (c := c) F F' H H') (b : Keep (c := c) F' F'' H' H'') : Keep (c := c) F F'' H H'' := ⟨fun x h => b.fr x (a.fr x h), fun x vs h => b.tup x vs (a.tup x vs h), fun x o f h => b.frz x o (a.fr x f) (a.frz x o f h)⟩
theorem Keep.refl : Keep (c := c) F F H H := .more fun _ h => h
end
/-- the items of a thing that is walked -/
def itemsD : PL.D → Option (List PL.D)
  | .lst ds => some ds
  | .tup ds => some ds
  | _ => none
def iOf (o : Out) (k : Val → Env → IOut) : IOut := match o with
  | .ok v g => k v g
  | .exc e g => .exc e g
  | .bad => .bad
def iV (fe : Ex) : Src := fun g => iOf (fe g) fun v g1 => match itemsD v.d with
  | some ds => .ok ds g1
  | none => .bad
section
variable {X : Cx} {P : Par} {σ : St} {H : Hp} {ts : List Tmp} {tg e : Expr} {fe fa fb : Ex}
theorem mid_ofI {k : Val → Env → IOut} {R : It → Hp → Prop} (q : tI X P (fun g => iOf (fe g) k) σ H R) :
    tE X P fe σ H fun x H1 => ∃ v L, Mid X P σ [⟨x, v, L⟩] (fun F0 H0 own0 g => PostI X P F0 H0 own0 σ R (k v g)) H1 := by
  obtain ⟨F, g, own, I, q⟩ := q
  refine mid_eval (k := fun F0 H0 own0 v g => PostI X P F0 H0 own0 σ R (k v g)) (mid_start I ?_)
  have q : PostI X P F H own σ R (iOf (fe g) k) := q
  cases e : fe g with
  | ok v g1 => rw [e] at q; exact q
  | exc x g1 => rw [e] at q; exact q
  | bad => rw [e] at q; exact q
/-- a list or a tuple: what stands there is walked -/
theorem pi_seq {tl : TE} (hl : PE X e tl) : PI X tg e (fun σ H R => tl σ H fun x H1 => ∃ a, x = .ref a ∧ ((∃ xs, SqL X.K H1 a xs ∧ (xs.length ≤ sizeLine → R (Itl X.K a) H1)) ∨ ∃ xs, SqT X.K H1 a xs ∧ (xs.length ≤ sizeLine → R (Itt X.K a) H1))) := by
  refine ⟨fun pins s σ H R I h => ?_⟩
  refine thn (hl.run pins s σ H _ I h) fun v s1 ⟨x, H1, I1, r1, q1⟩ => ?_
  obtain ⟨a, e, q1⟩ := q1
  subst e
  cases r1
  rcases q1 with ⟨xs, hq, q⟩ | ⟨xs, hq, q⟩
  · obtain ⟨its, rv, p, hz⟩ := I1.list hq
    refine wpAny_pyIter_list p.isList ?_
    refine ⟨s1.heap.objs.size, [s1.heap.objs.size], _, _, H1, rfl, I1.kept (t' := s1.toks) fun b o e => Heap.get?_push_of_some _ e, turn_list a _, ⟨_, Heap.get?_push_size _ rfl, rfl, rfl⟩, fun b hb => ?_, q hz⟩
    have e : b = s1.heap.objs.size := by simpa using hb
    subst e
    exact I1.fpOk (Nat.le_refl _) (I1.hok.fresh (Nat.le_refl _))
  · obtain ⟨its, rv, p, hz⟩ := I1.tuple hq
    refine wpAny_pyIter_tuple (show s1.heap.IsTuple a its.toArray from p) ?_
    refine ⟨s1.heap.objs.size, [s1.heap.objs.size], _, _, H1, rfl, I1.kept (t' := s1.toks) fun b o e => Heap.get?_push_of_some _ e, turn_tuple a _, ⟨_, Heap.get?_push_size _ rfl, rfl, rfl⟩, fun b hb => ?_, q hz⟩
    have e : b = s1.heap.objs.size := by simpa using hb
    subst e
    exact I1.fpOk (Nat.le_refl _) (I1.hok.fresh (Nat.le_refl _))
theorem it_list {c : Cn} {F : Fz} {a : Addr} {vs : List V} {ds : List PL.D} (f : F a) (h : Rd H a (.lst vs)) (r : RpA c H F vs ds) : ItOk c (Itl c.K a) F H ds := by
  intro F' H' k _ i
  have h' : SqL c.K H' a vs := .inl (rd_keep k f h)
  have r' := r.keep k
  have l := r'.length
  refine ⟨fun hi => ?_, fun hi => ⟨vs, h', by omega⟩, fun x H2 hi y => ?_⟩
  · obtain ⟨v, e, _⟩ := r'.get' (List.getElem?_eq_getElem hi)
    exact ⟨vs, v, h', e⟩
  · obtain ⟨e, y⟩ := y
    subst e
    obtain ⟨d, e, q⟩ := r'.get (y vs h')
    exact ⟨d, e, .refl, q⟩
theorem it_tup {c : Cn} {F : Fz} {a : Addr} {vs : List V} {ds : List PL.D} (h : SqT c.K H a vs) (r : RpA c H F vs ds) : ItOk c (Itt c.K a) F H ds := by
  intro F' H' k _ i
  have h' : SqT c.K H' a vs := k.tup _ _ h
  have r' := r.keep k
  have l := r'.length
  refine ⟨fun hi => ?_, fun hi => ⟨vs, h', by omega⟩, fun x H2 hi y => ?_⟩
  · obtain ⟨v, e, _⟩ := r'.get' (List.getElem?_eq_getElem hi)
    exact ⟨vs, v, h', e⟩
  · obtain ⟨e, y⟩ := y
    subst e
    obtain ⟨d, e, q⟩ := r'.get (y vs h')
    exact ⟨d, e, .refl, q⟩
theorem si_v (he : SE X P e fe) : SI X P tg e (iV fe) := by
  refine ⟨pi_imp (pi_seq he.pe) fun σ H R q => tE_mono (mid_ofI q) fun x H1 ⟨v, L, m⟩ => ?_⟩
  obtain ⟨F0, H0, own0, F1, g1, own1, m, q⟩ := mid_freeze m
  have r := (m.own _ List.mem_cons_self).zero.1
  obtain ⟨vd, vn⟩ := v
  cases r with
  | @lst a vs ds f h r =>
    refine ⟨a, rfl, .inl ⟨vs, .inl h, fun hz => ?_⟩⟩
    exact q F1 H1 own1 _ m.st m.g (it_list f h r) (by rw [← r.length]; exact hz)
  | @tup a vs ds h r =>
    refine ⟨a, rfl, .inr ⟨vs, h, fun hz => ?_⟩⟩
    exact q F1 H1 own1 _ m.st m.g (it_tup h r) (by rw [← r.length]; exact hz)
  | _ => exact False.elim q
/-! ### ranges -/
def rngD (lo : Int) (n : Nat) : List PL.D := (List.range n).map fun (i : Nat) => PL.D.int (lo + (i : Int))
theorem it_rng {c : Cn} {F : Fz} {lo : Int} {n : Nat} : ItOk c (Itr lo n) F H (rngD lo n) := by
  intro F' H' k _ i
  have l : (rngD lo n).length = n := by unfold rngD; simp
  rw [l]
  refine ⟨fun h => h, fun h => h, fun x H2 hi ⟨e, y⟩ => ?_⟩
  subst e y
  exact ⟨_, by unfold rngD; simp [hi], .refl, .int _⟩
def big : Nat := 16777216
def iR1 (fe : Ex) : Src := fun g => iOf (fe g) fun v g1 => match v.d with
  | .int n => if -big ≤ n ∧ n ≤ big then .ok (rngD 0 n.toNat) g1 else .bad
  | _ => .bad
def iR2 (fa fb : Ex) : Src := fun g => iOf (fa g) fun v g1 => match v.d with
  | .int i => iOf (fb g1) fun w g2 => match w.d with
    | .int j => if -big ≤ i ∧ i ≤ big ∧ -big ≤ j ∧ j ≤ big ∧ j - i ≤ big then .ok (rngD i (j - i).toNat) g2 else .bad
    | _ => .bad
  | _ => .bad
theorem big_line : big = sizeLine := by rw [sizeLine_eq]; rfl
theorem rngD_len {lo : Int} {n : Nat} : (rngD lo n).length = n := by unfold rngD; simp
variable {p pos : Pos} {a b : Expr}
theorem si_r1 (ha : SE X P a fa) (hg : Gl X "range") (hm : X.mg "range" = none) (hs : starEach [a] X.env = [(false, eval a X.env)] := by rfl) (hs2 : starEach (a :: []) X.env = (false, eval a X.env) :: starEach [] X.env := by rfl) : SI X P tg (.Call (.Name "range" p) [a] [] pos) (iR1 fa) := by
  refine ⟨pi_imp (pi_range1 hg hm (pa_cons ha.pe pa_nil hs2) hs) fun σ H R q => tE_mono (mid_ofI q) fun x H1 ⟨v, L, F0, H0, own0, F1, g1, own1, m, q⟩ => ?_⟩
  have o := m.own _ List.mem_cons_self
  obtain ⟨vd, vn⟩ := v
  simp only at q o
  split at q
  · rename_i n
    split at q
    · rename_i hn
      have e : x = .int n := by cases o with | frz _ r => cases r; rfl
      subst e
      refine ⟨n, rfl, ?_⟩
      have hb : (big : Int) = 16777216 := rfl
      refine ⟨by omega, by omega, q F1 H1 own1 _ m.st m.g it_rng ?_⟩
      rw [rngD_len, ← big_line]
      omega
    · exact False.elim q
  · exact False.elim q
theorem si_r2 (ha : SE X P a fa) (hb : SE X P b fb) (hg : Gl X "range") (hm : X.mg "range" = none) (hs : starEach [a, b] X.env = [(false, eval a X.env), (false, eval b X.env)] := by rfl) (hs2 : starEach [b] X.env = [(false, eval b X.env)] := by rfl)
    (hs3 : starEach (a :: [b]) X.env = (false, eval a X.env) :: starEach [b] X.env := by rfl) (hs4 : starEach (b :: []) X.env = (false, eval b X.env) :: starEach [] X.env := by rfl) : SI X P tg (.Call (.Name "range" p) [a, b] [] pos) (iR2 fa fb) := by
  refine ⟨pi_imp (pi_range2 hg hm (pa_cons ha.pe (pa_cons hb.pe pa_nil hs4) hs3) hs hs2) fun σ H R q => tE_mono (mid_ofI q) fun x H1 ⟨v, L, F0, H0, own0, F1, g1, own1, m, q⟩ => ?_⟩
  have o := m.own _ List.mem_cons_self
  obtain ⟨vd, vn⟩ := v
  simp only at q o
  split at q
  · rename_i i
    have e : x = .int i := by cases o with | frz _ r => cases r; rfl
    subst e
    have mm : Mid X P σ [⟨.int i, ⟨.int i, vn⟩, L⟩] (fun F0 H0 own0 g => PostK X P F0 H0 own0 σ (fun w g2 => PostI X P F0 H0 own0 σ R (match w.d with
      | .int j => if -big ≤ i ∧ i ≤ big ∧ -big ≤ j ∧ j ≤ big ∧ j - i ≤ big then .ok (rngD i (j - i).toNat) g2 else .bad
      | _ => .bad)) (fb g)) H1 := by
      refine ⟨F0, H0, own0, F1, g1, own1, m, ?_⟩
      simp only
      cases e : fb g1 with
      | ok w g2 => rw [e] at q; exact q
      | exc w g2 => rw [e] at q; exact q
      | bad => rw [e] at q; exact q
    refine tE_mono (mid_eval (k := fun F0 H0 own0 w g2 => PostI X P F0 H0 own0 σ R (match w.d with
      | .int j => if -big ≤ i ∧ i ≤ big ∧ -big ≤ j ∧ j ≤ big ∧ j - i ≤ big then .ok (rngD i (j - i).toNat) g2 else .bad
      | _ => .bad)) mm) fun y H2 ⟨w, L2, F0, H0, own0, F1, g1, own1, m, q⟩ => ?_
    have o := m.own _ List.mem_cons_self
    obtain ⟨wd, wn⟩ := w
    simp only at q o
    split at q
    · rename_i j
      split at q
      · rename_i hn
        have e : y = .int j := by cases o with | frz _ r => cases r; rfl
        subst e
        have hb : (big : Int) = 16777216 := rfl
        refine ⟨i, j, rfl, ⟨by omega, by omega, by omega, by omega⟩, q F1 H2 own1 _ m.st m.g it_rng ?_⟩
        rw [rngD_len, ← big_line]
        omega
      · exact False.elim q
    · exact False.elim q
  · exact False.elim q

/-! ### for -/
def forL (t : Tg) (b : Sx) (ks : List Nat) : List PL.D → Sx
  | [], g => .nx g
  | d :: ds, g => match t.asg d g with
    | none => .bad
    | some g1 => match b g1 with
      | .nx g2 => forL t b ks ds (killG ks g2)
      | .ct g2 => forL t b ks ds (killG ks g2)
      | .brk g2 => .nx (killG ks g2)
      | r => r
def sFor (s : Src) (t : Tg) (b : Sx) (ks : List Nat) : Sx := fun g => match s g with
  | .ok ds g1 => forL t b ks ds (killG ks g1)
  | .exc e g1 => .exc e g1
  | .bad => .bad
variable {D : Ends} {iter : Expr} {body : List Stmt} {s : Src} {t : Tg} {fb : Sx} {ks : List Nat}
theorem kill_step {F : Fz} {H : Hp} {g : Env} {own : Ow} {σ : St} (I : GX X P F H σ g own) : ∃ own', GX X P F H σ (killG ks g) own' ∧ Step F H own F H own' :=
  let ⟨own', I', h⟩ := I.kill (ks := ks)
  ⟨own', I', .less h⟩
theorem core_for {σ : St} {H : Hp} (q : tS X P (sFor s t fb ks) D σ H) : tFor (tI X P s) (tG X P t) (tS X P fb) D σ H := by
  obtain ⟨F, g, own, I, q⟩ := q
  refine ⟨F, g, own, I, ?_⟩
  have q : PostS X P F H own D (match s g with
    | .ok ds g1 => forL t fb ks ds (killG ks g1)
    | .exc e g1 => .exc e g1
    | .bad => .bad) := q
  cases e : s g with
  | bad => rw [e] at q; exact q
  | exc x g1 => rw [e] at q; exact fun F' H' own' cls d s I' r => q F' H' own' σ cls d s I' r
  | ok ds g1 =>
    rw [e] at q
    intro F' H' own' J st I' it hz
    obtain ⟨own2, I2, st2⟩ := kill_step (ks := ks) I'
    refine ⟨fun i m σ H1 => m = ds.length - i ∧ i ≤ ds.length ∧ ∃ F1 g1 own1, GX X P F1 H1 σ g1 own1 ∧ Keep (c := cn X P) F' F1 H' H1 ∧ PostS X P F1 H1 own1 D (forL t fb ks (ds.drop i) g1), ⟨_, rfl, Nat.zero_le _, F', _, own2, I2, .refl, postS_step (st.trans st2) q⟩, ?_⟩
    rintro i m σ1 H1 ⟨rfl, hi, F1, g2, own1, I1, kp, q1⟩
    obtain ⟨j1, j2, j3⟩ := it F1 H1 kp I1.frz i
    by_cases hlt : i < ds.length
    · refine .inr ⟨j1 hlt, fun σ' H2 => ∃ F2 g3 own2, GX X P F2 H2 σ' g3 own2 ∧ Keep (c := cn X P) F' F2 H' H2 ∧ PostS X P F2 H2 own2 D (forL t fb ks (ds.drop (i + 1)) g3), fun σ' H2 h => ⟨_, by omega, rfl, hlt, h⟩, fun x H2 y => ?_⟩
      obtain ⟨d, ed, gr, rp⟩ := j3 x H2 hlt y
      have hd : ds.drop i = d :: ds.drop (i + 1) := by
        rw [List.drop_eq_getElem_cons hlt]
        rw [List.getElem?_eq_getElem hlt] at ed
        cases ed; rfl
      rw [hd] at q1
      unfold forL at q1
      cases ea : t.asg d g2 with
      | none => rw [ea] at q1; exact False.elim q1
      | some g3 =>
        rw [ea] at q1
        refine ⟨F1, g2, own1, d, g3, I1.grow gr, rp, ea, fun σ2 own3 _ s3 I3 => ⟨F1, g3, own3, I3, ?_⟩⟩
        have s03 : Step F1 H1 own1 F1 H2 own3 := gr.step.trans s3
        have q1 := postS_step s03 q1
        have go : ∀ {g4 : Env} {F4 : Fz} {H4 : Hp} {own4 : Ow} {σ4 : St}, Step F1 H2 own3 F4 H4 own4 → GX X P F4 H4 σ4 g4 own4 → PostS X P F1 H2 own3 D (forL t fb ks (ds.drop (i + 1)) (killG ks g4)) →
            ∃ F2 g3 own2, GX X P F2 H4 σ4 g3 own2 ∧ Keep (c := cn X P) F' F2 H' H4 ∧ PostS X P F2 H4 own2 D (forL t fb ks (ds.drop (i + 1)) g3) := fun {g4 F4 H4 own4 σ4} s4 I4 q4 => by
          obtain ⟨own5, I5, s5⟩ := kill_step (ks := ks) I4
          exact ⟨F4, _, own5, I5, kp.trans (gr.keep.trans (s4.keeps I3)), postS_step (s4.trans s5) q4⟩
        simp only at q1
        cases eb : fb g3 with
        | nx g4 => rw [eb] at q1; exact fun F4 H4 own4 σ4 s4 I4 => go s4 I4 q1
        | ct g4 => rw [eb] at q1; exact fun F4 H4 own4 σ4 s4 I4 => go s4 I4 q1
        | brk g4 =>
          rw [eb] at q1
          intro F4 H4 own4 σ4 s4 I4
          obtain ⟨own5, I5, s5⟩ := kill_step (ks := ks) I4
          exact q1 F4 H4 own5 σ4 (s4.trans s5) I5
        | ret v g4 => rw [eb] at q1; exact q1
        | exc x g4 => rw [eb] at q1; exact q1
        | bad => rw [eb] at q1; exact q1
    · have e : i = ds.length := by omega
      subst e
      rw [List.drop_length] at q1
      exact .inl ⟨j2 (Nat.le_refl _), q1 F1 H1 own1 σ1 .refl I1⟩
theorem s_for (hp : PassesOwn (model X.prog X.w) X.A X.env X.xe) (hc : X.calm = true) (hi : SI X P tg iter s) (hg : SG X P tg t) (hb : SB X P body fb) (hs : ∀ x, foldedSetIterable iter X.env x = pure x := by intro _; rfl) : SS X P (.For tg iter body [] pos) (sFor s t fb ks) :=
  ⟨ps_imp (ps_for hp hc hi.pi hg.pg hb.ps hs) fun _ _ _ q => core_for q⟩

/-! ### while -/
def whileN (c : Ex) (b : Sx) (ks : List Nat) : Nat → Sx
  | 0, _ => .bad
  | n + 1, g => bindE (c g) fun v g1 => match v.d with
    | .bl true => match b g1 with
      | .nx g2 => whileN c b ks n (killG ks g2)
      | .ct g2 => whileN c b ks n (killG ks g2)
      | .brk g2 => .nx (killG ks g2)
      | r => r
    | .bl false => .nx g1
    | _ => .bad
def WF : Nat := 1000000000
def sWhile (c : Ex) (b : Sx) (ks : List Nat) : Sx := fun g => whileN c b ks WF (killG ks g)
variable {fc : Ex} {ec : Expr}
theorem core_while {σ : St} {H : Hp} (q : tS X P (sWhile fc fb ks) D σ H) : tWhile (tB (tE X P fc)) (tS X P fb) D σ H := by
  obtain ⟨F, g, own, I, q⟩ := q
  obtain ⟨own2, I2, st2⟩ := kill_step (ks := ks) I
  refine ⟨fun m σ H1 => ∃ F1 g1 own1, GX X P F1 H1 σ g1 own1 ∧ PostS X P F1 H1 own1 D (whileN fc fb ks m g1), ⟨WF, F, _, own2, I2, postS_step st2 q⟩, ?_⟩
  rintro m σ1 H1 ⟨F1, g1, own1, I1, q1⟩
  cases m with
  | zero => exact False.elim q1
  | succ m =>
    have q1 : tS X P (fun g => bindE (fc g) fun v g1 => match v.d with
      | .bl true => match fb g1 with
        | .nx g2 => whileN fc fb ks m (killG ks g2)
        | .ct g2 => whileN fc fb ks m (killG ks g2)
        | .brk g2 => .nx (killG ks g2)
        | r => r
      | .bl false => .nx g1
      | _ => .bad) D σ1 H1 := ⟨F1, g1, own1, I1, q1⟩
    refine tE_mono (mid_ofS q1) fun x H2 ⟨v, L, F0, H0, own0, F2, g2, own2, m2, q2⟩ => ?_
    have o := m2.own _ List.mem_cons_self
    obtain ⟨vd, vn⟩ := v
    simp only at q2 o
    split at q2
    · refine ⟨true, by (cases o with | frz _ r => cases r; rfl), ittt ⟨fun σ' H' => ∃ F1 g1 own1, GX X P F1 H' σ' g1 own1 ∧ PostS X P F1 H' own1 D (whileN fc fb ks m g1), fun σ' H' h => ⟨m, Nat.lt_succ_self _, h⟩, F2, g2, own2, m2.g, ?_⟩⟩
      have q2 := postS_step m2.st q2
      have go : ∀ {g4 : Env} {F4 : Fz} {H4 : Hp} {own4 : Ow} {σ4 : St}, Step F2 H2 own2 F4 H4 own4 → GX X P F4 H4 σ4 g4 own4 → PostS X P F2 H2 own2 D (whileN fc fb ks m (killG ks g4)) →
          ∃ F1 g1 own1, GX X P F1 H4 σ4 g1 own1 ∧ PostS X P F1 H4 own1 D (whileN fc fb ks m g1) := fun {g4 F4 H4 own4 σ4} s4 I4 q4 => by
        obtain ⟨own5, I5, s5⟩ := kill_step (ks := ks) I4
        exact ⟨F4, _, own5, I5, postS_step (s4.trans s5) q4⟩
      cases eb : fb g2 with
      | nx g4 => rw [eb] at q2; exact fun F4 H4 own4 σ4 s4 I4 => go s4 I4 q2
      | ct g4 => rw [eb] at q2; exact fun F4 H4 own4 σ4 s4 I4 => go s4 I4 q2
      | brk g4 =>
        rw [eb] at q2
        intro F4 H4 own4 σ4 s4 I4
        obtain ⟨own5, I5, s5⟩ := kill_step (ks := ks) I4
        exact q2 F4 H4 own5 σ4 (s4.trans s5) I5
      | ret v g4 => rw [eb] at q2; exact q2
      | exc x g4 => rw [eb] at q2; exact q2
      | bad => rw [eb] at q2; exact q2
    · refine ⟨false, by (cases o with | frz _ r => cases r; rfl), itff (q2 F2 H2 own2 σ1 m2.st m2.g)⟩
    · exact False.elim q2
theorem s_while (hp : PassesOwn (model X.prog X.w) X.A X.env X.xe) (hc : ST X P ec fc) (hb : SB X P body fb) : SS X P (.While ec body [] pos) (sWhile fc fb ks) := ⟨ps_imp (ps_while hp hc.pt hb.ps) fun _ _ _ q => core_while q⟩
end
end PL

/-! PL7: list comprehensions. -/
namespace PL
open PySem PySem.Spec L2

section
variable {X : Cx} {P : Par} {σ σ' : St} {H H' : Hp} {ts : List Tmp} {F0 : Fz} {H0 : Hp} {own0 : Ow} {F1 F2 : Fz} {g1 g2 : Env} {own1 own2 : Ow}
/-- a step taken beside the temporaries -/
theorem mid_step (m : MidAt X P σ ts H F0 H0 own0 F1 g1 own1) (s : Step F1 H own1 F2 H' own2) (I : GX X P F2 H' σ' g2 own2) : MidAt X P σ' ts H' F0 H0 own0 F2 g2 own2 := by
  have kp := s.keeps m.g
  have kL : ∀ t ∈ ts, ∀ a ∈ t.L, ∀ ob, H a = some ob → H' a = some ob := fun t ht a ha ob e => s.keep a ob e (m.sep t ht a ha).2.1
  refine ⟨I, m.st.trans s, fun t ht => (m.own t ht).keep kp (kL t ht), m.nd, fun t ht a ha => ?_⟩
  obtain ⟨h1, h2, ⟨sh, h3⟩, h4⟩ := m.sep t ht a ha
  refine ⟨fun z => ?_, fun i z => ?_, ⟨sh, kL t ht a ha _ h3⟩, h4⟩
  · rcases s.new a z with z | ⟨i, z⟩ | z
    · exact h1 z
    · exact h2 i z
    · rw [h3] at z; cases z
  · rcases s.own i a z with ⟨j, z⟩ | z
    · exact h2 j z
    · rw [h3] at z; cases z
theorem mid_drop {t : Tmp} (m : MidAt X P σ (t :: ts) H F0 H0 own0 F1 g1 own1) : MidAt X P σ ts H F0 H0 own0 F1 g1 own1 := by
  have nd := m.nd
  rw [List.flatMap_cons, List.nodup_append] at nd
  exact ⟨m.g, m.st, fun u hu => m.own u (List.mem_cons_of_mem _ hu), nd.2.1, fun u hu => m.sep u (List.mem_cons_of_mem _ hu)⟩
/-- what a write at a place that nobody else holds leaves as it was -/
theorem wr_keep {c : Cn} {F : Fz} {a : Addr} {sh sh' : Sh} (e : H a = some (shO a sh)) (nf : ¬ F a) : Keep (c := c) F F H (upd H a (shO a sh')) := by
  have ne : ∀ b o, H b = some o → (∀ s, shO a s ≠ o) → b ≠ a := fun b o h n z => by subst z; rw [e] at h; cases h; exact n sh rfl
  refine ⟨fun _ h => h, fun b vs h => ?_, fun b o f h => ?_⟩
  · rcases h with (h | ⟨o, h⟩) | h
    · exact .inl (.inl (by rw [upd_ne (ne b _ h fun s z => sh_tup z)]; exact h))
    · exact .inl (.inr ⟨o, by rw [upd_ne (ne b _ h fun s z => sh_frz z)]; exact h⟩)
    · exact .inr h
  · rw [upd_ne (show b ≠ a from fun z => nf (by rw [← z]; exact f))]
    exact h
/-- a write at a temporary's place: what stands beside it -/
theorem mid_wr {t : Tmp} {a : Addr} {sh : Sh} (m : MidAt X P σ (t :: ts) H F0 H0 own0 F1 g1 own1) (ha : a ∈ t.L) : MidAt X P σ ts (upd H a (shO a sh)) F0 H0 own0 F1 g1 own1 := by
  have h0 : t ∈ t :: ts := List.mem_cons_self
  obtain ⟨nf, no, ⟨sh0, e0⟩, yg⟩ := m.sep t h0 a ha
  have kp : Keep (c := cn X P) F1 F1 H (upd H a (shO a sh)) := wr_keep e0 nf
  have nd := m.nd
  rw [List.flatMap_cons, List.nodup_append] at nd
  have ne : ∀ u ∈ ts, ∀ b ∈ u.L, b ≠ a := fun u hu b hb z => nd.2.2 a ha b (List.mem_flatMap.mpr ⟨u, hu, hb⟩) z.symm
  refine ⟨?_, ⟨m.st.fr, fun b o e n => ?_, m.st.new, m.st.own, fun b o e => ?_⟩, fun u hu => (m.own u (List.mem_cons_of_mem _ hu)).keep kp fun b hb o e => by rw [upd_ne (ne u hu b hb)]; exact e, nd.2.1, fun u hu b hb => ?_⟩
  · refine ⟨m.g.len, m.g.slen, fun i v e => ?_, m.g.emp, m.g.nodup, m.g.disj, fun i b hb => ?_, fun b f => ?_, m.g.pin⟩
    · obtain ⟨x, h1, o⟩ := m.g.slot i v e
      exact ⟨x, h1, o.keep kp fun b hb o e => by rw [upd_ne (show b ≠ a from fun z => no i (by rw [← z]; exact hb))]; exact e⟩
    · obtain ⟨h1, sh2, h2⟩ := m.g.sep i b hb
      exact ⟨h1, sh2, by rw [upd_ne (show b ≠ a from fun z => no i (by rw [← z]; exact hb))]; exact h2⟩
    · obtain ⟨o, e⟩ := m.g.frz b f
      exact ⟨o, by rw [upd_ne (show b ≠ a from fun z => nf (by rw [← z]; exact f))]; exact e⟩
  · have e1 := m.st.keep b o e n
    rw [upd_ne]
    · exact e1
    · intro z
      subst z
      rcases yg with ⟨i, z⟩ | z
      · exact n i z
      · rw [e] at z; cases z
  · by_cases hb : b = a
    · subst hb; exact ⟨_, upd_same⟩
    · obtain ⟨o', e'⟩ := m.st.tr b o e
      exact ⟨o', by rw [upd_ne hb]; exact e'⟩
  · obtain ⟨h1, h2, ⟨sh2, h3⟩, h4⟩ := m.sep u (List.mem_cons_of_mem _ hu) b hb
    exact ⟨h1, h2, ⟨sh2, by rw [upd_ne (ne u hu b hb)]; exact h3⟩, h4⟩
theorem OwnA.append {c : Cn} {F : Fz} {n : Nat} : ∀ {vs ws : List V} {ds es : List PL.D} {L M : List Addr}, OwnA c H F n vs ds L → OwnA c H F n ws es M → OwnA c H F n (vs ++ ws) (ds ++ es) (L ++ M)
  | _, _, _, _, _, _, .nil, s => s
  | _, _, _, _, _, _, .cons h r, s => by
    have q := OwnA.cons h (OwnA.append r s)
    rw [List.append_assoc]
    exact q
/-- another frame of names -/
theorem G.resig {c : Cn} {n : Nat} {pz : List (Nat × V)} {F : Fz} {g : Env} {own : Ow} (I : G c n pz F H σ g own) (h : ∀ (i : Nat) (v : Val), g[i]? = some (some v) → σ'[i]? = σ[i]?) (hl : σ'.length = n) (hp : ∀ p ∈ pz, σ'[p.1]? = σ[p.1]?) : G c n pz F H σ' g own :=
  ⟨I.len, hl, fun i v e => let ⟨x, h1, o⟩ := I.slot i v e; ⟨x, (h i v e).trans h1, o⟩, I.emp, I.nodup, I.disj, I.sep, I.frz, fun p hp' => (hp p hp').trans (I.pin p hp')⟩
/-- a slot's frozen value is known again -/
theorem G.put {c : Cn} {n : Nat} {pz : List (Nat × V)} {F : Fz} {g : Env} {own : Ow} (I : G c n pz F H σ g own) {i : Nat} {x : V} {d : PL.D} (hs : σ[i]? = some (some x)) (r : Rp c H F x d) :
    G c n pz F H σ (g.set i (some ⟨d, 0⟩)) (fun j => if j = i then [] else own j) := by
  have hi : i < g.length := by
    have := (List.getElem?_eq_some_iff.mp hs).1
    rw [I.slen] at this
    rw [I.len]; exact this
  refine ⟨by rw [List.length_set]; exact I.len, I.slen, fun j u e => ?_, fun j z => ?_, fun j => ?_, fun j k a hjk h1 h2 => ?_, fun j a ha => ?_, I.frz, I.pin⟩
  · by_cases hj : j = i
    · subst hj
      rw [List.getElem?_set_self hi] at e
      cases e
      rw [if_pos rfl]
      exact ⟨x, hs, .of r⟩
    · rw [List.getElem?_set_ne (Ne.symm hj)] at e
      rw [if_neg hj]
      exact I.slot j u e
  · by_cases hj : j = i
    · rw [if_pos hj]
    · rw [if_neg hj]
      exact I.emp j fun w e => z w (by rw [List.getElem?_set_ne (Ne.symm hj)]; exact e)
  · show (if j = i then [] else own j).Nodup
    split
    · exact List.nodup_nil
    · exact I.nodup j
  · have h1 : a ∈ (if j = i then [] else own j) := h1
    have h2 : a ∈ (if k = i then [] else own k) := h2
    split at h1
    · cases h1
    · split at h2
      · cases h2
      · exact I.disj j k a hjk h1 h2
  · have ha : a ∈ (if j = i then [] else own j) := ha
    split at ha
    · cases ha
    · exact I.sep j a ha
def restG (g0 : Env) (rs : List Nat) (g : Env) : Env := rs.foldl (fun g i => match g0[i]? with
  | some (some v) => if v.o = 0 then g.set i (some ⟨v.d, 0⟩) else g
  | _ => g) g
theorem G.rest {c : Cn} {n : Nat} {pz : List (Nat × V)} {F : Fz} {g0 : Env} (h0 : ∀ (i : Nat) (v : Val), g0[i]? = some (some v) → v.o = 0 → ∃ x, σ[i]? = some (some x) ∧ Rp c H F x v.d) : ∀ {rs : List Nat} {g : Env} {own : Ow}, G c n pz F H σ g own →
    ∃ own', G c n pz F H σ (restG g0 rs g) own' ∧ ∀ i a, a ∈ own' i → a ∈ own i
  | [], g, own, I => ⟨own, I, fun _ _ h => h⟩
  | r :: rs, g, own, I => by
    have key : ∀ g', (∃ own', G c n pz F H σ g' own' ∧ ∀ i a, a ∈ own' i → a ∈ own i) → ∃ own', G c n pz F H σ (restG g0 rs g') own' ∧ ∀ i a, a ∈ own' i → a ∈ own i := fun g' ⟨o1, I1, l1⟩ =>
      let ⟨o2, I2, l2⟩ := G.rest h0 (rs := rs) I1
      ⟨o2, I2, fun i a h => l1 i a (l2 i a h)⟩
    show ∃ own', G c n pz F H σ (restG g0 rs (match g0[r]? with
      | some (some v) => if v.o = 0 then g.set r (some ⟨v.d, 0⟩) else g
      | _ => g)) own' ∧ _
    refine key _ ?_
    split
    · rename_i v hv
      split
      · rename_i hz
        obtain ⟨x, hx, r⟩ := h0 _ v hv hz
        refine ⟨_, I.put hx r, fun i a ha => ?_⟩
        have ha : a ∈ (if i = _ then [] else own i) := ha
        split at ha
        · cases ha
        · exact ha
      · exact ⟨own, I, fun _ _ h => h⟩
    · exact ⟨own, I, fun _ _ h => h⟩
theorem kill_none : ∀ {ks : List Nat} {g : Env} {i : Nat} {v : Val}, (killG ks g)[i]? = some (some v) → g[i]? = some (some v) ∧ i ∉ ks
  | [], g, i, v, h => ⟨h, by simp⟩
  | k :: ks, g, i, v, h => by
    obtain ⟨h1, h2⟩ := kill_none (ks := ks) (g := g.set k none) h
    by_cases e : k = i
    · subst e
      by_cases hl : k < g.length
      · rw [List.getElem?_set_self hl] at h1; cases h1
      · rw [List.getElem?_eq_none (by simpa using hl)] at h1; cases h1
    · rw [List.getElem?_set_ne e] at h1
      exact ⟨h1, by simp only [List.mem_cons, not_or]; exact ⟨fun z => e z.symm, h2⟩⟩
theorem wipe_get {i : Nat} : ∀ {vs : List Nat}, i ∉ vs → (wipe σ vs)[i]? = σ[i]?
  | [], _ => rfl
  | v :: vs, h => by
    unfold wipe
    simp only [List.mem_cons, not_or] at h
    rw [List.getElem?_set_ne fun e => h.1 e.symm]
    exact wipe_get h.2
theorem wipe_in {i : Nat} : ∀ {vs : List Nat}, i ∈ vs → i < σ.length → (wipe σ vs)[i]? = some none
  | v :: vs, h, hl => by
    unfold wipe
    by_cases e : v = i
    · subst e
      rw [List.getElem?_set_self (by rw [wipe_length]; exact hl)]
    · rw [List.getElem?_set_ne e]
      rcases List.mem_cons.mp h with z | z
      · exact absurd z.symm e
      · exact wipe_in z hl
theorem wipe_eq {vs : List Nat} (h : ∀ i, i ∉ vs → σ'[i]? = σ[i]?) (hl : σ'.length = σ.length) : wipe σ' vs = wipe σ vs := by
  refine List.ext_getElem? fun i => ?_
  by_cases hi : i ∈ vs
  · by_cases hb : i < σ.length
    · rw [wipe_in hi hb, wipe_in hi (by rw [hl]; exact hb)]
    · rw [List.getElem?_eq_none (by rw [wipe_length]; omega), List.getElem?_eq_none (by rw [wipe_length]; omega)]
  · rw [wipe_get hi, wipe_get hi, h i hi]

/-! ### the comprehension -/
def lv : Bool → Nat
  | true => 1
  | false => 0
def testO (c : Option Ex) (g : Env) : Option (Bool × Env) := match c with
  | none => some (true, g)
  | some f => match f g with
    | .ok v g1 => match v.d with
      | .bl b => some (b, g1)
      | _ => none
    | _ => none
def lcL (t : Tg) (c : Option Ex) (e : Ex) (dp : Bool) (vs : List Nat) : List PL.D → Env → IOut
  | [], g => .ok [] g
  | d :: ds, g => match t.asg d g with
    | none => .bad
    | some g1 => match testO c g1 with
      | none => .bad
      | some (false, g2) => lcL t c e dp vs ds (killG vs g2)
      | some (true, g2) => match e g2 with
        |   .ok v g3 => if dp = true ∧ v.o ≠ 1 then .bad else match lcL t c e dp vs ds (killG vs g3) with
          | .ok rest g4 => .ok (v.d :: rest) g4
          | _ => .bad
        | _ => .bad
def eLc (s : Src) (t : Tg) (c : Option Ex) (e : Ex) (dp : Bool) (vs rs : List Nat) : Ex := fun g => match s g with
  | .ok ds g1 => match lcL t c e dp vs ds (killG vs g1) with
    | .ok out g2 => .ok ⟨.lst out, lv dp + 1⟩ (restG g1 rs g2)
    | _ => .bad
  | .exc x g1 => .exc x g1
  | .bad => .bad
abbrev Par.calm (P : Par) : Par := { P with W := fun _ _ _ _ => False }
/-- a clause's tests in the block -/
def tC? (X : Cx) (P : Par) : Option Ex → TT
  | none => tYes
  | some f => tB (tE X P f)
structure SC (X : Cx) (P : Par) (ifs : List Expr) (c : Option Ex) : Prop where
  pts : PTs X ifs (tC? X P c)
theorem sc_nil : SC X P [] none := ⟨pts_nil⟩
theorem sc_one {e : Expr} {f : Ex} (h : ST X P e f) : SC X P [e] (some f) := ⟨pts_one h.pt⟩
/-- what is reached behind the rest of the items -/
def LcGoal (X : Cx) (P : Par) (σ : St) (Q : VK) (dp : Bool) (gs : Env) (rs : List Nat) (F0 : Fz) (H0 : Hp) (own0 : Ow) (acc : List PL.D) : IOut → Prop
  | .ok rest g => End X P F0 H0 own0 σ Q ⟨.lst (acc ++ rest), lv dp + 1⟩ (restG gs rs g)
  | _ => False
/-- an expression that gives v, beside temporaries -/
theorem mid_eval1 {f : Ex} {ts : List Tmp} {v : Val} {R : VK} (m : MidAt X P σ ts H F0 H0 own0 F1 g1 own1) (e : f g1 = .ok v g2)
    (h : ∀ x L H2 F2 own2, MidAt X P σ (⟨x, v, L⟩ :: ts) H2 F0 H0 own0 F2 g2 own2 → Keep (c := cn X P) F1 F2 H H2 → R x H2) : tE X P f σ H R := by
  refine ⟨F1, g1, own1, m.g, ?_⟩
  rw [e]
  intro F' H' own' x L s I o fr
  have m' := mid_step m s I
  refine h x L H' F' own' ⟨I, m'.st, fun t ht => ?_, ?_, fun t ht a ha => ?_⟩ (s.keeps m.g)
  · rcases List.mem_cons.mp ht with rfl | ht
    · exact o
    · exact m'.own t ht
  · rw [List.flatMap_cons, List.nodup_append]
    refine ⟨fr.nd, m.nd, fun a ha b hb e => ?_⟩
    obtain ⟨t, ht, hb⟩ := List.mem_flatMap.mp hb
    subst e
    obtain ⟨_, h2, ⟨sh, h3⟩, _⟩ := m.sep t ht a hb
    rcases (fr.sep a ha).2.2.2 with ⟨i, z⟩ | z
    · exact h2 i z
    · rw [h3] at z; cases z
  · rcases List.mem_cons.mp ht with rfl | ht
    · obtain ⟨h1, h2, h3, h4⟩ := fr.sep a ha
      exact ⟨h1, h2, h3, young m.st h4⟩
    · exact m'.sep t ht a ha
theorem mid_bool1 {f : Ex} {ts : List Tmp} {b : Bool} {v : Val} {R : VK} (m : MidAt X P σ ts H F0 H0 own0 F1 g1 own1) (e : f g1 = .ok v g2) (hv : v.d = .bl b)
    (h : ∀ H2 F2 own2, MidAt X P σ ts H2 F0 H0 own0 F2 g2 own2 → Keep (c := cn X P) F1 F2 H H2 → R (.bl b) H2) : tE X P f σ H R := by
  refine mid_eval1 m e fun x L H2 F2 own2 m2 k => ?_
  have o := m2.own _ List.mem_cons_self
  have e2 : x = .bl b := by
    obtain ⟨vd, vn⟩ := v
    simp only at hv o
    subst hv
    cases o with
    | frz _ r => cases r; rfl
  subst e2
  exact h H2 F2 own2 (mid_drop m2) k
theorem mid_freezeAt {t : Tmp} {ts : List Tmp} (m : MidAt X P σ (t :: ts) H F0 H0 own0 F1 g1 own1) : MidAt X P σ (⟨t.x, ⟨t.v.d, 0⟩, []⟩ :: ts) H F0 H0 own0 (fun a => F1 a ∨ a ∈ t.L) g1 own1 := by
  have h0 : t ∈ t :: ts := List.mem_cons_self
  have up : ∀ a, F1 a → (F1 a ∨ a ∈ t.L) := fun a h => .inl h
  have nd := m.nd
  rw [List.flatMap_cons, List.nodup_append] at nd
  have ap : ∀ u ∈ ts, ∀ a ∈ u.L, a ∉ t.L := fun u hu a ha z => nd.2.2 a z a (List.mem_flatMap.mpr ⟨u, hu, ha⟩) rfl
  refine ⟨?_, ?_, fun u hu => ?_, by simpa using nd.2.1, fun u hu a ha => ?_⟩
  · refine ⟨m.g.len, m.g.slen, fun i v e => ?_, m.g.emp, m.g.nodup, m.g.disj, fun i a ha => ⟨fun z => ?_, (m.g.sep i a ha).2⟩, fun a z => ?_, m.g.pin⟩
    · obtain ⟨x, e1, o⟩ := m.g.slot i v e
      exact ⟨x, e1, o.keep (.more up) fun _ _ _ z => z⟩
    · rcases z with z | z
      · exact (m.g.sep i a ha).1 z
      · exact (m.sep t h0 a z).2.1 i ha
    · rcases z with z | z
      · exact m.g.frz a z
      · obtain ⟨sh, e⟩ := (m.sep t h0 a z).2.2.1
        exact ⟨_, e⟩
  · refine ⟨fun a z => .inl (m.st.fr a z), m.st.keep, fun a z => ?_, m.st.own, m.st.tr⟩
    rcases z with z | z
    · exact m.st.new a z
    · exact .inr (m.sep t h0 a z).2.2.2
  · rcases List.mem_cons.mp hu with rfl | hu
    · exact .of ((m.own t h0).freeze up fun a ha => .inr ha)
    · exact (m.own u (List.mem_cons_of_mem _ hu)).keep (.more up) fun _ _ _ z => z
  · rcases List.mem_cons.mp hu with rfl | hu
    · cases ha
    · obtain ⟨h1, h2⟩ := m.sep u (List.mem_cons_of_mem _ hu) a ha
      refine ⟨fun z => ?_, h2⟩
      rcases z with z | z
      · exact h1 z
      · exact ap u hu a ha z
/-- a list that is being made gets one more -/
theorem mid_push {ts : List Tmp} {n : Nat} {y : V} {d : PL.D} {Ly L : List Addr} {a : Addr} {acc : List PL.D} (m : MidAt X P σ (⟨y, ⟨d, n⟩, Ly⟩ :: ⟨.ref a, ⟨.lst acc, n + 1⟩, L⟩ :: ts) H F0 H0 own0 F1 g1 own1) :
    ∃ vs L', H a = some (.lst vs) ∧ vs.length = acc.length ∧ MidAt X P σ (⟨.ref a, ⟨.lst (acc ++ [d]), n + 1⟩, L'⟩ :: ts) (upd H a (.lst (vs ++ [y]))) F0 H0 own0 F1 g1 own1 := by
  have oy := m.own _ List.mem_cons_self
  have oa := m.own _ (List.mem_cons_of_mem _ List.mem_cons_self)
  have nd := m.nd
  rw [List.flatMap_cons, List.flatMap_cons, List.nodup_append, List.nodup_append] at nd
  obtain ⟨ndy, ⟨nda, ndt, ndat⟩, ndy2⟩ := nd
  simp only at oy oa ndy nda ndat ndy2
  cases oa with
  | frz z r =>
    rcases z with z | z
    · cases z
    · cases z
  | @lst _ _ vs _ L1 e r =>
    have hl : vs.length = acc.length := by
      have : ∀ {n : Nat} {vs : List V} {ds : List PL.D} {L : List Addr}, OwnA (cn X P) H F1 n vs ds L → vs.length = ds.length := by
        intro n vs
        induction vs with
        | nil => intro ds L h; cases h; rfl
        | cons v vs ih => intro ds L h; cases h with | cons h1 h2 => simp [ih h2]
      exact this r
    refine ⟨vs, a :: (L1 ++ Ly), e, hl, ?_⟩
    -- the writing
    have mid2 : MidAt X P σ (⟨.ref a, ⟨.lst acc, n + 1⟩, a :: L1⟩ :: ⟨y, ⟨d, n⟩, Ly⟩ :: ts) H F0 H0 own0 F1 g1 own1 := by
      refine ⟨m.g, m.st, fun t ht => m.own t ?_, ?_, fun t ht => m.sep t ?_⟩
      · rcases List.mem_cons.mp ht with z | ht
        · rw [z]; exact List.mem_cons_of_mem _ List.mem_cons_self
        · rcases List.mem_cons.mp ht with z | ht
          · rw [z]; exact List.mem_cons_self
          · exact List.mem_cons_of_mem _ (List.mem_cons_of_mem _ ht)
      · rw [List.flatMap_cons, List.flatMap_cons, List.nodup_append, List.nodup_append]
        refine ⟨nda, ⟨ndy, ndt, fun b hb c hc => ndy2 b hb c (List.mem_append_right _ hc)⟩, fun b hb c hc => ?_⟩
        rcases List.mem_append.mp hc with hc | hc
        · exact fun z => ndy2 c hc b (List.mem_append_left _ hb) z.symm
        · exact ndat b hb c hc
      · rcases List.mem_cons.mp ht with z | ht
        · rw [z]; exact List.mem_cons_of_mem _ List.mem_cons_self
        · rcases List.mem_cons.mp ht with z | ht
          · rw [z]; exact List.mem_cons_self
          · exact List.mem_cons_of_mem _ (List.mem_cons_of_mem _ ht)
    have m3 := mid_wr (sh := .lst (vs ++ [y])) mid2 (a := a) List.mem_cons_self
    have hy := m3.own _ List.mem_cons_self
    obtain ⟨nf, no, _, yg⟩ := m.sep ⟨.ref a, ⟨.lst acc, n + 1⟩, a :: L1⟩ (List.mem_cons_of_mem _ List.mem_cons_self) a List.mem_cons_self
    have kp : Keep (c := cn X P) F1 F1 H (upd H a (shO a (.lst (vs ++ [y])))) := wr_keep (sh := .lst vs) e nf
    have na1 : a ∉ L1 := (List.nodup_cons.mp nda).1
    have ra : OwnA (cn X P) (upd H a (.lst (vs ++ [y]))) F1 n vs acc L1 := r.keep kp fun b hb o e => by
      rw [upd_ne (show b ≠ a from fun z => na1 (by rw [← z]; exact hb))]; exact e
    have all := OwnA.append ra (OwnA.cons hy OwnA.nil)
    rw [List.append_nil] at all
    refine ⟨m3.g, m3.st, fun t ht => ?_, ?_, fun t ht b hb => ?_⟩
    · rcases List.mem_cons.mp ht with rfl | ht
      · exact .lst upd_same all
      · exact m3.own t (List.mem_cons_of_mem _ ht)
    · have q := mid2.nd
      simp only [List.flatMap_cons] at q ⊢
      simpa [List.append_assoc] using q
    · rcases List.mem_cons.mp ht with rfl | ht
      · rcases List.mem_cons.mp hb with rfl | hb
        · exact ⟨nf, no, ⟨.lst (vs ++ [y]), upd_same⟩, yg⟩
        · rcases List.mem_append.mp hb with hb | hb
          · obtain ⟨h1, h2, ⟨sh, h3⟩, h4⟩ := m.sep ⟨.ref a, ⟨.lst acc, n + 1⟩, a :: L1⟩ (List.mem_cons_of_mem _ List.mem_cons_self) b (List.mem_cons_of_mem _ hb)
            exact ⟨h1, h2, ⟨sh, by rw [upd_ne (show b ≠ a from fun z => na1 (by rw [← z]; exact hb))]; exact h3⟩, h4⟩
          · exact m3.sep ⟨y, ⟨d, n⟩, Ly⟩ List.mem_cons_self b hb
      · exact m3.sep t (List.mem_cons_of_mem _ ht) b hb
end
end PL

/-! PL8: list comprehensions, the proof. -/
namespace PL
open PySem PySem.Spec L2

section
variable {X : Cx} {P : Par} {σ : St} {H : Hp} {Q : VK} {s : Src} {t : Tg} {c : Option Ex} {e : Ex} {dp : Bool} {vs rs : List Nat}
/-- the block's frame: the names of the block forgotten -/
theorem blk_mid {σ σ2 : St} {H : Hp} {ts : List Tmp} {F0 : Fz} {H0 : Hp} {own0 : Ow} {F1 : Fz} {g1 : Env} {own1 : Ow} (hpv : ∀ p ∈ P.pz, p.1 ∉ vs) (hg : ∀ j, j ∉ vs → σ2[j]? = σ[j]?) (m : MidAt X P σ2 ts H F0 H0 own0 F1 g1 own1) (hl : σ.length = X.N.length) :
    ∃ own2, MidAt X P (wipe σ vs) ts H F0 H0 own0 F1 (killG vs g1) own2 := by
  obtain ⟨own2, I2, hle⟩ := m.g.kill (ks := vs)
  refine ⟨own2, mid_step m (.less hle) (I2.resig (fun i v h => ?_) (by rw [wipe_length]; exact hl) fun p hp => ?_)⟩
  · obtain ⟨_, hn⟩ := kill_none h
    rw [wipe_get hn, hg i hn]
  · rw [wipe_get (hpv p hp), hg _ (hpv p hp)]
theorem mid_calm {σ : St} {H : Hp} {ts : List Tmp} {F0 : Fz} {H0 : Hp} {own0 : Ow} {F1 : Fz} {g1 : Env} {own1 : Ow} (m : MidAt X P σ ts H F0 H0 own0 F1 g1 own1) : MidAt X P.calm σ ts H F0 H0 own0 F1 g1 own1 := ⟨m.g, m.st, m.own, m.nd, m.sep⟩
theorem mid_uncalm {σ : St} {H : Hp} {ts : List Tmp} {F0 : Fz} {H0 : Hp} {own0 : Ow} {F1 : Fz} {g1 : Env} {own1 : Ow} (m : MidAt X P.calm σ ts H F0 H0 own0 F1 g1 own1) : MidAt X P σ ts H F0 H0 own0 F1 g1 own1 := ⟨m.g, m.st, m.own, m.nd, m.sep⟩
theorem own_lst_len {c : Cn} {H : Hp} {F : Fz} {n : Nat} {a : Addr} {acc : List PL.D} {L : List Addr} (o : Own c H F (n + 1) (.ref a) (.lst acc) L) : a ∈ L := by
  cases o with
  | frz z r =>
    rcases z with z | z
    · cases z
    · cases z
  | lst e r => exact List.mem_cons_self
theorem core_lc (hsl : ∀ i ∈ t.sl, i ∈ vs) (hpv : ∀ p ∈ P.pz, p.1 ∉ vs) (q : tE X P (eLc s t c e dp vs rs) σ H Q) : tLc (tI X P s) (tG X P.calm t) (tC? X P.calm c) (tE X P.calm e) vs σ H Q := by
  obtain ⟨F, g, own, I, q⟩ := q
  refine ⟨F, g, own, I, ?_⟩
  unfold eLc at q
  cases es : s g with
  | bad => rw [es] at q; exact q
  | exc x g1 => rw [es] at q; exact q
  | ok ds gs =>
    rw [es] at q
    intro F' H' own' J st I' it hz D hD
    have q0 : LcGoal X P σ Q dp gs rs F H own [] (lcL t c e dp vs ds (killG vs gs)) := by
      simp only at q
      cases el : lcL t c e dp vs ds (killG vs gs) with
      | ok out g2 => rw [el] at q; exact q
      | exc x g2 => rw [el] at q; exact q
      | bad => rw [el] at q; exact q
    have gr0 : Grow H' (upd H' D (.lst [])) := .upd hD
    have noD : ∀ i, D ∉ own' i := fun i hi => by
      obtain ⟨_, sh, e⟩ := I'.sep i D hi
      rw [hD] at e; cases e
    have m00 : MidAt X P σ [⟨.ref D, ⟨.lst [], lv dp + 1⟩, [D]⟩] (upd H' D (.lst [])) F H own F' gs own' := by
      refine ⟨I'.grow gr0, st.trans gr0.step, fun u hu => ?_, by simp, fun u hu a ha => ?_⟩
      · rw [List.mem_singleton.mp hu]
        exact .lst upd_same .nil
      · rw [List.mem_singleton.mp hu] at ha
        have e : a = D := by simpa using ha
        subst e
        refine ⟨fun f => ?_, noD, ⟨.lst [], upd_same⟩, young st (.inr hD)⟩
        obtain ⟨o, e⟩ := I'.frz _ f
        rw [hD] at e; cases e
    obtain ⟨ownB, m0⟩ := blk_mid (vs := vs) (σ := σ) hpv (fun _ _ => rfl) m00 I'.slen
    have hw : ∀ {σ2 : St}, (∀ j, j ∉ t.sl → σ2[j]? = (wipe σ vs)[j]?) → ∀ j, j ∉ vs → σ2[j]? = σ[j]? := fun {σ2} h j hj => by rw [h j fun z => hj (hsl j z), wipe_get hj]
    refine ⟨fun i m σ1 => m = ds.length - i ∧ i ≤ ds.length ∧ ∃ F1 g1 own1 acc L, MidAt X P (wipe σ vs) [⟨.ref D, ⟨.lst acc, lv dp + 1⟩, L⟩] σ1 F H own F1 g1 own1 ∧ acc.length ≤ i ∧ Keep (c := cn X P) F' F1 H' σ1 ∧ (∀ j ∈ vs, ∀ v : Val, g1[j]? ≠ some (some v)) ∧
      LcGoal X P σ Q dp gs rs F H own acc (lcL t c e dp vs (ds.drop i) g1), ⟨_, rfl, Nat.zero_le _, F', _, ownB, [], _, m0, Nat.le_refl _, gr0.keep, fun j hj v h => (kill_none h).2 hj, q0⟩, ?_⟩
    rintro i m H1 ⟨rfl, hi, F1, g1, own1, acc, L, m1, ha, kp, hn, q1⟩
    obtain ⟨j1, j2, j3⟩ := it F1 H1 kp m1.g.frz i
    by_cases hlt : i < ds.length
    · refine .inr ⟨j1 hlt, fun H2 => ∃ F1 g1 own1 acc L, MidAt X P (wipe σ vs) [⟨.ref D, ⟨.lst acc, lv dp + 1⟩, L⟩] H2 F H own F1 g1 own1 ∧ acc.length ≤ i + 1 ∧ Keep (c := cn X P) F' F1 H' H2 ∧ (∀ j ∈ vs, ∀ v : Val, g1[j]? ≠ some (some v)) ∧
        LcGoal X P σ Q dp gs rs F H own acc (lcL t c e dp vs (ds.drop (i + 1)) g1), fun H2 h => ⟨_, by omega, rfl, hlt, h⟩, fun x H2 y => ?_⟩
      obtain ⟨d, ed, gr, rp⟩ := j3 x H2 hlt y
      have hd : ds.drop i = d :: ds.drop (i + 1) := by
        rw [List.drop_eq_getElem_cons hlt]
        rw [List.getElem?_eq_getElem hlt] at ed
        cases ed; rfl
      rw [hd] at q1
      unfold lcL at q1
      cases ea : t.asg d g1 with
      | none => rw [ea] at q1; exact False.elim q1
      | some g2 =>
        rw [ea] at q1
        simp only at q1
        have m2 : MidAt X P (wipe σ vs) [⟨.ref D, ⟨.lst acc, lv dp + 1⟩, L⟩] H2 F H own F1 g1 own1 := mid_step m1 gr.step (m1.g.grow gr)
        refine ⟨F1, g1, own1, d, g2, m2.g, rp, ea, fun σ2 own3 ag s3 I3 => ?_⟩
        have m3 : MidAt X P σ2 [⟨.ref D, ⟨.lst acc, lv dp + 1⟩, L⟩] H2 F H own F1 g2 own3 := mid_step m2 s3 I3
        have kp2 : Keep (c := cn X P) F' F1 H' H2 := kp.trans gr.keep
        have hσ := hw ag
        have hs2 : σ2.length = σ.length := by
          have h1 : σ2.length = X.N.length := I3.slen
          have h2 : σ.length = X.N.length := I'.slen
          rw [h1, h2]
        refine ⟨?_, ?_⟩
        · rw [wipe_eq hσ hs2]
        · -- what follows the test
          have fin : ∀ (b : Bool) (g3 : Env) (H3 : Hp) (F3 : Fz) (own4 : Ow), MidAt X P σ2 [⟨.ref D, ⟨.lst acc, lv dp + 1⟩, L⟩] H3 F H own F3 g3 own4 → Keep (c := cn X P) F' F3 H' H3 →
              LcGoal X P σ Q dp gs rs F H own acc (match b with
                | false => lcL t c e dp vs (ds.drop (i + 1)) (killG vs g3)
                | true => match e g3 with
                  | .ok v g4 => if dp = true ∧ v.o ≠ 1 then .bad else match lcL t c e dp vs (ds.drop (i + 1)) (killG vs g4) with
                    | .ok rest g5 => .ok (v.d :: rest) g5
                    | _ => .bad
                  | _ => .bad) →
              if b = true then tE X P.calm e σ2 H3 fun y H4 => ∃ av, H4 D = some (.lst av) ∧ av.length < sizeLine ∧ ∃ F1 g1 own1 acc L, MidAt X P (wipe σ vs) [⟨.ref D, ⟨.lst acc, lv dp + 1⟩, L⟩] (upd H4 D (.lst (av ++ [y]))) F H own F1 g1 own1 ∧ acc.length ≤ i + 1 ∧ Keep (c := cn X P) F' F1 H' (upd H4 D (.lst (av ++ [y]))) ∧ (∀ j ∈ vs, ∀ v : Val, g1[j]? ≠ some (some v)) ∧
                LcGoal X P σ Q dp gs rs F H own acc (lcL t c e dp vs (ds.drop (i + 1)) g1)
              else ∃ F1 g1 own1 acc L, MidAt X P (wipe σ vs) [⟨.ref D, ⟨.lst acc, lv dp + 1⟩, L⟩] H3 F H own F1 g1 own1 ∧ acc.length ≤ i + 1 ∧ Keep (c := cn X P) F' F1 H' H3 ∧ (∀ j ∈ vs, ∀ v : Val, g1[j]? ≠ some (some v)) ∧
                LcGoal X P σ Q dp gs rs F H own acc (lcL t c e dp vs (ds.drop (i + 1)) g1) := by
            intro b g3 H3 F3 own4 m4 kp3 q2
            cases b with
            | false =>
              obtain ⟨own5, m5⟩ := blk_mid (vs := vs) hpv hσ m4 I'.slen
              exact itff ⟨F3, _, own5, acc, L, m5, by omega, kp3, fun j hj v h => (kill_none h).2 hj, q2⟩
            | true =>
              refine ittt ?_
              simp only at q2
              cases ev : e g3 with
              | bad => rw [ev] at q2; exact False.elim q2
              | exc x g4 => rw [ev] at q2; exact False.elim q2
              | ok v g4 =>
                rw [ev] at q2
                simp only at q2
                split at q2
                · exact False.elim q2
                · rename_i hdp
                  refine mid_eval1 (P := P.calm) (X := X) (mid_calm m4) ev fun y Ly H4 F4 own5 m5 k5 => ?_
                  have m5 := mid_uncalm m5
                  have q3 : LcGoal X P σ Q dp gs rs F H own (acc ++ [v.d]) (lcL t c e dp vs (ds.drop (i + 1)) (killG vs g4)) := by
                    cases el : lcL t c e dp vs (ds.drop (i + 1)) (killG vs g4) with
                    | ok rest g5 =>
                      rw [el] at q2
                      have q2 : End X P F H own σ Q ⟨.lst (acc ++ v.d :: rest), lv dp + 1⟩ (restG gs rs g5) := q2
                      have e1 : acc ++ v.d :: rest = (acc ++ [v.d]) ++ rest := by simp
                      rw [e1] at q2
                      exact q2
                    | exc x g5 => rw [el] at q2; exact False.elim q2
                    | bad => rw [el] at q2; exact False.elim q2
                  -- frozen or kept
                  have mk : ∃ F6 L6, MidAt X P σ2 (⟨y, ⟨v.d, lv dp⟩, L6⟩ :: [⟨.ref D, ⟨.lst acc, lv dp + 1⟩, L⟩]) H4 F H own F6 g4 own5 ∧ Keep (c := cn X P) F' F6 H' H4 := by
                    cases dp with
                    | true =>
                      have hv : v.o = 1 := by
                        by_cases h : v.o = 1
                        · exact h
                        · exact absurd ⟨rfl, h⟩ hdp
                      obtain ⟨vd, vn⟩ := v
                      simp only at hv
                      subst hv
                      exact ⟨F4, Ly, m5, kp3.trans k5⟩
                    | false => exact ⟨_, [], mid_freezeAt m5, (kp3.trans k5).trans (.more fun _ h => .inl h)⟩
                  obtain ⟨F6, L6, m6, k6⟩ := mk
                  obtain ⟨av, L7, eD, hlen, m7⟩ := mid_push m6
                  refine ⟨av, eD, by rw [hlen]; omega, ?_⟩
                  obtain ⟨own8, m8⟩ := blk_mid (vs := vs) hpv hσ m7 I'.slen
                  have hDF : ¬ F6 D := (m6.sep _ (List.mem_cons_of_mem _ List.mem_cons_self) D (own_lst_len (m6.own _ (List.mem_cons_of_mem _ List.mem_cons_self)))).1
                  exact ⟨F6, _, own8, acc ++ [v.d], L7, m8, by simp; omega, k6.trans (wr_keep (sh := .lst av) (sh' := .lst (av ++ [y])) eD hDF), fun j hj v h => (kill_none h).2 hj, q3⟩
          cases c with
          | none => exact fin true g2 H2 F1 own3 m3 kp2 q1
          | some f =>
            unfold testO at q1
            simp only at q1
            cases ef : f g2 with
            | bad => rw [ef] at q1; exact False.elim q1
            | exc x g3 => rw [ef] at q1; exact False.elim q1
            | ok v g3 =>
              rw [ef] at q1
              simp only at q1
              cases hv : v.d with
              | bl b =>
                rw [hv] at q1
                refine mid_bool1 (P := P.calm) (X := X) (b := b) (mid_calm m3) ef hv fun H3 F3 own4 m4 k4 => ⟨b, rfl, ?_⟩
                have m4 := mid_uncalm m4
                refine fin b g3 H3 F3 own4 m4 (kp2.trans k4) ?_
                cases b <;> exact q1
              | _ => rw [hv] at q1; exact False.elim q1
    · have e1 : i = ds.length := by omega
      subst e1
      rw [List.drop_length] at q1
      refine .inl ⟨j2 (Nat.le_refl _), ?_⟩
      have q2 : End X P F H own σ Q ⟨.lst (acc ++ []), lv dp + 1⟩ (restG gs rs g1) := q1
      rw [List.append_nil] at q2
      have I2 : GX X P F1 H1 σ g1 own1 := m1.g.resig (fun j v h => by
        rw [wipe_get fun z => hn j z v h]) I'.slen fun p hp => by rw [wipe_get (hpv p hp)]
      obtain ⟨own2, I3, hle⟩ := I2.rest (g0 := gs) (rs := rs) fun j v h hz => by
        obtain ⟨x, hx, o⟩ := I'.slot j v h
        rw [hz] at o
        exact ⟨x, hx, o.zero.1.keep kp⟩
      have m2 : MidAt X P σ [⟨.ref D, ⟨.lst acc, lv dp + 1⟩, L⟩] H1 F H own F1 (restG gs rs g1) own2 := mid_step m1 (.less hle) I3
      have h0 := List.mem_singleton.mpr (rfl : (⟨.ref D, ⟨.lst acc, lv dp + 1⟩, L⟩ : Tmp) = _)
      exact q2 F1 H1 own2 _ L m2.st m2.g (m2.own _ h0) ⟨by have := m2.nd; simpa using this, m2.sep _ h0⟩
variable {elt tg iter : Expr} {ifs : List Expr} {scope : Scope} {pos : Pos} {nm : List (Str × Nat)}
/-- [elt for tg in iter if ..] -/
theorem s_lc (hc : X.calm = true) (hN : X.N.Nodup) (hi : SI X P tg iter s) (ok : BlkOk X.N X.env.scope scope nm) (hv : nm.map (·.2) = vs) (hsl : ∀ i ∈ t.sl, i ∈ vs) (hpv : ∀ p ∈ P.pz, p.1 ∉ vs)
    (hg : ∀ (s : Shared) (H : Hp) (C : Addr) (cl : List (Str × Addr)) (fp : List Addr), SG (X.blk s H scope (compEnvC scope cl C X.env) fp) P.calm tg t)
    (ht : ∀ (s : Shared) (H : Hp) (C : Addr) (cl : List (Str × Addr)) (fp : List Addr), SC (X.blk s H scope (compEnvC scope cl C X.env) fp) P.calm ifs c)
    (he : ∀ (s : Shared) (H : Hp) (C : Addr) (cl : List (Str × Addr)) (fp : List Addr), SE (X.blk s H scope (compEnvC scope cl C X.env) fp) P.calm elt e)
    (hs : ∀ x, foldedSetIterable iter X.env x = pure x := by intro _; rfl) : SE X P (.ListComp elt [⟨tg, iter, ifs, 0⟩] scope pos) (eLc s t c e dp vs rs) := by
  subst hv
  exact ⟨pe_imp (pe_lc hc hN hi.pi ok (g := tG X P.calm t) (tt := tC? X P.calm c) (te := tE X P.calm e) (fun s H C cl fp => (hg s H C cl fp).pg) (fun s H C cl fp => (ht s H C cl fp).pts) (fun s H C cl fp => (he s H C cl fp).pe) hs) fun σ H Q q => core_lc hsl hpv q⟩
/-- name = [..] on one line -/
theorem s_setLc {i : Nat} {y : Str} {py spos : Pos} {k : Bool} (hc : X.calm = true) (hN : X.N.Nodup) (hy : X.N[i]? = some y) (hyl : X.env.scope.names.lookup y = some .local)
    (hsw : swapsWith (.ListComp elt [⟨tg, iter, ifs, 0⟩] scope pos) (some (.Name y py)) spos.line X.env = pure true) (hpz : i ∉ P.pz.map (·.1))
    (hi : SI X P tg iter s) (ok : BlkOk X.N X.env.scope scope nm) (hv : nm.map (·.2) = vs) (hsl : ∀ i ∈ t.sl, i ∈ vs) (hpv : ∀ p ∈ P.pz, p.1 ∉ vs)
    (hg : ∀ (s : Shared) (H : Hp) (C : Addr) (cl : List (Str × Addr)) (fp : List Addr), SG (X.blk s H scope (compEnvC scope cl C X.env) fp) P.calm tg t)
    (ht : ∀ (s : Shared) (H : Hp) (C : Addr) (cl : List (Str × Addr)) (fp : List Addr), SC (X.blk s H scope (compEnvC scope cl C X.env) fp) P.calm ifs c)
    (he : ∀ (s : Shared) (H : Hp) (C : Addr) (cl : List (Str × Addr)) (fp : List Addr), SE (X.blk s H scope (compEnvC scope cl C X.env) fp) P.calm elt e)
    (hs : ∀ x, foldedSetIterable iter X.env x = pure x := by intro _; rfl) : SS X P (.Assign [.Name y py] (.ListComp elt [⟨tg, iter, ifs, 0⟩] scope pos) spos) (sSet i k (eLc s t c e dp vs rs)) := by
  subst hv
  exact ⟨ps_imp (ps_setLc hc hN hy hyl hsw hi.pi ok (g := tG X P.calm t) (tt := tC? X P.calm c) (te := tE X P.calm e) (fun s H C cl fp => (hg s H C cl fp).pg) (fun s H C cl fp => (ht s H C cl fp).pts) (fun s H C cl fp => (he s H C cl fp).pe) hs)
    fun D σ H q => core_lc hsl hpv (core_set (List.getElem?_eq_some_iff.mp hy).1 hpz q)⟩
end
end PL

/-! PL9: displays, calls of defs, a def's promise, raise, try. -/
namespace PL
open PySem PySem.Spec PySem.Calls L2

/-- what a def gives -/
inductive FOut where
  | ok (v : Val) | exc (x : Exc) | bad
section
variable {X : Cx} {P : Par} {σ : St} {H : Hp} {Q : VK} {ts : List Tmp}
/-! ### several values, frozen -/
def goE : List Ex → (List PL.D → Env → Out) → Env → Out
  | [], k, g => k [] g
  | f :: fs, k, g => bindO (f g) fun v g1 => goE fs (fun ds g2 => k (v.d :: ds) g2) g1
def tEs (X : Cx) (P : Par) : List Ex → TA
  | [] => tNil
  | f :: fs => tCons (tE X P f) (tEs X P fs)
structure SL (X : Cx) (P : Par) (es : List Expr) (fs : List Ex) : Prop where
  pa : PA X es (tEs X P fs)
theorem sl_nil : SL X P [] [] := ⟨pa_nil⟩
theorem sl_cons {e : Expr} {es : List Expr} {f : Ex} {fs : List Ex} (h : SE X P e f) (hs : SL X P es fs) (hst : starEach (e :: es) X.env = (false, eval e X.env) :: starEach es X.env := by rfl) : SL X P (e :: es) (f :: fs) := ⟨pa_cons h.pe hs.pa hst⟩
inductive RCs (ts : List Tmp) : List V → List PL.D → Prop
  | nil : RCs ts [] []
  | cons {x : V} {xs : List V} {d : PL.D} {ds : List PL.D} : (⟨x, ⟨d, 0⟩, []⟩ : Tmp) ∈ ts → RCs ts xs ds → RCs ts (x :: xs) (d :: ds)
theorem RCs.up {ts' : List Tmp} (u : ∀ x d, (⟨x, ⟨d, 0⟩, []⟩ : Tmp) ∈ ts → (⟨x, ⟨d, 0⟩, []⟩ : Tmp) ∈ ts') : ∀ {xs : List V} {ds : List PL.D}, RCs ts xs ds → RCs ts' xs ds
  | _, _, .nil => .nil
  | _, _, .cons h t => .cons (u _ _ h) (RCs.up u t)
theorem RCs.rp {F0 : Fz} {H0 : Hp} {own0 : Ow} {F1 : Fz} {g1 : Env} {own1 : Ow} (m : MidAt X P σ ts H F0 H0 own0 F1 g1 own1) : ∀ {xs : List V} {ds : List PL.D}, RCs ts xs ds → RpA (cn X P) H F1 xs ds
  | _, _, .nil => .nil
  | _, _, .cons h t => .cons (m.own _ h).zero.1 (RCs.rp m t)
theorem RCs.length : ∀ {xs : List V} {ds : List PL.D}, RCs ts xs ds → xs.length = ds.length
  | _, _, .nil => rfl
  | _, _, .cons _ t => by simp [RCs.length t]
theorem tEs_mono : ∀ {as : List Ex} {H : Hp} {Q Q' : List V → Hp → Prop}, tEs X P as σ H Q → (∀ x H, Q x H → Q' x H) → tEs X P as σ H Q'
  | [], _, _, _, h, i => i _ _ h
  | _ :: _, _, _, _, h, i => tE_mono h fun x H1 h1 => tEs_mono h1 fun xs H2 h2 => i _ _ h2
theorem mid_exs {k : Fz → Hp → Ow → Val → Env → Prop} : ∀ {as : List Ex} {ts : List Tmp} {H : Hp} {r : List PL.D → Env → Out}, Mid X P σ ts (fun F0 H0 own0 g => PostK X P F0 H0 own0 σ (k F0 H0 own0) (goE as r g)) H →
    tEs X P as σ H fun xs H1 => ∃ ts' ds, RCs ts' xs ds ∧ (∀ x d, (⟨x, ⟨d, 0⟩, []⟩ : Tmp) ∈ ts → (⟨x, ⟨d, 0⟩, []⟩ : Tmp) ∈ ts') ∧ ds.length = as.length ∧ Mid X P σ ts' (fun F0 H0 own0 g => PostK X P F0 H0 own0 σ (k F0 H0 own0) (r ds g)) H1
  | [], ts, H, r, h => ⟨ts, [], .nil, fun _ _ z => z, rfl, h⟩
  | f :: fs, ts, H, r, h => by
    have h' := mid_imp (B' := fun F0 H0 own0 g => PostK X P F0 H0 own0 σ (fun v g1 => PostK X P F0 H0 own0 σ (k F0 H0 own0) (goE fs (fun ds g2 => r (v.d :: ds) g2) g1)) (f g)) h fun F0 H0 own0 g q => by
      have q' : PostK X P F0 H0 own0 σ (k F0 H0 own0) (bindO (f g) fun v g1 => goE fs (fun ds g2 => r (v.d :: ds) g2) g1) := q
      rw [postK_bind] at q'
      exact q'
    refine tE_mono (mid_eval h') fun x H1 ⟨v, L, mm⟩ => ?_
    refine tEs_mono (mid_exs (mid_freeze mm)) fun xs H2 ⟨ts', ds, rc, up, hl, m2⟩ => ?_
    exact ⟨ts', v.d :: ds, .cons (up _ _ List.mem_cons_self) rc, fun x d z => up _ _ (List.mem_cons_of_mem _ z), by simp [hl], m2⟩
/-! ### (a, b), [a, b] -/
def eTup (fs : List Ex) : Ex := goE fs fun ds g => .ok ⟨.tup ds, 0⟩ g
def eLst (fs : List Ex) : Ex := goE fs fun ds g => .ok ⟨.lst ds, 1⟩ g
variable {es : List Expr} {fs : List Ex} {pos : Pos}
theorem s_tup {k : Nat} (h : SL X P es fs) (hl : fs.length ≤ 16777216 := by decide) : SE X P (.Tuple es k pos) (eTup fs) := by
  refine ⟨pe_imp (pe_tup h.pa) fun σ H Q q => tEs_mono (mid_exs (mid_of q)) fun xs H1 ⟨ts, ds, rc, _, hd, F0, H0, own0, F1, g1, own1, m, q1⟩ => ⟨?_, fun p hp => ?_⟩⟩
  · rw [rc.length, hd, sizeLine_eq]; exact hl
  · exact (mid_end2 m q1).tup hp (rc.rp m)
theorem s_lst (h : SL X P es fs) (hl : fs.length ≤ 16777216 := by decide) : SE X P (.List es pos) (eLst fs) := by
  refine ⟨pe_imp (pe_lst h.pa) fun σ H Q q => tEs_mono (mid_exs (mid_of q)) fun xs H1 ⟨ts, ds, rc, _, hd, F0, H0, own0, F1, g1, own1, m, q1⟩ => ⟨?_, fun p hp => ?_⟩⟩
  · rw [rc.length, hd, sizeLine_eq]; exact hl
  · exact (mid_end2 m q1).lst hp (rc.rp m)

/-! ### calls -/
/-- what a call may leave: nothing that stood is changed -/
structure Left (F : Fz) (H : Hp) (F' : Fz) (H' : Hp) : Prop where
  fr : ∀ a, F a → F' a
  gr : Grow H H'
  new : ∀ a, F' a → F a ∨ H a = none
  trk : Trk F' H'
/-- a def's promise by its function on data -/
def spF (c : Cn) (cls : Nat → Option Addr) (m : Nat) (f : List PL.D → FOut) : Sp := fun vs H Q E => ∃ F ds, ds.length = m ∧ Trk F H ∧ RpA c H F vs ds ∧ match f ds with
  | .ok v => ∀ F' H' x L, Left F H F' H' → Own c H' F' v.o x v.d L → L.Nodup → (∀ a ∈ L, ¬ F' a ∧ H a = none ∧ ∃ sh, H' a = some (shO a sh)) → Q x H'
  | .exc x => ∀ F' H' k d, Left F H F' H' → ExR cls x k d H' → E k d H'
  | .bad => False
def eCall (f : List PL.D → FOut) (fs : List Ex) : Ex := goE fs fun ds g => match f ds with
  | .ok v => .ok v g
  | .exc x => .exc x g
  | .bad => .bad
theorem G.left {c : Cn} {n : Nat} {pz : List (Nat × V)} {F F' : Fz} {H H' : Hp} {g : Env} {own : Ow} (I : G c n pz F H σ g own) (l : Left F H F' H') : G c n pz F' H' σ g own where
  len := I.len
  slen := I.slen
  slot := fun i v e => let ⟨x, h, o⟩ := I.slot i v e; ⟨x, h, (o.keep (Grow.keep (c := c) l.gr) fun a _ ob e => l.gr a ob e).keep (.more l.fr) fun _ _ _ z => z⟩
  emp := I.emp
  nodup := I.nodup
  disj := I.disj
  sep := fun i a h => by
    obtain ⟨h1, sh, h2⟩ := I.sep i a h
    refine ⟨fun z => ?_, sh, l.gr _ _ h2⟩
    rcases l.new a z with z | z
    · exact h1 z
    · rw [h2] at z; cases z
  frz := l.trk
  pin := I.pin
theorem Left.step {F F' : Fz} {H H' : Hp} {own : Ow} (l : Left F H F' H') : Step F H own F' H' own :=
  ⟨l.fr, fun a o h _ => l.gr a o h, fun a h => (l.new a h).elim .inl fun z => .inr (.inr z), fun i _ h => .inl ⟨i, h⟩, fun a o h => ⟨o, l.gr a o h⟩⟩
variable {x : Str} {p : Pos} {e : Expr} {k : Nat} {f : Addr} {fd : FuncData} {ps : List Str} {F : List PL.D → FOut}
theorem core_call (q : tE X P (eCall F fs) σ H Q) (hm : fs.length = ps.length) : tEs X P fs σ H fun vs H1 => spF (cn X P) P.cls ps.length F vs H1 Q (WE P.W σ) := by
  refine tEs_mono (mid_exs (mid_of q)) fun xs H1 ⟨ts, ds, rc, _, hd, F0, H0, own0, F1, g1, own1, m, q1⟩ => ?_
  refine ⟨F1, ds, by rw [hd, hm], m.g.frz, rc.rp m, ?_⟩
  simp only at q1
  cases e : F ds with
  | bad => rw [e] at q1; exact q1
  | exc x =>
    rw [e] at q1
    exact fun F' H' k d l r => q1 F' H' own1 k d (m.st.trans l.step) (m.g.left l) r
  | ok v =>
    rw [e] at q1
    intro F' H' x L l o nd sep
    refine q1 F' H' own1 x L (m.st.trans l.step) (m.g.left l) o ⟨nd, fun a ha => ?_⟩
    obtain ⟨h1, h2, h3⟩ := sep a ha
    refine ⟨h1, fun i hi => ?_, h3, young m.st (.inr h2)⟩
    obtain ⟨_, sh, e⟩ := m.g.sep i a hi
    rw [h2] at e; cases e
theorem s_call (Fk : FnOk X.prog X.w X.K X.mg X.base (L2.CX X.prog X.w) k f fd ps (spF (cn X P) P.cls ps.length F)) (hr : Room k X.A) (tk : Takes X P.W) (hg : Gl X x) (hm : X.mg x = some (.ref f)) (hk : PySem.W.keepIn X.K (.ref f) = true) (hb : Binds X.K fd ps [])
    (ha : SL X P (e :: es) fs) (hl : fs.length = ps.length := by rfl) (hdb : (x == ("__debug__" : Str)) = false := by decide)
    (he : starEach (e :: es) X.env = (false, eval e X.env) :: starEach es X.env := by rfl) (hpl : (backTo pos (starEach es X.env)).any (·.1) = false := by rfl) : SE X P (.Call (.Name x p) (e :: es) [] pos) (eCall F fs) :=
  ⟨pe_imp (pe_callS Fk hr hg hm hk hb (fun σ => passAt tk σ) ha.pa hdb he hpl) fun σ H Q q => core_call q hl⟩
end

/-! ### a def by its body -/
def fnS (n m : Nat) (b : Sx) (ds : List PL.D) : FOut := if ds.length = m then (match b (ds.map (fun d => some ⟨d, 0⟩) ++ List.replicate (n - m) none) with
  | .ret v _ => .ok v
  | .nx _ => .ok ⟨.non, 0⟩
  | .exc x _ => .exc x
  | _ => .bad) else .bad
theorem G.begin {c : Cn} {N : List Str} {F : Fz} {H : Hp} {vs : List V} {ds : List PL.D} (r : RpA c H F vs ds) (tr : Trk F H) (hn : ds.length ≤ N.length) : G c N.length [] F H (start N vs) (ds.map (fun d => some ⟨d, 0⟩) ++ List.replicate (N.length - ds.length) none) (fun _ => []) := by
  have hl := r.length
  refine ⟨by simp; omega, by unfold L2.start; simp; omega, fun i v e => ?_, fun _ _ => rfl, fun _ => List.nodup_nil, (fun _ _ _ _ h => nomatch h), (fun _ _ h => nomatch h), tr, (fun _ h => nomatch h)⟩
  by_cases hi : i < ds.length
  · rw [List.getElem?_append_left (by simpa using hi), List.getElem?_map] at e
    cases ed : ds[i]? with
    | none => rw [ed] at e; cases e
    | some d =>
      rw [ed] at e
      have e : v = ⟨d, 0⟩ := by
        have := Option.some.inj (Option.some.inj e)
        exact this.symm
      subst e
      obtain ⟨x, hx, rx⟩ := r.get' ed
      refine ⟨x, ?_, .of rx⟩
      unfold L2.start
      rw [List.getElem?_append_left (by simp; omega), List.getElem?_map, hx]
      rfl
  · rw [List.getElem?_append_right (by simpa using hi), List.getElem?_replicate] at e
    split at e <;> cases e
section
variable {P : Program} {w : World} {K : PySem.W.Frag} {mg : Str → Option Value} {base : Heap} {x qual : Str} {params : Arguments} {body : List Stmt} {scope : Scope} {f : Addr} {fd : FuncData} {N ps : List Str} {k : Nat} {b : Sx}
abbrev parE (fns : Fns) (cls : Nat → Option Addr) (E : XK) : Par := ⟨fns, cls, [], fun k d _ H => E k d H⟩
theorem fn_ok (Fd : FunD K x qual params body scope [] [] f fd) (S : FnScope N ps scope) (fns : Fns) (cls : Nat → Option Addr) (hN : ps.length ≤ N.length)
    (hb : ∀ (cdv : Value) (A : Around) (outer : List PySem.Env) (s : Shared) (H : Hp) (E : XK), Room k (A.deeper (PyProof.Rows.envOfC qual scope s.heap.objs.size f cdv)) →
      SB (cxOf (L2.CX P w) P w K mg base N qual scope f cdv A outer s H E) (parE fns cls E) body b) :
    FnOk P w K mg base (L2.CX P w) (k + 1) f fd ps (spF ⟨K, w, fns⟩ cls ps.length (fnS N.length ps.length b)) := by
  refine Fd.ok S (fun vs H Q E h => ?_) fun cdv A outer s H vs Q E hr h => ⟨_, (hb cdv A outer s H E hr).ps, ?_⟩
  · obtain ⟨F, ds, hl, _, r, _⟩ := h
    rw [r.length, hl]
  · obtain ⟨F, ds, hl, tr, r, q⟩ := h
    have I := G.begin (N := N) r tr (by omega)
    refine ⟨F, _, _, I, ?_⟩
    unfold fnS at q
    rw [if_pos hl, ← hl] at q
    have lf : ∀ {F' : Fz} {H' : Hp} {own' : Ow} {σ' : St} {g' : Env}, Step F H (fun _ => []) F' H' own' → G ⟨K, w, fns⟩ N.length [] F' H' σ' g' own' → Left F H F' H' := fun s I => ⟨s.fr, (fun a o h => s.keep a o h (fun i hi => nomatch hi)), (fun a h => by
      rcases s.new a h with z | ⟨i, z⟩ | z
      · exact .inl z
      · cases z
      · exact .inr z), I.frz⟩
    cases eb : b (ds.map (fun d => some ⟨d, 0⟩) ++ List.replicate (N.length - ds.length) none) with
    | nx g =>
      rw [eb] at q
      exact fun F' H' own' σ' s I' => q F' H' .non [] (lf s I') (.of .non) List.nodup_nil fun _ h => nomatch h
    | ret v g =>
      rw [eb] at q
      exact fun F' H' own' σ' x L s I' o fr => q F' H' x L (lf s I') o fr.nd fun a ha => by
        obtain ⟨h1, _, h3, h4⟩ := fr.sep a ha
        refine ⟨h1, ?_, h3⟩
        rcases h4 with ⟨i, z⟩ | z
        · cases z
        · exact z
    | exc e g =>
      rw [eb] at q
      exact fun F' H' own' σ' k d s I' r => q F' H' k d (lf s I') r
    | brk g => rw [eb] at q; exact False.elim q
    | ct g => rw [eb] at q; exact False.elim q
    | bad => rw [eb] at q; exact q
end

/-! ### raise, try -/
def sRaise (x : Exc) : Sx := fun g => .exc x g
section
variable {X : Cx} {P : Par} {σ : St} {H : Hp} {D : Ends}
theorem s_raise {x m : Str} {j : Nat} {p p2 pos pos2 : Pos} {C : Addr} {bmB : List Value} {B newId initId : String} {n : Nat} {w : Str} (hc : X.calm = true) (tk : Takes X P.W) (F : ExcBaseFacts B newId initId bmB) (q : PySem.W.excIn X.K C bmB newId = true) (gC : X.mg x = some (.ref C)) (kC : PySem.W.keepIn X.K (.ref C) = true)
    (r : Raises X (.ref C)) (hn : n < 2) (hC : P.cls n = some C) (hg : Gl X x) (hdb : (x == ("__debug__" : Str)) = false := by decide) : SS X P (.Raise (some (.Call (.Name x p) [.Constant (.str m) j p2] [] pos)) none pos2) (sRaise ⟨n, w⟩) :=
  ⟨ps_imp (ps_raise hc tk (pmk_own F q gC kC r hg hdb)) fun D σ H ⟨F, g, own, I, q⟩ => q F H own σ (.ref C) none .refl I ⟨C, hC, rfl, .inl ⟨hn, rfl⟩⟩⟩
def sTry (b : Sx) (cat : Nat → Bool) (i : Nat) (h : Exc → Sx) : Sx := fun g => match b g with
  | .exc x g1 => if cat x.c = true then (match h x (killG [i] g1) with
    | .nx g2 => .nx (killG [i] g2)
    | .brk g2 => .brk (killG [i] g2)
    | .ct g2 => .ct (killG [i] g2)
    | .ret v g2 => .ret v g2
    | _ => .bad) else .exc x g1
  | r => r
abbrev Par.wish (P : Par) (W : WX) : Par := { P with W := W }
abbrev Par.held (P : Par) (i : Nat) (a : Addr) : Par := { P.calm with pz := (i, .ref a) :: P.pz }
/-- the class of an exception, its own dict -/
def ExC (k : Nat → Option Addr) (e : Exc) (cls : Value) (d : Option Addr) : Prop := ∃ C, k e.c = some C ∧ cls = .ref C ∧ (e.c < 2 → d = none)
theorem ExR.c {k : Nat → Option Addr} {e : Exc} {cls : Value} {d : Option Addr} {H : Hp} (h : ExR k e cls d H) : ExC k e cls d := by
  obtain ⟨C, h1, h2, h3⟩ := h
  refine ⟨C, h1, h2, fun z => ?_⟩
  rcases h3 with ⟨_, h3⟩ | ⟨h3, _⟩
  · exact h3
  · omega
theorem set_none {l : List (Option Val)} {i j : Nat} {v : Val} (h : (killG [i] l)[j]? = some (some v)) : j ≠ i := fun e => (kill_none h).2 (by rw [e]; exact List.mem_singleton.mpr rfl)
variable {x n : Str} {c : Value} {i : Nat} {body suite : List Stmt} {b₀ : Stmt} {np pos pos' : Pos} {b : Sx} {h : Exc → Sx} {cat : Nat → Bool}
theorem s_try (hs : X.stack = X.env :: X.outer) (hf : X.env.frame = some X.env.locals) (hN : X.N.Nodup) (hi : X.N[i]? = some n) (hln : X.env.kindOf n = some .local) (hc : Names X x c) (tk : Takes X P.W) (hpi : i ∉ P.pz.map (·.1))
    (hcat : ∀ e cls d, ExC P.cls e cls d → PySem.W.exmOne X.K cls c = some (cat e.c))
    (hb : ∀ (W : WX) (pn : List (Addr × Obj)) (xe : Value → Shared → Prop), Takes (X.tr pn xe) W → PassesOwn (model X.prog X.w) X.A X.env xe → SB (X.tr pn xe) (P.wish W) body b)
    (hsu : ∀ (a : Addr) (oe : Obj) (cls : Value) (d : Option Addr) (pn : List (Addr × Obj)) (e : Exc), Zc cls d oe → (∃ vs, oe.data = .fields vs) → ExC P.cls e cls d → cat e.c = true → SB (X.suite a ((a, oe) :: pn)) (P.held i a) (b₀ :: suite) (h e)) :
    SS X P (.Try body [.ExceptHandler (some (.Name x np)) (some n) (b₀ :: suite) pos'] [] [] pos) (sTry b cat i h) := by
  have hil : i < X.N.length := (List.getElem?_eq_some_iff.mp hi).1
  refine ⟨ps_imp (ps_try_as (tb := fun W => tS X (P.wish W) b) (ts := fun a cls d D σ H => ∃ e, ExC P.cls e cls d ∧ cat e.c = true ∧ tS X (P.held i a) (h e) D σ H) hs hf hN hi hln hc tk (fun W pn xe t p => (hb W pn xe t p).ps) (fun a oe cls d pn hz hd => ?_)) fun D σ H ⟨F, g, own, I, q⟩ => ⟨F, g, own, I, ?_⟩⟩
  · exact ⟨fun pins s σ H D I ⟨e, h1, h2, h3⟩ => (hsu a oe cls d pn e hz hd h1 h2).ps.run pins s σ H D I h3⟩
  · unfold sTry at q
    cases eb : b g with
    | nx g1 => rw [eb] at q; exact q
    | brk g1 => rw [eb] at q; exact q
    | ct g1 => rw [eb] at q; exact q
    | ret v g1 => rw [eb] at q; exact q
    | bad => rw [eb] at q; exact q
    | exc e g1 =>
      rw [eb] at q
      intro F' H' own' σ' cls d s I' r
      refine ⟨cat e.c, hcat e cls d r.c, fun hyes a ha => ?_, fun hno => ?_⟩
      · have hyes' : cat e.c = true := hyes
        simp only [hyes', if_true] at q
        obtain ⟨own2, I2, st2⟩ := kill_step (ks := [i]) I'
        have I3 : GX X P F' H' (σ'.set i (some (.ref a))) (killG [i] g1) own2 := I2.resig (fun j v hj => List.getElem?_set_ne (Ne.symm (set_none hj))) (by rw [List.length_set]; exact I'.slen) fun p hp => List.getElem?_set_ne fun z => hpi (by rw [z]; exact List.mem_map_of_mem hp)
        have hi' : i < σ'.length := by
          have l : σ'.length = X.N.length := I'.slen
          omega
        have I4 : GX X (P.held i a) F' H' (σ'.set i (some (.ref a))) (killG [i] g1) own2 := ⟨I3.len, I3.slen, I3.slot, I3.emp, I3.nodup, I3.disj, I3.sep, I3.frz, fun p hp => by
          rcases List.mem_cons.mp hp with z | z
          · rw [z]; exact List.getElem?_set_self hi'
          · exact I3.pin p z⟩
        refine ⟨e, r.c, hyes, F', _, own2, I4, ?_⟩
        have back : ∀ {g4 : Env} {F4 : Fz} {H4 : Hp} {own4 : Ow} {σ4 : St}, Step F' H' own2 F4 H4 own4 → GX X (P.held i a) F4 H4 σ4 g4 own4 → ∃ own5, GX X P F4 H4 (σ4.set i none) (killG [i] g4) own5 ∧ Step F H own F4 H4 own5 := fun {g4 F4 H4 own4 σ4} s4 I4' => by
          have I4 : GX X P F4 H4 σ4 g4 own4 := ⟨I4'.len, I4'.slen, I4'.slot, I4'.emp, I4'.nodup, I4'.disj, I4'.sep, I4'.frz, fun p hp => I4'.pin p (List.mem_cons_of_mem _ hp)⟩
          obtain ⟨own5, I5, s5⟩ := kill_step (ks := [i]) I4
          exact ⟨own5, I5.resig (fun j v hj => List.getElem?_set_ne (Ne.symm (set_none hj))) (by rw [List.length_set]; exact I4.slen) fun p hp => List.getElem?_set_ne fun z => hpi (by rw [z]; exact List.mem_map_of_mem hp), (s.trans st2).trans (s4.trans s5)⟩
        cases eh : h e (killG [i] g1) with
        | nx g2 =>
          rw [eh] at q
          intro F4 H4 own4 σ4 s4 I4
          obtain ⟨own5, I5, s5⟩ := back s4 I4
          exact q F4 H4 own5 _ s5 I5
        | brk g2 =>
          rw [eh] at q
          intro F4 H4 own4 σ4 s4 I4
          obtain ⟨own5, I5, s5⟩ := back s4 I4
          exact q F4 H4 own5 _ s5 I5
        | ct g2 =>
          rw [eh] at q
          intro F4 H4 own4 σ4 s4 I4
          obtain ⟨own5, I5, s5⟩ := back s4 I4
          exact q F4 H4 own5 _ s5 I5
        | ret v g2 =>
          rw [eh] at q
          exact fun F4 H4 own4 σ4 x L s4 I4' o fr => q F4 H4 own4 σ4 x L ((s.trans st2).trans s4) ⟨I4'.len, I4'.slen, I4'.slot, I4'.emp, I4'.nodup, I4'.disj, I4'.sep, I4'.frz, fun p hp => I4'.pin p (List.mem_cons_of_mem _ hp)⟩ o (fr.elder (s.trans st2))
        | exc x g2 =>
          rw [eh] at q
          exact False.elim q
        | bad => rw [eh] at q; exact q
      · have hno' : ¬ cat e.c = true := by rw [hno]; exact Bool.false_ne_true
        simp only [if_neg hno'] at q
        exact q F' H' own' σ' cls d s I' r
end
end PL

/-! PL10: changes in place (a list in a name's slot), defs that change their first argument. -/
namespace PL
open PySem PySem.Spec PySem.Calls L2

section
variable {X : Cx} {P : Par} {σ : St} {H : Hp} {Q : VK} {ts : List Tmp} {F0 : Fz} {H0 : Hp} {own0 : Ow} {F1 : Fz} {g1 : Env} {own1 : Ow}
/-- a slot's value is taken out -/
theorem mid_take {i : Nat} {v : Val} (m : MidAt X P σ ts H F0 H0 own0 F1 g1 own1) (e : g1[i]? = some (some v)) : ∃ x own2, σ[i]? = some (some x) ∧ MidAt X P σ (⟨x, v, own1 i⟩ :: ts) H F0 H0 own0 F1 (g1.set i none) own2 := by
  obtain ⟨x, hx, o⟩ := m.g.slot i v e
  have I2 := m.g.wipe i
  have tk : ∀ t ∈ ts, ∀ a ∈ t.L, ∀ j, a ∉ own1 j := fun t ht a ha => (m.sep t ht a ha).2.1
  refine ⟨x, _, hx, I2, m.st.trans (.less fun j a ha => ?_), fun t ht => ?_, ?_, fun t ht a ha => ?_⟩
  · have ha : a ∈ (if j = i then [] else own1 j) := ha
    split at ha
    · cases ha
    · exact ha
  · rcases List.mem_cons.mp ht with rfl | ht
    · exact o
    · exact m.own t ht
  · rw [List.flatMap_cons, List.nodup_append]
    refine ⟨m.g.nodup i, m.nd, fun a ha b hb z => ?_⟩
    obtain ⟨t, ht, hb⟩ := List.mem_flatMap.mp hb
    subst z
    exact tk t ht _ hb i ha
  · rcases List.mem_cons.mp ht with rfl | ht
    · obtain ⟨h1, h2⟩ := m.g.sep i a ha
      refine ⟨h1, fun j hj => ?_, h2, m.st.own i a ha⟩
      have hj : a ∈ (if j = i then [] else own1 j) := hj
      split at hj
      · cases hj
      · rename_i hne
        exact m.g.disj j i a hne hj ha
    · obtain ⟨h1, h2, h3, h4⟩ := m.sep t ht a ha
      refine ⟨h1, fun j hj => ?_, h3, h4⟩
      have hj : a ∈ (if j = i then [] else own1 j) := hj
      split at hj
      · cases hj
      · exact h2 j hj
/-- .. and put back -/
theorem mid_back {i : Nat} {t : Tmp} (m : MidAt X P σ (t :: ts) H F0 H0 own0 F1 g1 own1) (hx : σ[i]? = some (some t.x)) : ∃ own2, MidAt X P σ ts H F0 H0 own0 F1 (g1.set i (some t.v)) own2 := by
  have hi : i < X.N.length := by
    have := (List.getElem?_eq_some_iff.mp hx).1
    have l : σ.length = X.N.length := m.g.slen
    omega
  have h0 : t ∈ t :: ts := List.mem_cons_self
  have nd := m.nd
  rw [List.flatMap_cons, List.nodup_append] at nd
  have hg : i < g1.length := by
    have l : g1.length = X.N.length := m.g.len
    omega
  have e1 : ∀ j a, a ∈ (fun j => if j = i then t.L else own1 j) j → a ∈ t.L ∨ a ∈ own1 j := fun j a ha => by
    have ha : a ∈ (if j = i then t.L else own1 j) := ha
    split at ha
    · exact .inl ha
    · exact .inr ha
  refine ⟨fun j => if j = i then t.L else own1 j, ⟨?_, ⟨m.st.fr, m.st.keep, m.st.new, fun j a ha => ?_, m.st.tr⟩, fun u hu => m.own u (List.mem_cons_of_mem _ hu), nd.2.1, fun u hu a ha => ?_⟩⟩
  · refine ⟨by rw [List.length_set]; exact m.g.len, m.g.slen, fun j u e => ?_, fun j z => ?_, fun j => ?_, fun j k a hjk h1 h2 => ?_, fun j a ha => ?_, m.g.frz, m.g.pin⟩
    · by_cases hj : j = i
      · subst hj
        rw [List.getElem?_set_self hg] at e
        cases e
        rw [if_pos rfl]
        exact ⟨t.x, hx, m.own t h0⟩
      · rw [List.getElem?_set_ne (Ne.symm hj)] at e
        rw [if_neg hj]
        exact m.g.slot j u e
    · by_cases hj : j = i
      · subst hj
        exact absurd (List.getElem?_set_self hg) (z t.v)
      · rw [if_neg hj]
        exact m.g.emp j fun w e => z w (by rw [List.getElem?_set_ne (Ne.symm hj)]; exact e)
    · show (if j = i then t.L else own1 j).Nodup
      split
      · exact nd.1
      · exact m.g.nodup j
    · have h1 : a ∈ (if j = i then t.L else own1 j) := h1
      have h2 : a ∈ (if k = i then t.L else own1 k) := h2
      split at h1
      · split at h2
        · rename_i e1 e2; exact hjk (e1.trans e2.symm)
        · exact (m.sep t h0 a h1).2.1 k h2
      · split at h2
        · exact (m.sep t h0 a h2).2.1 j h1
        · exact m.g.disj j k a hjk h1 h2
    · rcases e1 j a ha with ha | ha
      · obtain ⟨h1, _, h3, _⟩ := m.sep t h0 a ha
        exact ⟨h1, h3⟩
      · exact m.g.sep j a ha
  · rcases e1 j a ha with ha | ha
    · exact (m.sep t h0 a ha).2.2.2
    · exact m.st.own j a ha
  · obtain ⟨h1, h2, h3, h4⟩ := m.sep u (List.mem_cons_of_mem _ hu) a ha
    refine ⟨h1, fun j hj => ?_, h3, h4⟩
    rcases e1 j a hj with hj | hj
    · exact nd.2.2 a hj a (List.mem_flatMap.mpr ⟨u, hu, ha⟩) rfl
    · exact h2 j hj
theorem set_none_some {g : Env} {i : Nat} {v : Val} : (g.set i none).set i (some v) = g.set i (some v) := List.set_set ..
/-- the temporaries in another order -/
theorem mid_swap {t u : Tmp} (m : MidAt X P σ (t :: u :: ts) H F0 H0 own0 F1 g1 own1) : MidAt X P σ (u :: t :: ts) H F0 H0 own0 F1 g1 own1 := by
  have nd := m.nd
  rw [List.flatMap_cons, List.flatMap_cons, List.nodup_append, List.nodup_append] at nd
  have sw : ∀ z, z ∈ u :: t :: ts → z ∈ t :: u :: ts := fun z hz => by
    rcases List.mem_cons.mp hz with rfl | hz
    · exact List.mem_cons_of_mem _ List.mem_cons_self
    · rcases List.mem_cons.mp hz with rfl | hz
      · exact List.mem_cons_self
      · exact List.mem_cons_of_mem _ (List.mem_cons_of_mem _ hz)
  refine ⟨m.g, m.st, fun z hz => m.own z (sw z hz), ?_, fun z hz => m.sep z (sw z hz)⟩
  obtain ⟨n1, ⟨n2, n3, n4⟩, n5⟩ := nd
  rw [List.flatMap_cons, List.flatMap_cons, List.nodup_append, List.nodup_append]
  refine ⟨n2, ⟨n1, n3, fun a ha b hb => n5 a ha b (List.mem_append_right _ hb)⟩, fun a ha b hb => ?_⟩
  rcases List.mem_append.mp hb with hb | hb
  · exact fun z => n5 b hb a (List.mem_append_left _ ha) z.symm
  · exact n4 a ha b hb
/-- a slot's list, one level own -/
theorem take_lst {x : V} {ds : List PL.D} {L : List Addr} {c : Cn} {F : Fz} (o : Own c H F 1 x (.lst ds) L) : ∃ a vs, x = .ref a ∧ H a = some (.lst vs) ∧ RpA c H F vs ds ∧ L = [a] := by
  cases o with
  | frz z r =>
    rcases z with z | z
    · cases z
    · cases z
  | @lst _ a vs _ L1 e r =>
    obtain ⟨r1, r2⟩ := r.zero
    exact ⟨a, vs, rfl, e, r1, by rw [r2]⟩
/-- a write at a slot's list -/
theorem mid_wrSlot {i : Nat} {ds ds' : List PL.D} {vs vs' : List V} {a : Addr} (m : MidAt X P σ ts H F0 H0 own0 F1 g1 own1) (e : g1[i]? = some (some ⟨.lst ds, 1⟩)) (hx : σ[i]? = some (some (.ref a))) (ha : H a = some (.lst vs))
    (r : RpA (cn X P) H F1 vs' ds') : ∃ own2, MidAt X P σ ts (upd H a (.lst vs')) F0 H0 own0 F1 (g1.set i (some ⟨.lst ds', 1⟩)) own2 := by
  obtain ⟨x, own2, hx2, m2⟩ := mid_take m e
  rw [hx] at hx2
  cases hx2
  have o := m2.own _ List.mem_cons_self
  obtain ⟨a', vs0, ea, e0, _, eL⟩ := take_lst o
  cases ea
  have hL : a ∈ own1 i := by
    have : own1 i = [a] := eL
    rw [this]; exact List.mem_singleton.mpr rfl
  obtain ⟨nf, no, _, yg⟩ := m2.sep _ List.mem_cons_self a hL
  have m3 := mid_wr (sh := .lst vs') m2 hL
  have kp : Keep (c := cn X P) F1 F1 H (upd H a (shO a (.lst vs'))) := wr_keep (sh := .lst vs0) e0 nf
  have m4 : MidAt X P σ (⟨.ref a, ⟨.lst ds', 1⟩, [a]⟩ :: ts) (upd H a (.lst vs')) F0 H0 own0 F1 (g1.set i none) own2 := by
    refine ⟨m3.g, m3.st, fun t ht => ?_, ?_, fun t ht b hb => ?_⟩
    · rcases List.mem_cons.mp ht with rfl | ht
      · exact .lst upd_same (.of (r.keep kp))
      · exact m3.own t ht
    · have q := m2.nd
      rw [List.flatMap_cons] at q ⊢
      have eL : own1 i = [a] := eL
      simp only [eL] at q
      exact q
    · rcases List.mem_cons.mp ht with rfl | ht
      · have e : b = a := by simpa using hb
        subst e
        exact ⟨nf, no, ⟨.lst vs', upd_same⟩, yg⟩
      · exact m3.sep t ht b hb
  obtain ⟨own3, m5⟩ := mid_back (i := i) m4 hx
  rw [set_none_some] at m5
  exact ⟨own3, m5⟩
/-- where a slot's list lies -/
theorem slot_lst {i : Nat} {ds : List PL.D} (m : MidAt X P σ ts H F0 H0 own0 F1 g1 own1) (e : g1[i]? = some (some ⟨.lst ds, 1⟩)) : ∃ a vs, σ[i]? = some (some (.ref a)) ∧ H a = some (.lst vs) ∧ RpA (cn X P) H F1 vs ds := by
  obtain ⟨x, hx, o⟩ := m.g.slot i _ e
  obtain ⟨a, vs, ea, h, r, _⟩ := take_lst o
  subst ea
  exact ⟨a, vs, hx, h, r⟩

/-! ### x.append(e), x.pop(), x.pop(k) -/
/-- a method that changes the list in slot i: its arguments first, then what it gives and leaves -/
def eMut (i : Nat) (fs : List Ex) (op : List PL.D → List PL.D → Option (PL.D × List PL.D)) : Ex := fun g => match g[i]? with
  | some (some ⟨.lst _, 1⟩) => goE fs (fun as g1 => match g1[i]? with
    | some (some ⟨.lst ds, 1⟩) => match op ds as with
      | some (r, ds') => .ok ⟨r, 0⟩ (g1.set i (some ⟨.lst ds', 1⟩))
      | none => .bad
    | _ => .bad) g
  | _ => .bad
/-- the rule by values of such a method -/
def rMut (c : Cn) (op : List PL.D → List PL.D → Option (PL.D × List PL.D)) : V → List V → Hp → VK → Prop := fun x as H Q => ∃ F a vs ds es r ds', x = .ref a ∧ H a = some (.lst vs) ∧ ¬ F a ∧ RpA c H F vs ds ∧ RpA c H F as es ∧ op ds es = some (r, ds') ∧
  ∀ z vs', Rp c H F z r → RpA c H F vs' ds' → Q z (upd H a (.lst vs'))
theorem core_mut {i : Nat} {fs : List Ex} {op : List PL.D → List PL.D → Option (PL.D × List PL.D)} (q : tE X P (eMut i fs op) σ H Q) :
    tVar i σ H fun x H1 => tyV X.K "list" x H1 ∧ tEs X P fs σ H1 fun as H2 => rMut (cn X P) op x as H2 Q := by
  obtain ⟨F0, H0, own0, F1, g1, own1, m, q⟩ := mid_of q
  have q : PostK X P F0 H0 own0 σ (End X P F0 H0 own0 σ Q) (eMut i fs op g1) := q
  unfold eMut at q
  split at q
  · rename_i ds0 h0
    obtain ⟨a, vs, hx, ha, _⟩ := slot_lst m h0
    refine ⟨.ref a, hx, .inl ⟨rfl, vs, .of ha⟩, ?_⟩
    have mm : Mid X P σ ([] : List Tmp) (fun F0 H0 own0 g => PostK X P F0 H0 own0 σ (End X P F0 H0 own0 σ Q) (goE fs (fun as g1 => match g1[i]? with
      | some (some ⟨.lst ds, 1⟩) => match op ds as with
        | some (r, ds') => .ok ⟨r, 0⟩ (g1.set i (some ⟨.lst ds', 1⟩))
        | none => .bad
      | _ => .bad) g)) H := ⟨F0, H0, own0, F1, g1, own1, m, q⟩
    refine tEs_mono (mid_exs mm) fun as H2 ⟨ts2, es, rc, _, _, F0, H0, own0, F1, g1, own1, m, q⟩ => ?_
    simp only at q
    split at q
    · rename_i ds h1
      obtain ⟨a', vs2, hx2, ha2, r2⟩ := slot_lst m h1
      rw [hx] at hx2
      cases hx2
      split at q
      · rename_i r ds' hop
        obtain ⟨x', hx', o'⟩ := m.g.slot i _ h1
        have nf : ¬ F1 a := by
          rw [hx] at hx'
          cases hx'
          obtain ⟨a2, _, e2, _, _, eL⟩ := take_lst o'
          cases e2
          exact (m.g.sep i a (by rw [eL]; exact List.mem_singleton.mpr rfl)).1
        refine ⟨F1, a, vs2, ds, es, r, ds', rfl, ha2, nf, r2, rc.rp m, hop, fun z vs' rz rv => ?_⟩
        obtain ⟨own2, m2⟩ := mid_wrSlot m h1 hx ha2 rv
        have kp : Keep (c := cn X P) F1 F1 H2 (upd H2 a (shO a (.lst vs'))) := wr_keep (sh := .lst vs2) ha2 nf
        exact q F1 _ own2 z [] m2.st m2.g (.of (rz.keep kp)) ⟨List.nodup_nil, fun _ h => nomatch h⟩
      · exact False.elim q
    · exact False.elim q
  · exact False.elim q
variable {x name : Str} {pos apos cpos : Pos} {e : Expr} {es : List Expr} {fs : List Ex} {id : String} {op : List PL.D → List PL.D → Option (PL.D × List PL.D)} {i : Nat}
theorem s_mut (slot : Slot "list" name id) (hty : typeOf (.builtin id) = pure (.type "method_descriptor")) (hm : MtR X id (rMut (cn X P) op)) (hN : X.N[i]? = some x) (hv : Vis X.env.scope x) (ha : SL X P (e :: es) fs)
    (hd : (x == ("__debug__" : Str)) = false := by decide) (hcd : (x == ("__classdict__" : Str)) = false := by decide)
    (hbase : attributeBase (.Name x pos) name X.env (eval (.Name x pos) X.env) = eval (.Name x pos) X.env := by rfl)
    (hfew : ((backTo cpos (starEach (e :: es) X.env)).all (fun x => !x.1) && (backToKw cpos (keywordEach [] X.env)).all (fun x => x.1.isSome)
      && decide ((e :: es).length + ([] : List Keyword).length + (if ([] : List Keyword).isEmpty then 0 else 1) < 30)) = true := by rfl)
    (hline : (apos.endLine == cpos.line) = true := by rfl) (hs : starEach (e :: es) X.env = (false, eval e X.env) :: starEach es X.env := by rfl) (hplain : (backTo cpos (starEach es X.env)).any (·.1) = false := by rfl) :
    SE X P (.Call (.Attribute (.Name x pos) name apos) (e :: es) [] cpos) (eMut i fs op) :=
  ⟨pe_imp (pe_bm PySem.F.plainAttrs_list slot hty hm (pe_var hN hv hd hcd) ha.pa hbase hfew hline hs hplain) fun σ H Q q => core_mut q⟩
theorem s_mut0 (slot : Slot "list" name id) (hty : typeOf (.builtin id) = pure (.type "method_descriptor")) (hm : MtR X id (rMut (cn X P) op)) (hN : X.N[i]? = some x) (hv : Vis X.env.scope x)
    (hd : (x == ("__debug__" : Str)) = false := by decide) (hcd : (x == ("__classdict__" : Str)) = false := by decide)
    (hbase : attributeBase (.Name x pos) name X.env (eval (.Name x pos) X.env) = eval (.Name x pos) X.env := by rfl) (hline : (apos.endLine == cpos.line) = true := by rfl) :
    SE X P (.Call (.Attribute (.Name x pos) name apos) [] [] cpos) (eMut i [] op) :=
  ⟨pe_imp (pe_bm0 PySem.F.plainAttrs_list slot hty hm (pe_var hN hv hd hcd) hbase hline) fun σ H Q q => core_mut q⟩
def opApp (ds as : List PL.D) : Option (PL.D × List PL.D) := match as with
  | [d] => if ds.length < big then some (.non, ds ++ [d]) else none
  | _ => none
theorem m_append : MtR X "list.append" (rMut (cn X P) opApp) := by
  intro pins s σ H x as v us Q I rx ra h
  refine mt_append pins s σ H x as v us Q I rx ra ?_
  obtain ⟨F, a, vs, ds, es, r, ds', rfl, ha, _, rv, re, hop, q⟩ := h
  unfold opApp at hop
  split at hop
  · rename_i d
    split at hop
    · rename_i hl
      cases hop
      cases re with
      | cons h1 h2 =>
        cases h2
        rename_i y
        refine ⟨a, vs, y, rfl, rfl, ha, by rw [rv.length, ← big_line]; exact hl, q _ _ .non (rv.append (.cons h1 .nil))⟩
    · cases hop
  · cases hop
def opPop (ds as : List PL.D) : Option (PL.D × List PL.D) := match as with
  | [] => match ds.getLast? with
    | some d => some (d, ds.dropLast)
    | none => none
  | _ => none
theorem RpA.dropLast {c : Cn} {F : Fz} : ∀ {vs : List V} {ds : List PL.D}, RpA c H F vs ds → RpA c H F vs.dropLast ds.dropLast
  | _, _, .nil => .nil
  | _, _, .cons h .nil => .nil
  | _, _, .cons h (.cons h2 r) => by
    have := RpA.dropLast (.cons h2 r)
    exact .cons h this
theorem m_pop : MtR X "list.pop" (rMut (cn X P) opPop) := by
  intro pins s σ H x as v us Q I rx ra h
  refine mt_pop pins s σ H x as v us Q I rx ra ?_
  obtain ⟨F, a, vs, ds, es, r, ds', rfl, ha, _, rv, re, hop, q⟩ := h
  unfold opPop at hop
  split at hop
  · cases re
    split at hop
    · rename_i d hd
      cases hop
      rw [List.getLast?_eq_getElem?] at hd
      obtain ⟨y, hy, ry⟩ := rv.get' hd
      exact ⟨a, vs, y, rfl, rfl, ha, by rw [rv.length]; exact hy, q _ _ ry rv.dropLast⟩
    · cases hop
  · cases hop
end
end PL

/-! PL11: x[k] = e; defs that change their first argument, and their calls. -/
namespace PL
open PySem PySem.Spec PySem.Calls L2

section
variable {X : Cx} {P : Par} {σ : St} {H : Hp} {Q : VK} {D : Ends}
/-- an expression within a statement -/
theorem mid_evalS {ts : List Tmp} {fe : Ex} {k : Val → Env → SOut} (h : Mid X P σ ts (fun F0 H0 own0 g => PostS X P F0 H0 own0 D (bindE (fe g) k)) H) :
    tE X P fe σ H fun x H1 => ∃ v L, Mid X P σ (⟨x, v, L⟩ :: ts) (fun F0 H0 own0 g => PostS X P F0 H0 own0 D (k v g)) H1 := by
  refine mid_eval (k := fun F0 H0 own0 v g => PostS X P F0 H0 own0 D (k v g)) (mid_imp h fun F0 H0 own0 g q => ?_)
  have q : PostS X P F0 H0 own0 D (bindE (fe g) k) := q
  show PostK X P F0 H0 own0 σ (fun v g => PostS X P F0 H0 own0 D (k v g)) (fe g)
  cases e : fe g with
  | ok v g1 => rw [e] at q; exact q
  | exc x g1 => rw [e] at q; exact fun F' H' own' cls d s I' r => q F' H' own' σ cls d s I' r
  | bad => rw [e] at q; exact q
theorem RpA.set {c : Cn} {F : Fz} {v : V} {d : PL.D} (h : Rp c H F v d) : ∀ {vs : List V} {ds : List PL.D} (i : Nat), RpA c H F vs ds → RpA c H F (vs.set i v) (ds.set i d)
  | _, _, _, .nil => .nil
  | _, _, 0, .cons _ r => .cons h r
  | _, _, i + 1, .cons a r => .cons a (RpA.set h i r)
def setL (ds : List PL.D) (k v : PL.D) : Option (List PL.D) := match k with
  | .int z => (ixN ds.length z).map fun j => ds.set j v
  | _ => none
def sSetI (i : Nat) (fk fv : Ex) : Sx := fun g => bindE (fv g) fun v g1 => match g1[i]? with
  | some (some ⟨.lst _, 1⟩) => bindE (fk g1) fun k g2 => match g2[i]? with
    | some (some ⟨.lst ds, 1⟩) => match setL ds k.d v.d with
      | some ds' => .nx (g2.set i (some ⟨.lst ds', 1⟩))
      | none => .bad
    | _ => .bad
  | _ => .bad
theorem core_setI {i : Nat} {fk fv : Ex} (q : tS X P (sSetI i fk fv) D σ H) : tE X P fv σ H fun x H1 => tVar i σ H1 fun o H2 => tE X P fk σ H2 fun k H3 => rSetL o k x H3 (D.nx σ) := by
  refine tE_mono (mid_ofS q) fun x H1 ⟨v, L, m⟩ => ?_
  obtain ⟨F0, H0, own0, F1, g1, own1, m, q⟩ := mid_freeze m
  split at q
  · rename_i ds0 h0
    obtain ⟨a, vs, hx, ha, _⟩ := slot_lst m h0
    refine ⟨.ref a, hx, ?_⟩
    have mm : Mid X P σ [⟨x, ⟨v.d, 0⟩, []⟩] (fun F0 H0 own0 g => PostS X P F0 H0 own0 D (bindE (fk g) fun k g2 => match g2[i]? with
      | some (some ⟨.lst ds, 1⟩) => match setL ds k.d v.d with
        | some ds' => .nx (g2.set i (some ⟨.lst ds', 1⟩))
        | none => .bad
      | _ => .bad)) H1 := ⟨F0, H0, own0, F1, g1, own1, m, q⟩
    refine tE_mono (mid_evalS mm) fun k H2 ⟨kv, L2, m2⟩ => ?_
    obtain ⟨F0, H0, own0, F1, g1, own1, m, q⟩ := mid_freeze m2
    split at q
    · rename_i ds h1
      obtain ⟨a', vs2, hx2, ha2, r2⟩ := slot_lst m h1
      rw [hx] at hx2
      cases hx2
      split at q
      · rename_i ds' hop
        unfold setL at hop
        have rk := (m.own _ List.mem_cons_self).zero.1
        have rv := (m.own _ (List.mem_cons_of_mem _ List.mem_cons_self)).zero.1
        simp only at rk rv
        split at hop
        · rename_i z hz
          rw [hz] at rk
          cases rk
          cases hj : ixN ds.length z with
          | none => rw [hj] at hop; cases hop
          | some j =>
            rw [hj] at hop
            cases hop
            refine ⟨a, vs2, z, j, rfl, rfl, ha2, by rw [r2.length]; exact hj, ?_⟩
            obtain ⟨own2, m2⟩ := mid_wrSlot m h1 hx ha2 (RpA.set rv j r2)
            exact q F1 _ own2 σ m2.st m2.g
        · cases hop
      · exact False.elim q
    · exact False.elim q
  · exact False.elim q
variable {x : Str} {pos pos2 pos' : Pos} {ek ev e : Expr} {fk fv : Ex} {i : Nat} {es : List Expr} {fs : List Ex}
theorem s_setI (hN : X.N[i]? = some x) (hv : Vis X.env.scope x) (hk : SE X P ek fk) (he : SE X P ev fv) (hd : (x == ("__debug__" : Str)) = false := by decide) (hcd : (x == ("__classdict__" : Str)) = false := by decide)
    (hs : swapsWithSole [.Subscript (.Name x pos) ek pos'] ev pos2.line X.env = pure false := by rfl) (hw : swappedStores [.Subscript (.Name x pos) ek pos'] ev X.env = pure none := by rfl)
    (h1 : (assignEach [.Subscript (.Name x pos) ek pos'] X.env).map (·.2) = [assign (.Subscript (.Name x pos) ek pos') X.env] := by rfl)
    (ha : ∀ v, assign (.Subscript (.Name x pos) ek pos') X.env v = (do
      let ov ← holding [v] (eval (.Name x pos) X.env)
      let iv ← holding [v, ov] (eval ek X.env)
      standAt pos'
      holding [v, ov, iv] (setItem ov iv v)
      release [v, ov, iv] []) := by intro _; rfl) : SS X P (.Assign [.Subscript (.Name x pos) ek pos'] ev pos2) (sSetI i fk fv) :=
  ⟨ps_imp (ps_asg he.pe (pg_sub (pe_var hN hv hd hcd) hk.pe set_list ha) hs hw h1) fun D σ H q => core_setI q⟩
end

/-! ### a def that changes its first argument -/
inductive FIO where
  | ok (v io : Val) | exc (x : Exc) | bad
structure LeftIO (F : Fz) (H : Hp) (L0 : List Addr) (F' : Fz) (H' : Hp) : Prop where
  fr : ∀ a, F a → F' a
  keep : ∀ a o, H a = some o → a ∉ L0 → H' a = some o
  new : ∀ a, F' a → F a ∨ a ∈ L0 ∨ H a = none
  trk : Trk F' H'
  tr : ∀ a o, H a = some o → ∃ o', H' a = some o'
def spIO (c : Cn) (cls : Nat → Option Addr) (m : Nat) (f : Val → List PL.D → FIO) : Sp := fun vs H Q E => ∃ F x0 io L0 rest ds, vs = x0 :: rest ∧ ds.length = m ∧ Trk F H ∧ Own c H F io.o x0 io.d L0 ∧ L0.Nodup ∧ (∀ a ∈ L0, ¬ F a ∧ ∃ sh, H a = some (shO a sh)) ∧ RpA c H F rest ds ∧ match f io ds with
  | .ok v io' => ∀ F' H' x L L', LeftIO F H L0 F' H' → Own c H' F' io'.o x0 io'.d L' → Own c H' F' v.o x v.d L → (L' ++ L).Nodup → (∀ a ∈ L' ++ L, ¬ F' a ∧ (a ∈ L0 ∨ H a = none) ∧ ∃ sh, H' a = some (shO a sh)) → Q x H'
  | .exc x => ∀ F' H' k d, LeftIO F H L0 F' H' → ExR cls x k d H' → E k d H'
  | .bad => False
def eCallIO (f : Val → List PL.D → FIO) (i : Nat) (fs : List Ex) : Ex := fun g => match g[i]? with
  | some (some _) => goE fs (fun ds g1 => match g1[i]? with
    | some (some io) => match f io ds with
      | .ok v io' => .ok v (g1.set i (some io'))
      | .exc x => .exc x (g1.set i none)
      | .bad => .bad
    | _ => .bad) g
  | _ => .bad
section
variable {X : Cx} {P : Par} {σ : St} {H : Hp} {Q : VK}
theorem core_callIO {f : Val → List PL.D → FIO} {i m : Nat} {fs : List Ex} (q : tE X P (eCallIO f i fs) σ H Q) (hm : fs.length = m) :
    tVar i σ H fun x0 H1 => tEs X P fs σ H1 fun xs H2 => spIO (cn X P) P.cls m f (x0 :: xs) H2 Q (WE P.W σ) := by
  obtain ⟨F0, H0, own0, F1, g1, own1, m0, q⟩ := mid_of q
  have q : PostK X P F0 H0 own0 σ (End X P F0 H0 own0 σ Q) (eCallIO f i fs g1) := q
  unfold eCallIO at q
  split at q
  · rename_i v0 h0
    obtain ⟨x0, hx, _⟩ := m0.g.slot i v0 h0
    refine ⟨x0, hx, ?_⟩
    have mm : Mid X P σ ([] : List Tmp) (fun F0 H0 own0 g => PostK X P F0 H0 own0 σ (End X P F0 H0 own0 σ Q) (goE fs (fun ds g1 => match g1[i]? with
      | some (some io) => match f io ds with
        | .ok v io' => .ok v (g1.set i (some io'))
        | .exc x => .exc x (g1.set i none)
        | .bad => .bad
      | _ => .bad) g)) H := ⟨F0, H0, own0, F1, g1, own1, m0, q⟩
    refine tEs_mono (mid_exs mm) fun xs H2 ⟨ts2, ds, rc, _, hd, F0, H0, own0, F1, g1, own1, m, q⟩ => ?_
    simp only at q
    split at q
    · rename_i io hio
      obtain ⟨x1, hx1, oio⟩ := m.g.slot i io hio
      rw [hx] at hx1
      cases hx1
      refine ⟨F1, x0, io, own1 i, xs, ds, rfl, by rw [hd, hm], m.g.frz, oio, m.g.nodup i, fun a ha => m.g.sep i a ha, rc.rp m, ?_⟩
      -- the state behind, slot i out
      have I2 := m.g.wipe i
      have after : ∀ {F' : Fz} {H' : Hp}, LeftIO F1 H2 (own1 i) F' H' → Step F1 H2 own1 F' H' (fun j => if j = i then [] else own1 j) ∧ GX X P F' H' σ (g1.set i none) (fun j => if j = i then [] else own1 j) := fun {F' H'} l => by
        have no : ∀ j a, a ∈ (if j = i then [] else own1 j) → a ∈ own1 j ∧ a ∉ own1 i := fun j a ha => by
          split at ha
          · cases ha
          · rename_i hne; exact ⟨ha, fun z => m.g.disj j i a hne ha z⟩
        have st : Step F1 H2 own1 F' H' (fun j => if j = i then [] else own1 j) := ⟨l.fr, fun a o h n => l.keep a o h (n i), fun a h => (l.new a h).elim .inl fun z => z.elim (fun z => .inr (.inl ⟨i, z⟩)) fun z => .inr (.inr z), fun j a ha => .inl ⟨j, (no j a ha).1⟩, l.tr⟩
        refine ⟨st, ?_⟩
        have kp := st.keeps m.g
        refine ⟨I2.len, I2.slen, fun j u e => ?_, I2.emp, I2.nodup, I2.disj, fun j a ha => ?_, l.trk, I2.pin⟩
        · obtain ⟨x, h1, o⟩ := I2.slot j u e
          exact ⟨x, h1, o.keep kp fun a ha ob e => l.keep a ob e (no j a ha).2⟩
        · obtain ⟨h1, sh, h2⟩ := I2.sep j a ha
          refine ⟨fun z => ?_, sh, l.keep a _ h2 (no j a ha).2⟩
          rcases l.new a z with z | z | z
          · exact h1 z
          · exact (no j a ha).2 z
          · rw [h2] at z; cases z
      cases ef : f io ds with
      | bad => rw [ef] at q; exact q
      | exc x =>
        rw [ef] at q
        intro F' H' k d l r
        obtain ⟨st, I'⟩ := after l
        exact q F' H' _ k d (m.st.trans st) I' r
      | ok v io' =>
        rw [ef] at q
        intro F' H' x L L' l o' o nd sep
        obtain ⟨st, I'⟩ := after l
        have m2 := mid_step m st I'
        have ap : ∀ a ∈ L' ++ L, ∀ j, a ∉ (fun j => if j = i then [] else own1 j) j := fun a ha j hj => by
          have hj : a ∈ (if j = i then [] else own1 j) := hj
          split at hj
          · cases hj
          · rename_i hne
            rcases (sep a ha).2.1 with z | z
            · exact m.g.disj j i a hne hj z
            · obtain ⟨_, sh, e⟩ := m.g.sep j a hj
              rw [z] at e; cases e
        have yg : ∀ a ∈ L' ++ L, (∃ j, a ∈ own0 j) ∨ H0 a = none := fun a ha => young m.st ((sep a ha).2.1.elim (fun z => .inl ⟨i, z⟩) .inr)
        have nd' := nd
        rw [List.nodup_append] at nd'
        have m3 : MidAt X P σ [⟨x0, io', L'⟩, ⟨x, v, L⟩] H' F0 H0 own0 F' (g1.set i none) (fun j => if j = i then [] else own1 j) := by
          refine ⟨I', m2.st, fun t ht => ?_, by simpa using nd, fun t ht a ha => ?_⟩
          · rcases List.mem_cons.mp ht with rfl | ht
            · exact o'
            · rw [List.mem_singleton.mp ht]; exact o
          · rcases List.mem_cons.mp ht with rfl | ht
            · have ha' := List.mem_append_left L ha
              exact ⟨(sep a ha').1, ap a ha', (sep a ha').2.2, yg a ha'⟩
            · rw [List.mem_singleton.mp ht] at ha
              have ha' := List.mem_append_right L' ha
              exact ⟨(sep a ha').1, ap a ha', (sep a ha').2.2, yg a ha'⟩
        obtain ⟨own3, m4⟩ := mid_back (i := i) m3 hx
        rw [set_none_some] at m4
        have h0 := List.mem_singleton.mpr (rfl : (⟨x, v, L⟩ : Tmp) = _)
        exact q F' H' own3 x L m4.st m4.g (m4.own _ h0) ⟨by have := m4.nd; simpa using this, m4.sep _ h0⟩
    · exact False.elim q
  · exact False.elim q
variable {x y : Str} {p p2 pos : Pos} {es : List Expr} {fs : List Ex} {i k m : Nat} {f : Addr} {fd : FuncData} {ps : List Str} {F : Val → List PL.D → FIO}
theorem s_callIO (Fk : FnOk X.prog X.w X.K X.mg X.base (L2.CX X.prog X.w) k f fd ps (spIO (cn X P) P.cls m F)) (hr : Room k X.A) (tk : Takes X P.W) (hg : Gl X x) (hm : X.mg x = some (.ref f)) (hk : PySem.W.keepIn X.K (.ref f) = true) (hb : Binds X.K fd ps [])
    (hN : X.N[i]? = some y) (hv : Vis X.env.scope y) (ha : SL X P es fs) (hl : fs.length = m := by rfl) (hd : (y == ("__debug__" : Str)) = false := by decide) (hcd : (y == ("__classdict__" : Str)) = false := by decide) (hdb : (x == ("__debug__" : Str)) = false := by decide)
    (hst : starEach (.Name y p2 :: es) X.env = (false, eval (.Name y p2) X.env) :: starEach es X.env := by rfl) (hpl : (backTo pos (starEach es X.env)).any (·.1) = false := by rfl) : SE X P (.Call (.Name x p) (.Name y p2 :: es) [] pos) (eCallIO F i fs) :=
  ⟨pe_imp (pe_callS Fk hr hg hm hk hb (fun σ => passAt tk σ) (pa_cons (pe_var hN hv hd hcd) ha.pa hst) hdb hst hpl) fun σ H Q q => core_callIO q hl⟩
end
def fnIO (n m : Nat) (b : Sx) (io : Val) (ds : List PL.D) : FIO := if ds.length = m then (match b (some io :: (ds.map (fun d => some ⟨d, 0⟩) ++ List.replicate (n - (m + 1)) none)) with
  | .ret v g => match g[0]? with
    | some (some io') => .ok v io'
    | _ => .bad
  | .nx g => match g[0]? with
    | some (some io') => .ok ⟨.non, 0⟩ io'
    | _ => .bad
  | .exc x _ => .exc x
  | _ => .bad) else .bad
theorem G.beginIO {c : Cn} {N : List Str} {F : Fz} {H : Hp} {x0 : V} {io : Val} {L0 : List Addr} {vs : List V} {ds : List PL.D} (o : Own c H F io.o x0 io.d L0) (nd : L0.Nodup) (sep : ∀ a ∈ L0, ¬ F a ∧ ∃ sh, H a = some (shO a sh)) (r : RpA c H F vs ds) (tr : Trk F H) (hn : ds.length + 1 ≤ N.length) :
    G c N.length [(0, x0)] F H (L2.start N (x0 :: vs)) (some io :: (ds.map (fun d => some ⟨d, 0⟩) ++ List.replicate (N.length - (ds.length + 1)) none)) (fun i => if i = 0 then L0 else []) := by
  have hl := r.length
  refine ⟨by simp; omega, by unfold L2.start; simp; omega, fun i v e => ?_, fun i h => ?_, fun i => ?_, fun i j a hij h1 h2 => ?_, fun i a ha => ?_, tr, fun p hp => ?_⟩
  · cases i with
    | zero =>
      simp at e
      subst e
      exact ⟨x0, by unfold L2.start; simp, o⟩
    | succ i =>
      simp only [List.getElem?_cons_succ] at e
      rw [if_neg (Nat.succ_ne_zero i)]
      by_cases hi : i < ds.length
      · rw [List.getElem?_append_left (by simpa using hi), List.getElem?_map] at e
        cases ed : ds[i]? with
        | none => rw [ed] at e; cases e
        | some d =>
          rw [ed] at e
          have e : v = ⟨d, 0⟩ := by
            have := Option.some.inj (Option.some.inj e)
            exact this.symm
          subst e
          obtain ⟨x, hx, rx⟩ := r.get' ed
          refine ⟨x, ?_, .of rx⟩
          unfold L2.start
          rw [List.map_cons, List.cons_append, List.getElem?_cons_succ, List.getElem?_append_left (by simp; omega), List.getElem?_map, hx]
          rfl
      · rw [List.getElem?_append_right (by simpa using hi), List.getElem?_replicate] at e
        split at e <;> cases e
  · cases i with
    | zero => exact absurd (by simp) (h io)
    | succ i => simp
  · show (if i = 0 then L0 else []).Nodup
    split
    · exact nd
    · exact List.nodup_nil
  · have h1 : a ∈ (if i = 0 then L0 else []) := h1
    have h2 : a ∈ (if j = 0 then L0 else []) := h2
    split at h1
    · split at h2
      · rename_i e1 e2; exact hij (e1.trans e2.symm)
      · cases h2
    · cases h1
  · have ha : a ∈ (if i = 0 then L0 else []) := ha
    split at ha
    · exact sep a ha
    · cases ha
  · rw [List.mem_singleton.mp hp]
    unfold L2.start
    simp
section
variable {P : Program} {w : World} {K : PySem.W.Frag} {mg : Str → Option Value} {base : Heap} {x qual : Str} {params : Arguments} {body : List Stmt} {scope : Scope} {f : Addr} {fd : FuncData} {N ps : List Str} {k m : Nat} {b : Sx}
theorem fn_okIO (Fd : FunD K x qual params body scope [] [] f fd) (S : FnScope N ps scope) (fns : Fns) (cls : Nat → Option Addr) (hm : ps.length = m + 1) (hN : ps.length ≤ N.length)
    (hb : ∀ (cdv : Value) (A : Around) (outer : List PySem.Env) (s : Shared) (H : Hp) (E : XK) (x0 : V), Room k (A.deeper (PyProof.Rows.envOfC qual scope s.heap.objs.size f cdv)) →
      SB (cxOf (L2.CX P w) P w K mg base N qual scope f cdv A outer s H E) { parE fns cls E with pz := [(0, x0)] } body b) :
    FnOk P w K mg base (L2.CX P w) (k + 1) f fd ps (spIO ⟨K, w, fns⟩ cls m (fnIO N.length m b)) := by
  refine Fd.ok S (fun vs H Q E h => ?_) fun cdv A outer s H vs Q E hr h => ?_
  · obtain ⟨F, x0, io, L0, rest, ds, rfl, hl, _, _, _, _, r, _⟩ := h
    rw [List.length_cons, r.length, hl, hm]
  · obtain ⟨F, x0, io, L0, rest, ds, rfl, hl, tr, o, nd, sep, r, q⟩ := h
    refine ⟨_, (hb cdv A outer s H E x0 hr).ps, ?_⟩
    have I := G.beginIO (N := N) o nd sep r tr (by omega)
    refine ⟨F, _, _, I, ?_⟩
    unfold fnIO at q
    rw [if_pos hl, ← hl] at q
    have lf : ∀ {F' : Fz} {H' : Hp} {own' : Ow} {σ' : St} {g' : Env}, Step F H (fun i => if i = 0 then L0 else []) F' H' own' → G ⟨K, w, fns⟩ N.length [(0, x0)] F' H' σ' g' own' → LeftIO F H L0 F' H' := fun s I => ⟨s.fr, (fun a o h n => s.keep a o h (fun i hi => by
      have hi : a ∈ (if i = 0 then L0 else []) := hi
      split at hi
      · exact n hi
      · cases hi)), (fun a h => by
        rcases s.new a h with z | ⟨i, z⟩ | z
        · exact .inl z
        · have z : a ∈ (if i = 0 then L0 else []) := z
          split at z
          · exact .inr (.inl z)
          · cases z
        · exact .inr (.inr z)), I.frz, s.tr⟩
    have old : ∀ {a : Addr}, ((∃ i, a ∈ (fun i => if i = 0 then L0 else []) i) ∨ H a = none) → a ∈ L0 ∨ H a = none := fun {a} h => by
      rcases h with ⟨i, z⟩ | z
      · have z : a ∈ (if i = 0 then L0 else []) := z
        split at z
        · exact .inl z
        · cases z
      · exact .inr z
    have fin : ∀ {v : Val} {g : Env}, (match (match g[0]? with
        | some (some io') => FIO.ok v io'
        | _ => .bad) with
      | .ok v io' => ∀ F' H' x L L', LeftIO F H L0 F' H' → Own ⟨K, w, fns⟩ H' F' io'.o x0 io'.d L' → Own ⟨K, w, fns⟩ H' F' v.o x v.d L → (L' ++ L).Nodup → (∀ a ∈ L' ++ L, ¬ F' a ∧ (a ∈ L0 ∨ H a = none) ∧ ∃ sh, H' a = some (shO a sh)) → Q x H'
      | .exc x => ∀ F' H' k d, LeftIO F H L0 F' H' → ExR cls x k d H' → E k d H'
      | .bad => False) → ∀ {F' : Fz} {H' : Hp} {own' : Ow} {σ' : St} {x : V} {L : List Addr}, Step F H (fun i => if i = 0 then L0 else []) F' H' own' → G ⟨K, w, fns⟩ N.length [(0, x0)] F' H' σ' g own' → Own ⟨K, w, fns⟩ H' F' v.o x v.d L → Frsh F H (fun i => if i = 0 then L0 else []) F' H' own' L → Q x H' := by
      intro v g q F' H' own' σ' x L s I' o2 fr
      cases eg : g[0]? with
      | none => rw [eg] at q; exact False.elim q
      | some io1 =>
        cases io1 with
        | none => rw [eg] at q; exact False.elim q
        | some io' =>
          rw [eg] at q
          obtain ⟨x1, h1, o1⟩ := I'.slot 0 io' eg
          have hp := I'.pin (0, x0) (List.mem_singleton.mpr rfl)
          rw [h1] at hp
          cases hp
          refine q F' H' x L (own' 0) (lf s I') o1 o2 ?_ fun a ha => ?_
          · rw [List.nodup_append]
            exact ⟨I'.nodup 0, fr.nd, fun a ha b hb z => (fr.sep b hb).2.1 0 (z ▸ ha)⟩
          · rcases List.mem_append.mp ha with ha | ha
            · obtain ⟨h2, h3⟩ := I'.sep 0 a ha
              exact ⟨h2, old (s.own 0 a ha), h3⟩
            · obtain ⟨h2, _, h3, h4⟩ := fr.sep a ha
              exact ⟨h2, old h4, h3⟩
    cases eb : b (some io :: (ds.map (fun d => some ⟨d, 0⟩) ++ List.replicate (N.length - (ds.length + 1)) none)) with
    | nx g =>
      rw [eb] at q
      exact fun F' H' own' σ' s I' => fin (v := ⟨.non, 0⟩) q s I' (.of .non) ⟨List.nodup_nil, fun _ h => nomatch h⟩
    | ret v g =>
      rw [eb] at q
      exact fun F' H' own' σ' x L s I' o fr => fin q s I' o fr
    | exc e g =>
      rw [eb] at q
      exact fun F' H' own' σ' k d s I' r => q F' H' k d (lf s I') r
    | brk g => rw [eb] at q; exact False.elim q
    | ct g => rw [eb] at q; exact False.elim q
    | bad => rw [eb] at q; exact q
end
end PL

/-! PL12: the operations on data. -/
namespace PL
open PySem PySem.Spec PySem.Calls L2

/-! ### what a value is, by its data -/
section
variable {c : Cn} {H : Hp} {F : Fz} {x : V}
theorem Rt.int {i : Int} (h : Rt c H F x (.int i)) : x = .int i := by
  cases h with
  | of r => cases r; rfl
theorem Rt.bl {b : Bool} (h : Rt c H F x (.bl b)) : x = .bl b := by
  cases h with
  | of r => cases r; rfl
theorem Rt.str {s : Str} (h : Rt c H F x (.str s)) : x = .str s := by
  cases h with
  | of r => cases r; rfl
theorem Rt.non (h : Rt c H F x .non) : x = .non := by
  cases h with
  | of r => cases r; rfl
theorem Rt.tup {ds : List D} (h : Rt c H F x (.tup ds)) : ∃ a vs, x = .ref a ∧ SqT c.K H a vs ∧ RpA c H F vs ds := by
  cases h with
  | of r => cases r with
    | tup h r => exact ⟨_, _, rfl, h, r⟩
theorem Rt.li {ds : List D} (h : Rt c H F x (.lst ds)) : ∃ a vs, x = .ref a ∧ Rd H a (.lst vs) ∧ RpA c H F vs ds := by
  cases h with
  | of r => cases r with
    | lst f h r => exact ⟨_, _, rfl, h, r⟩
  | lst h r => exact ⟨_, _, rfl, .of h, r⟩
theorem RpA.ints : ∀ {vs : List V} {ns : List Int}, RpA c H F vs (ns.map .int) → vs = ns.map V.int
  | _, [], .nil => rfl
  | _, _ :: _, .cons h r => by
    cases h
    rw [RpA.ints r]
    rfl
theorem RpA.bls : ∀ {vs : List V} {ns : List Bool}, RpA c H F vs (ns.map .bl) → vs = ns.map V.bl
  | _, [], .nil => rfl
  | _, _ :: _, .cons h r => by
    cases h
    rw [RpA.bls r]
    rfl
end
def asI : D → Option Int
  | .int i => some i
  | _ => none
def allI : List D → Option (List Int)
  | [] => some []
  | d :: ds => match d, allI ds with
    | .int i, some is => some (i :: is)
    | _, _ => none
def allB : List D → Option (List Bool)
  | [] => some []
  | d :: ds => match d, allB ds with
    | .bl i, some is => some (i :: is)
    | _, _ => none
theorem allI_eq : ∀ {ds : List D} {is : List Int}, allI ds = some is → ds = is.map .int
  | [], _, e => by cases e; rfl
  | d :: ds, is, e => by
    unfold allI at e
    split at e
    · rename_i i is' h
      cases e
      rw [allI_eq h]
      rfl
    · cases e
theorem allB_eq : ∀ {ds : List D} {is : List Bool}, allB ds = some is → ds = is.map .bl
  | [], _, e => by cases e; rfl
  | d :: ds, is, e => by
    unfold allB at e
    split at e
    · rename_i i is' h
      cases e
      rw [allB_eq h]
      rfl
    · cases e

/-! ### data as the library's data -/
mutual
def toP : D → Option PyData
  | .non => some .none
  | .bl b => some (.bool b)
  | .int i => some (.int i)
  | .str x => some (.str x)
  | .tup xs => (toPs xs).map .tuple
  | .lst xs => (toPs xs).map .list
  | _ => none
def toPs : List D → Option (List PyData)
  | [] => some []
  | x :: xs => match toP x, toPs xs with
    | some p, some ps => some (p :: ps)
    | _, _ => none
end
section
variable {c : Cn} {H : Hp} {F : Fz}
theorem rd_sqL {a : Addr} {vs : List V} (h : Rd H a (.lst vs)) : SqL c.K H a vs := .inl h
mutual
theorem Rp.dp : ∀ {v : V} {d : D} {p : PyData}, Rp c H F v d → toP d = some p → Dp c.K H v p
  | _, _, _, .non, e => by cases e; exact .non
  | _, _, _, .bl b, e => by cases e; exact .bl b
  | _, _, _, .int b, e => by cases e; exact .int b
  | _, _, _, .str b, e => by cases e; exact .str b
  | _, _, _, .tup (ds := ds) h r, e => by
    unfold toP at e
    cases q : toPs ds with
    | none => rw [q] at e; cases e
    | some ps => rw [q] at e; cases e; exact .tup h (RpA.dp r q)
  | _, _, _, .lst (ds := ds) f h r, e => by
    unfold toP at e
    cases q : toPs ds with
    | none => rw [q] at e; cases e
    | some ps => rw [q] at e; cases e; exact .lst (rd_sqL h) (RpA.dp r q)
  | _, _, _, .dct _ _ _, e => by cases e
  | _, _, _, .fn _, e => by cases e
  | _, _, _, .src _, e => by cases e
theorem RpA.dp : ∀ {v : List V} {d : List D} {p : List PyData}, RpA c H F v d → toPs d = some p → DpAll c.K H v p
  | _, _, _, .nil, e => by cases e; exact .nil
  | _, _, _, .cons (d := d) (ds := ds) h r, e => by
    unfold toPs at e
    cases q : toP d with
    | none => rw [q] at e; cases e
    | some p =>
      cases q2 : toPs ds with
      | none => rw [q, q2] at e; cases e
      | some ps => rw [q, q2] at e; cases e; exact .cons (Rp.dp h q) (RpA.dp r q2)
end
theorem Rt.dp {v : V} {d : D} {p : PyData} (h : Rt c H F v d) (e : toP d = some p) : Dp c.K H v p := by
  cases h with
  | of r => exact r.dp e
  | @lst a vs ds h r =>
    unfold toP at e
    cases q : toPs ds with
    | none => rw [q] at e; cases e
    | some ps => rw [q] at e; cases e; exact .lst (rd_sqL (.of h)) (RpA.dp r q)
  | dct _ _ => cases e
end
/-! n levels deep, no dicts or functions, texts as they should be -/
mutual
def okD : Nat → D → Bool
  | _, .non => true
  | _, .bl _ => true
  | _, .int _ => true
  | _, .str x => PyData.strOk x
  | n + 1, .tup xs => okDs n xs
  | n + 1, .lst xs => okDs n xs
  | _, _ => false
def okDs : Nat → List D → Bool
  | _, [] => true
  | n, x :: xs => okD n x && okDs n xs
end
/-! == of data -/
mutual
def eqD : D → D → Bool
  | .non, .non => true
  | .bl a, .bl b => a == b
  | .bl a, .int j => (if a then 1 else 0) == j
  | .int i, .bl b => i == (if b then 1 else 0)
  | .int i, .int j => i == j
  | .str x, .str y => x == y
  | .lst xs, .lst ys => eqDs xs ys
  | .tup xs, .tup ys => eqDs xs ys
  | _, _ => false
def eqDs : List D → List D → Bool
  | [], [] => true
  | x :: xs, y :: ys => eqD x y && eqDs xs ys
  | _, _ => false
end
mutual
theorem okD_sh : ∀ (n : Nat) (d : D), okD n d = true → ∃ p, toP d = some p ∧ p.canLay0 = true ∧ p.depth ≤ n
  | n, .non, _ => ⟨_, rfl, rfl, Nat.zero_le _⟩
  | n, .bl _, _ => ⟨_, rfl, rfl, Nat.zero_le _⟩
  | n, .int _, _ => ⟨_, rfl, rfl, Nat.zero_le _⟩
  | n, .str x, h => ⟨_, rfl, by unfold okD at h; simpa [PyData.canLay0] using h, Nat.zero_le _⟩
  | 0, .tup _, h => by simp [okD] at h
  | n + 1, .tup xs, h => by
    obtain ⟨ps, h1, h2, h3⟩ := okDs_sh n xs (by simpa [okD] using h)
    exact ⟨.tuple ps, by unfold toP; rw [h1]; rfl, by simpa [PyData.canLay0] using h2, by show PyData.depthAll ps + 1 ≤ n + 1; omega⟩
  | 0, .lst _, h => by simp [okD] at h
  | n + 1, .lst xs, h => by
    obtain ⟨ps, h1, h2, h3⟩ := okDs_sh n xs (by simpa [okD] using h)
    exact ⟨.list ps, by unfold toP; rw [h1]; rfl, by simpa [PyData.canLay0] using h2, by show PyData.depthAll ps + 1 ≤ n + 1; omega⟩
  | n, .dct _, h => by simp [okD] at h
  | n, .fn _, h => by simp [okD] at h
  | n, .src _, h => by simp [okD] at h
theorem okDs_sh : ∀ (n : Nat) (d : List D), okDs n d = true → ∃ p, toPs d = some p ∧ PyData.canLayAll0 p = true ∧ PyData.depthAll p ≤ n
  | n, [], _ => ⟨[], rfl, rfl, Nat.zero_le _⟩
  | n, x :: xs, h => by
    unfold okDs at h
    obtain ⟨h1, h2⟩ := Bool.and_eq_true_iff.mp h
    obtain ⟨p, a1, a2, a3⟩ := okD_sh n x h1
    obtain ⟨ps, b1, b2, b3⟩ := okDs_sh n xs h2
    exact ⟨p :: ps, by unfold toPs; rw [a1, b1], by show (p.canLay0 && PyData.canLayAll0 ps) = true; rw [a2, b2]; rfl, by show max _ _ ≤ n; exact Nat.max_le.mpr ⟨a3, b3⟩⟩
end
mutual
theorem eqD_eqv : ∀ (d e : D) {p q : PyData}, toP d = some p → toP e = some q → PyData.eqv p q = eqD d e
  | .non, e, p, q, h1, h2 => by
    cases h1
    cases e <;> simp [toP] at h2 <;> first | (subst h2; rfl) | (obtain ⟨a, _, rfl⟩ := h2; rfl)
  | .bl b, e, p, q, h1, h2 => by
    cases h1
    cases e <;> simp [toP] at h2 <;> first | (subst h2; simp [PyData.eqv, eqD]; done) | (obtain ⟨a, _, rfl⟩ := h2; simp [PyData.eqv, eqD])
  | .int b, e, p, q, h1, h2 => by
    cases h1
    cases e <;> simp [toP] at h2 <;> first | (subst h2; simp [PyData.eqv, eqD]; done) | (obtain ⟨a, _, rfl⟩ := h2; simp [PyData.eqv, eqD])
  | .str b, e, p, q, h1, h2 => by
    cases h1
    cases e <;> simp [toP] at h2 <;> first | (subst h2; simp [PyData.eqv, eqD]; done) | (obtain ⟨a, _, rfl⟩ := h2; simp [PyData.eqv, eqD])
  | .tup xs, e, p, q, h1, h2 => by
    simp [toP] at h1
    obtain ⟨ps, g1, rfl⟩ := h1
    cases e with
    | tup ys =>
      simp [toP] at h2
      obtain ⟨qs, g2, rfl⟩ := h2
      have := eqDs_eqv xs ys g1 g2
      simp only [PyData.eqv, eqD]
      exact this
    | lst ys => simp [toP] at h2; obtain ⟨a, _, rfl⟩ := h2; simp [PyData.eqv, eqD]
    | _ => simp [toP] at h2 <;> subst h2 <;> simp [PyData.eqv, eqD]
  | .lst xs, e, p, q, h1, h2 => by
    simp [toP] at h1
    obtain ⟨ps, g1, rfl⟩ := h1
    cases e with
    | lst ys =>
      simp [toP] at h2
      obtain ⟨qs, g2, rfl⟩ := h2
      have := eqDs_eqv xs ys g1 g2
      simp only [PyData.eqv, eqD]
      exact this
    | tup ys => simp [toP] at h2; obtain ⟨a, _, rfl⟩ := h2; simp [PyData.eqv, eqD]
    | _ => simp [toP] at h2 <;> subst h2 <;> simp [PyData.eqv, eqD]
  | .dct _, _, _, _, h1, _ => by cases h1
  | .fn _, _, _, _, h1, _ => by cases h1
  | .src _, _, _, _, h1, _ => by cases h1
theorem eqDs_eqv : ∀ (d e : List D) {p q : List PyData}, toPs d = some p → toPs e = some q → PyData.eqvAll p q = eqDs d e
  | [], [], p, q, h1, h2 => by cases h1; cases h2; rfl
  | [], y :: ys, p, q, h1, h2 => by
    cases h1
    unfold toPs at h2
    split at h2
    · cases h2; rfl
    · cases h2
  | x :: xs, [], p, q, h1, h2 => by
    cases h2
    unfold toPs at h1
    split at h1
    · cases h1; rfl
    · cases h1
  | x :: xs, y :: ys, p, q, h1, h2 => by
    unfold toPs at h1 h2
    split at h1
    · rename_i p1 ps1 a1 a2
      cases h1
      split at h2
      · rename_i q1 qs1 b1 b2
        cases h2
        have i1 := eqD_eqv x y a1 b1
        have i2 := eqDs_eqv xs ys a2 b2
        rw [PyData.eqvAll, eqDs, i1, i2]
      · cases h2
    · cases h1
end
theorem shaped_of {d : D} {p : PyData} (h : okD 64 d = true) (e : toP d = some p) : SeqAt.shaped p = true := by
  obtain ⟨p', e', h1, h2⟩ := okD_sh 64 d h
  rw [e] at e'
  cases e'
  unfold SeqAt.shaped
  rw [h1, decide_eq_true h2]
  rfl

/-! ### arithmetic -/
def vI (i : Int) : Option Val := some ⟨.int i, 0⟩
def vB (b : Bool) : Option Val := some ⟨.bl b, 0⟩
def dAdd : D → D → Option Val
  | .int i, .int j => vI (i + j)
  | .str a, .str b => if a.length + b.length ≤ big then some ⟨.str (a ++ b), 0⟩ else none
  | .tup a, .tup b => if a.length + b.length ≤ big then some ⟨.tup (a ++ b), 0⟩ else none
  | .lst a, .lst b => if a.length + b.length ≤ big then some ⟨.lst (a ++ b), 1⟩ else none
  | _, _ => none
def dSub : D → D → Option Val
  | .int i, .int j => vI (i - j)
  | _, _ => none
def dMul : D → D → Option Val
  | .int i, .int j => if i.natAbs.log2 + j.natAbs.log2 < 1000000 then vI (i * j) else none
  | .lst a, .int k => if -(2 ^ 63) ≤ k ∧ k < 2 ^ 63 ∧ a.length * k.toNat ≤ big then some ⟨.lst (List.replicate k.toNat a).flatten, 1⟩ else none
  | .tup a, .int k => if a ≠ [] ∧ 2 ≤ k ∧ k ≤ 1000 ∧ a.length ≤ 1000 then some ⟨.tup (List.replicate k.toNat a).flatten, 0⟩ else none
  | _, _ => none
def dDiv : D → D → Option Val
  | .int i, .int j => if 0 < j ∧ j.natAbs.log2 < 8192 then vI (i / j) else none
  | _, _ => none
def dMod : D → D → Option Val
  | .int i, .int j => if 0 < j then vI (i % j) else none
  | _, _ => none
def dPow : D → D → Option Val
  | .int i, .int j => if 0 ≤ j ∧ j ≤ 1000000 ∧ i.natAbs < 2 ^ 64 then vI (i ^ j.toNat) else none
  | _, _ => none
def dShl : D → D → Option Val
  | .int i, .int j => if 0 ≤ j ∧ j ≤ 1000000 ∧ i.natAbs < 2 ^ 64 then vI (i * 2 ^ j.toNat) else none
  | _, _ => none
def dShr : D → D → Option Val
  | .int i, .int j => if 0 ≤ j then vI (i / 2 ^ j.toNat) else none
  | _, _ => none
def dBand : D → D → Option Val
  | .int i, .int j => vI (Builtin.bitAnd i j)
  | _, _ => none
def dNeg : D → Option Val
  | .int i => vI (-i)
  | _ => none

section
variable {X : Cx} {P : Par}
theorem rd_lst {pins : List (Addr × Obj)} {σ : St} {H : Hp} {s : Shared} {a : Addr} {vs : List V} (I : Inv X pins σ H s) (h : Rd H a (.lst vs)) : vs.length ≤ sizeLine ∧ ∃ (us : List Value) (m : Nat), Vals vs us ∧ s.heap.get? a = some { cls := .type "list", data := .seq us.toArray m } := by
  rcases h with h | ⟨o, h⟩
  · obtain ⟨z, us, m, r, e⟩ := I.hok a _ h
    exact ⟨z, us, m, r, e⟩
  · obtain ⟨_, h⟩ := (show s.heap.get? a = some o ∧ ObjOk X.prog X.w H s.heap a (.lst vs) from I.hok a _ h)
    obtain ⟨z, us, m, r, e⟩ := h
    exact ⟨z, us, m, r, e⟩
theorem big_le {n : Nat} (h : n ≤ big) : n ≤ sizeLine := by rw [← big_line]; exact h
theorem rep_flat {c : Cn} {H : Hp} {F : Fz} {vs : List V} {ds : List D} (r : RpA c H F vs ds) : ∀ n : Nat, RpA c H F (List.replicate n vs).flatten (List.replicate n ds).flatten
  | 0 => .nil
  | n + 1 => by
    rw [List.replicate_succ, List.replicate_succ, List.flatten_cons, List.flatten_cons]
    exact r.append (rep_flat r n)
theorem o_add : OpR X (binaryOp .Add) (rD2 (cn X P) dAdd) := by
  intro pins s σ H x y v u Q I rx ry ⟨F, d, e, w, tr, h1, h2, ho, q⟩
  unfold dAdd at ho
  split at ho
  · cases ho
    cases h1.int
    cases h2.int
    exact op_add pins s σ H _ _ v u Q I rx ry ⟨_, _, rfl, rfl, q.val (.inl rfl) (.int _)⟩
  · split at ho
    · rename_i hl
      cases ho
      cases h1.str
      cases h2.str
      exact op_add_str pins s σ H _ _ v u Q I rx ry ⟨_, _, rfl, rfl, big_le hl, q.val (.inl rfl) (.str _)⟩
    · cases ho
  · split at ho
    · rename_i hl
      cases ho
      obtain ⟨a1, xs, rfl, ha, ra⟩ := h1.tup
      obtain ⟨a2, ys, rfl, hb, rb⟩ := h2.tup
      have la := ra.length
      have lb := rb.length
      refine op_catA pins s σ H _ _ v u Q I rx ry ⟨a1, a2, xs, ys, rfl, rfl, ha, hb, big_le (by omega), fun e1 => ?_, fun _ e2 => ?_, fun _ _ p hp => q.tup hp (ra.append rb)⟩
      · subst e1
        cases ra
        exact q.val (.inl rfl) (.tup hb rb)
      · subst e2
        cases rb
        rw [List.append_nil] at q
        exact q.val (.inl rfl) (.tup ha ra)
    · cases ho
  · split at ho
    · rename_i hl
      cases ho
      obtain ⟨a1, xs, rfl, ha, ra⟩ := h1.li
      obtain ⟨a2, ys, rfl, hb, rb⟩ := h2.li
      have la := ra.length
      have lb := rb.length
      cases rx
      cases ry
      obtain ⟨_, us1, m1, r1, e1⟩ := rd_lst I ha
      obtain ⟨_, us2, m2, r2, e2⟩ := rd_lst I hb
      have l1 := r1.length
      have l2 := r2.length
      have hz : us1.length + us2.length ≤ sizeLine := big_le (by omega)
      refine PySem.P.add_list e1 e2 ?_ (by rw [List.size_toArray, List.size_toArray]; exact hz)
      rw [show us1.toArray ++ us2.toArray = (us1 ++ us2).toArray by simp]
      exact ⟨.ref _, _, I.lnew (t' := s.toks) (r1.append r2) (by rw [List.length_append]; omega), rfl, q.lst I.fresh (ra.append rb)⟩
    · cases ho
  · cases ho
theorem o_sub : OpR X (binaryOp .Sub) (rD2 (cn X P) dSub) := by
  intro pins s σ H x y v u Q I rx ry ⟨F, d, e, w, tr, h1, h2, ho, q⟩
  unfold dSub at ho
  split at ho
  · cases ho
    cases h1.int
    cases h2.int
    exact op_sub pins s σ H _ _ v u Q I rx ry ⟨_, _, rfl, rfl, q.val (.inl rfl) (.int _)⟩
  · cases ho
theorem rep_list {pins : List (Addr × Obj)} {σ : St} {H : Hp} {s : Shared} {a : Addr} {vs : List V} {k : Int} {t : Tok} {Q : VK} (I : Inv X pins σ H s) (h : Rd H a (.lst vs)) (h1 : -(2 ^ 63) ≤ k) (h2 : k < 2 ^ 63) (hz : vs.length * k.toNat ≤ sizeLine)
    (q : ∀ p, H p = none → Q (.ref p) (upd H p (.lst (List.replicate k.toNat vs).flatten))) : wpAny (model X.prog X.w) X.A (binaryOp .Mult (.ref a) (.int k t)) (EP X pins σ Q) X.xe s := by
  obtain ⟨_, us, m, r, ho⟩ := rd_lst I h
  have l := r.length
  have fit : us.toArray.size * k.toNat ≤ sizeLine := by rw [List.size_toArray, ← l]; exact hz
  have h63 : (sizeLine : Nat) ≤ (2 ^ 63 - 1) / 8 := by decide
  have g1 : ¬ (!Builtin.List.listFitsIndex k) = true := by
    rw [fitsIndex_both h1 h2]
    decide
  have g2 : ¬ us.toArray.size * k.toNat > (2 ^ 63 - 1) / 8 := by omega
  have g3 : ¬ Builtin.List.listTooLong (us.toArray.size * k.toNat) = true := by
    rw [notLongL fit]
    decide
  have made : List.foldl (fun a b => a ++ b) #[] (List.replicate (if us.toArray.isEmpty = true then 0 else k.toNat) us.toArray) = (List.replicate k.toNat us).flatten.toArray := by
    cases us with
    | nil => simp
    | cons z zs =>
      rw [if_neg (by simp)]
      have q := foldl_rep (z :: zs) k.toNat []
      rw [List.nil_append] at q
      exact q
  have isl : s.heap.get? a = some { cls := .type "list", data := .seq us.toArray m } := ho
  refine wpAny_binaryOp_repeat_ref (T := "list") (U := "int") (by decide) ⟨_, isl, rfl⟩ (fun s' => typeIs_int s' k t) noFill_list_mul PySem.F.fills_int_mul PySem.F.slot_int_rmul repeat_list PySem.F.slot_int_index.lookup ?_
  refine call_meets PySem.F.slot_int_rmul (typeIs_int s k t) PySem.F.entry_int_rmul (PySem.F.args_int_rmul_2 _ _) (int___rmul___int_list k t a us.toArray m) ⟨isl, rfl, ⟨_, isl, rfl⟩, ?_⟩
  refine call_meets PySem.F.slot_list_mul ⟨_, isl, rfl⟩ PySem.F.entry_list_mul (PySem.F.args_list_mul_2 _ _) (AutoListH.list___mul___list_int_3 a us.toArray m k t g1 g2 g3) ⟨isl, ?_⟩
  rw [made]
  exact ⟨.ref _, _, I.lnew (t' := s.toks) (r.rep k.toNat) (by rw [PyProof.Rows.lm_len_rep_flat, Nat.mul_comm]; exact hz), rfl, q _ I.fresh⟩
theorem o_mul : OpR X (binaryOp .Mult) (rD2 (cn X P) dMul) := by
  intro pins s σ H x y v u Q I rx ry ⟨F, d, e, w, tr, h1, h2, ho, q⟩
  unfold dMul at ho
  split at ho
  · split at ho
    · rename_i hl
      cases ho
      cases h1.int
      cases h2.int
      exact op_mulW pins s σ H _ _ v u Q I rx ry ⟨_, _, rfl, rfl, hl, q.val (.inl rfl) (.int _)⟩
    · cases ho
  · split at ho
    · rename_i hl
      cases ho
      obtain ⟨a1, xs, rfl, ha, ra⟩ := h1.li
      cases h2.int
      have la := ra.length
      cases rx
      obtain ⟨t, rfl⟩ := ry
      exact rep_list I ha hl.1 hl.2.1 (big_le (by rw [la]; exact hl.2.2)) fun p hp => q.lst hp (rep_flat ra _)
    · cases ho
  · split at ho
    · rename_i hl
      cases ho
      obtain ⟨a1, xs, rfl, ha, ra⟩ := h1.tup
      cases h2.int
      have la := ra.length
      refine op_repT pins s σ H _ _ v u Q I rx ry ⟨a1, _, xs, rfl, rfl, ha, fun e => ?_, hl.2.1, hl.2.2.1, by rw [la]; exact hl.2.2.2, fun p hp => q.tup hp (rep_flat ra _)⟩
      subst e
      cases ra
      exact hl.1 rfl
    · cases ho
  · cases ho
theorem o_div : OpR X (binaryOp .FloorDiv) (rD2 (cn X P) dDiv) := by
  intro pins s σ H x y v u Q I rx ry ⟨F, d, e, w, tr, h1, h2, ho, q⟩
  unfold dDiv at ho
  split at ho
  · split at ho
    · rename_i hl
      cases ho
      cases h1.int
      cases h2.int
      exact op_fdivW pins s σ H _ _ v u Q I rx ry ⟨_, _, rfl, rfl, ⟨hl.1, by omega⟩, q.val (.inl rfl) (.int _)⟩
    · cases ho
  · cases ho
theorem o_mod : OpR X (binaryOp .Mod) (rD2 (cn X P) dMod) := by
  intro pins s σ H x y v u Q I rx ry ⟨F, d, e, w, tr, h1, h2, ho, q⟩
  unfold dMod at ho
  split at ho
  · split at ho
    · rename_i hl
      cases ho
      cases h1.int
      cases h2.int
      exact op_mod pins s σ H _ _ v u Q I rx ry ⟨_, _, rfl, rfl, hl, q.val (.inl rfl) (.int _)⟩
    · cases ho
  · cases ho
theorem o_pow : OpR X (binaryOp .Pow) (rD2 (cn X P) dPow) := by
  intro pins s σ H x y v u Q I rx ry ⟨F, d, e, w, tr, h1, h2, ho, q⟩
  unfold dPow at ho
  split at ho
  · split at ho
    · rename_i hl
      cases ho
      cases h1.int
      cases h2.int
      exact op_pow pins s σ H _ _ v u Q I rx ry ⟨_, _, rfl, rfl, hl, q.val (.inl rfl) (.int _)⟩
    · cases ho
  · cases ho
theorem o_shl : OpR X (binaryOp .LShift) (rD2 (cn X P) dShl) := by
  intro pins s σ H x y v u Q I rx ry ⟨F, d, e, w, tr, h1, h2, ho, q⟩
  unfold dShl at ho
  split at ho
  · split at ho
    · rename_i hl
      cases ho
      cases h1.int
      cases h2.int
      exact op_shl pins s σ H _ _ v u Q I rx ry ⟨_, _, rfl, rfl, hl, q.val (.inl rfl) (.int _)⟩
    · cases ho
  · cases ho
theorem o_shr : OpR X (binaryOp .RShift) (rD2 (cn X P) dShr) := by
  intro pins s σ H x y v u Q I rx ry ⟨F, d, e, w, tr, h1, h2, ho, q⟩
  unfold dShr at ho
  split at ho
  · split at ho
    · rename_i hl
      cases ho
      cases h1.int
      cases h2.int
      exact op_shr pins s σ H _ _ v u Q I rx ry ⟨_, _, rfl, rfl, hl, q.val (.inl rfl) (.int _)⟩
    · cases ho
  · cases ho
theorem o_band : OpR X (binaryOp .BitAnd) (rD2 (cn X P) dBand) := by
  intro pins s σ H x y v u Q I rx ry ⟨F, d, e, w, tr, h1, h2, ho, q⟩
  unfold dBand at ho
  split at ho
  · cases ho
    cases h1.int
    cases h2.int
    exact op_and pins s σ H _ _ v u Q I rx ry ⟨_, _, rfl, rfl, q.val (.inl rfl) (.int _)⟩
  · cases ho
theorem o_neg : UnR X (unaryOp .USub) (rD1 (cn X P) dNeg) := by
  intro pins s σ H x v Q I rx ⟨F, d, w, tr, h1, ho, q⟩
  unfold dNeg at ho
  split at ho
  · cases ho
    cases h1.int
    exact un_neg pins s σ H _ v Q I rx ⟨_, rfl, q.val (.inl rfl) (.int _)⟩
  · cases ho
end
end PL

/-! PL13: x[::-1] of a list or a tuple. -/
namespace HT
open PySem PyProof.Rows
open PySem.SeqAt
open PySem.AutoSeq1 (wpAny_loadPart')
open PySem.MeetsSeq PySem.MeetsSeq2 PySem.MeetsSeq3
section
variable {prog : Program} {w : World} {A : Around} {E : Value → Shared → Prop} {s : Shared}
theorem pl_adj (n : Nat) : Builtin.Slice.sliceAdjust none none (-1) (n : Int) = ((n : Int) - 1, -1) := by
  unfold Builtin.Slice.sliceAdjust
  simp
theorem pl_places (n : Nat) : Builtin.Slice.slicePlaces ((n : Int) - 1) (-1) (-1) = n := by
  unfold Builtin.Slice.slicePlaces
  simp
  omega
theorem pl_pick (xs : Array Value) : ((List.range xs.size).filterMap fun (m : Nat) => xs[((xs.size : Int) - 1 + (m : Int) * (-1)).toNat]?).toArray = xs.toList.reverse.toArray := by
  congr 1
  have e : ∀ (f g : Nat → Option Value) (l : List Nat), (∀ m ∈ l, f m = g m) → l.filterMap f = l.filterMap g := fun f g l h => by
    induction l with
    | nil => rfl
    | cons a l ih => rw [List.filterMap_cons, List.filterMap_cons, h a List.mem_cons_self, ih fun m hm => h m (List.mem_cons_of_mem _ hm)]
  rw [e _ (fun m => xs[xs.size - 1 - m]?) _ fun m hm => by
    have := List.mem_range.mp hm
    show xs[_]? = xs[_]?
    congr 1
    omega]
  have k : (fun m => xs[xs.size - 1 - m]?) = (fun j => xs[j]?) ∘ (fun m => xs.size - 1 - m) := rfl
  rw [k, ← List.filterMap_map, PySem.W.krv_range, List.filterMap_reverse, PySem.W.krv_all]
theorem sliceApplied_rev {sl : Addr} {vl vu vs : Value} {n : Nat} {Q : Int × Int × Nat → Shared → Prop} (hs : s.heap.IsSliceOf sl vl vu vs) (pl : IsPart vl none) (pu : IsPart vu none) (ps : IsPart vs (some (-1)))
    (h : Q ((n : Int) - 1, -1, n) s) : wpAny (model prog w) A (Builtin.Slice.sliceApplied (.ref sl) (pure (n : Int))) Q E s := by
  obtain ⟨os, hos, hcs, hds⟩ := id hs
  unfold Builtin.Slice.sliceApplied Builtin.Slice.sliceFields
  refine wpAny_bind (wpAny_bind (wpAny_field hos hds (x := vl) rfl (wpAny_bind (wpAny_field hos hds (x := vu) rfl (wpAny_bind (wpAny_field hos hds (x := vs) rfl (wpAny_pure ?_)))))))
  refine wpAny_bind (slicePart_ ps ?_)
  show wpAny _ _ (if ((-1 : Int) == 0) = true then _ else _) _ _ s
  rw [if_neg (by decide)]
  refine wpAny_bind (slicePart_ pl (wpAny_bind (slicePart_ pu (wpAny_bind (wpAny_pure ?_)))))
  show wpAny _ _ (match Builtin.Slice.sliceAdjust none none (-1) (n : Int) with | (lo, hi) => pure (lo, (-1 : Int), Builtin.Slice.slicePlaces lo hi (-1))) _ _ s
  rw [pl_adj n]
  show wpAny _ _ (pure ((n : Int) - 1, (-1 : Int), Builtin.Slice.slicePlaces ((n : Int) - 1) (-1) (-1))) _ _ s
  rw [pl_places]
  exact wpAny_pure h
theorem getItem_tuple_rev {t sl : Addr} {items : Array Value} {vl vu vs : Value} {Q : Value → Shared → Prop} (ht : IsTup s.heap t items) (hs : s.heap.IsSliceOf sl vl vu vs) (pl : IsPart vl none) (pu : IsPart vu none) (ps : IsPart vs (some (-1)))
    (h : Q (.ref s.heap.objs.size) { s with heap := s.heap.push { cls := .type "tuple", data := .seq items.toList.reverse.toArray } })
    (hsz : items.size ≤ sizeLine) : wpAny (model prog w) A (getItem (.ref t) (.ref sl)) Q E s := by
  have fits : sizeOk (.seq items.toList.reverse.toArray) := by
    show items.toList.reverse.toArray.size ≤ sizeLine
    simpa using hsz
  obtain ⟨os, hos, hcs, hds⟩ := id hs
  have isS : s.TypeIs (.ref sl) "slice" := ⟨os, hos, hcs⟩
  unfold getItem
  try with_reducible refine wpAny_holding ?_
  first | refine wpAny_bind (wpAny_pure ?_) | skip
  refine wpAny_bind (wpAny_sequenceKey ht.typeIs (by decide) ?_)
  refine wpAny_bind (wpAny_callSpecial?_slot (name := Str.ofString "__getitem__") ht.typeIs PyProof.Rows.slot_tuple_getitem (wpAny_call_entry PyProof.Rows.slot_tuple_getitem ht.typeIs entry_tuple_getitem ?_ (args_tuple_getitem _ _)))
  show wpAny _ _ (Builtin.Tuple.tupleItemsOf (.ref t) >>= _) _ _ s
  refine wpAny_bind (tupleItemsOf_ ht ?_)
  refine wpAny_bind (wpAny_typeOf isS ?_)
  rw [if_pos (by decide)]
  refine wpAny_bind (sliceApplied_rev hs pl pu ps ?_)
  show wpAny _ _ (if (((items.size : Int) - 1 == 0 && (-1 : Int) == 1 && items.size == items.size) = true) then _ else _) _ _ s
  rw [if_neg (by simp), pl_pick]
  first
    | exact wpAny_bind (m := Builtin.Tuple.tupleExact _) (wpAny_newObj_type (wpAny_pure ⟨_, rfl, wpAny_pure h⟩) fits)
    | exact wpAny_bind (wpAny_bind (m := Builtin.Tuple.tupleExact _) (wpAny_newObj_type (wpAny_pure (wpAny_pure ⟨_, rfl, wpAny_pure h⟩)) fits))
    | exact wpAny_bind (wpAny_bind (m := Builtin.Tuple.tupleExact _) (wpAny_newObj_type (wpAny_pure ⟨_, rfl, wpAny_pure h⟩) fits))
    | exact wpAny_bind (m := Builtin.Tuple.tupleExact _) (wpAny_newObj_type (wpAny_bind (wpAny_pure (wpAny_pure ⟨_, rfl, wpAny_pure h⟩))) fits)
end
end HT
namespace PL
open PySem PySem.Spec PySem.Calls L2
def dRev : D → Option Val
  | .lst ds => some ⟨.lst ds.reverse, 1⟩
  | .tup ds => some ⟨.tup ds.reverse, 0⟩
  | _ => none
theorem RpA.reverse {c : Cn} {H : Hp} {F : Fz} : ∀ {vs : List V} {ds : List D}, RpA c H F vs ds → RpA c H F vs.reverse ds.reverse
  | _, _, .nil => .nil
  | _, _, .cons h r => by
    rw [List.reverse_cons, List.reverse_cons]
    exact r.reverse.append (.cons h .nil)
section
variable {X : Cx} {P : Par} {pos p1 p2 p3 : Pos}
theorem s_rev {e : Expr} {a : Opd} {k : Nat} (ha : SO X P e a) : SE X P (.Subscript e (.Slice none none (some (.UnaryOp .USub (.Constant (.int 1) k p1) p2)) p3) pos) (e1 dRev a) := by
  refine ⟨⟨fun pins s σ H Q I h => ?_⟩⟩
  refine PyProof.Rows.Subscript_ (thn (ha.pe.run pins s σ H _ I (core1 h)) fun v s1 ⟨x, H1, I1, r1, q1⟩ => ?_)
  obtain ⟨F, d, w, tr, hx, ho, q⟩ := q1
  have hst : PO X (some (.UnaryOp .USub (.Constant (.int 1) k p1) p2)) (tPart (tUn (rU fun i => .int (-i)) (tC (.int 1)))) := po_some (pe_un un_neg pe_int)
  refine wpAny_Slice (thn (po_none.run pins s1 σ H1 (fun o H2 => o = none ∧ H2 = H1) I1 ⟨rfl, rfl⟩) fun vl s2 ⟨l, H2, I2, pl, el, e2⟩ => ?_)
  subst el e2
  refine thn (po_none.run pins s2 σ H2 (fun o H3 => o = none ∧ H3 = H2) I2 ⟨rfl, rfl⟩) fun vu s3 ⟨u, H3, I3, pu, eu, e3⟩ => ?_
  subst eu e3
  refine thn (hst.run pins s3 σ H3 (fun o H4 => o = some (-1) ∧ H4 = H3) I3 ⟨1, rfl, -1, rfl, rfl, rfl⟩) fun vs s4 ⟨o, H4, I4, ps, eo, e4⟩ => ?_
  subst eo e4
  have I5 : L2.Inv X pins σ H4 { s4 with heap := s4.heap.push { cls := .type "slice", data := .fields #[vl, vu, vs] } } := I4.kept (t' := s4.toks) fun b ob q => Heap.get?_push_of_some _ q
  unfold dRev at ho
  split at ho
  · cases ho
    obtain ⟨a, xs, rfl, hx, rv⟩ := hx.li
    cases r1
    obtain ⟨us, r, ht, hz⟩ := I5.list (rd_sqL (c := cn X P) hx)
    have hl := r.length
    show wpAny (model X.prog X.w) X.A (PyProof.Rows.subscriptTail e (.Slice none none (some (.UnaryOp .USub (.Constant (.int 1) k p1) p2)) p3) (.ref a) (.ref s4.heap.objs.size)) (EP X pins σ Q) X.xe { s4 with heap := s4.heap.push { cls := .type "slice", data := .fields #[vl, vu, vs] } }
    refine PyProof.Rows.tail_any (ops := [.ref a, .ref s4.heap.objs.size]) ht.isList.typeIs (PySem.slot_list_getitem.lookup) ?_ (by with_unfolding_all rfl)
    refine wpAny_getItem_list_slice ht.isList (Heap.IsSliceOf.new _ vl vu vs) pl pu ps (by decide) ?_ (by rw [List.size_toArray]; omega)
    rw [PySem.W.krv_pick]
    exact ⟨.ref _, _, I5.laid (t' := s4.toks) (o := .lst xs.reverse) (fun b ob q => Heap.get?_push_of_some _ q) (Nat.le_refl _) ⟨by rw [List.length_reverse]; exact hz, _, 0, r.reverse, Heap.get?_push_size _ rfl⟩, rfl, q.lst (I5.hok.fresh (Nat.le_refl _)) rv.reverse⟩
  · cases ho
    obtain ⟨a, xs, rfl, hx, rv⟩ := hx.tup
    cases r1
    obtain ⟨us, r, ht, hz⟩ := I5.tuple hx
    have hl := r.length
    show wpAny (model X.prog X.w) X.A (PyProof.Rows.subscriptTail e (.Slice none none (some (.UnaryOp .USub (.Constant (.int 1) k p1) p2)) p3) (.ref a) (.ref s4.heap.objs.size)) (EP X pins σ Q) X.xe { s4 with heap := s4.heap.push { cls := .type "slice", data := .fields #[vl, vu, vs] } }
    refine PyProof.Rows.tail_any (ops := [.ref a, .ref s4.heap.objs.size]) ht.typeIs (PyProof.Rows.slot_tuple_getitem.lookup) ?_ (by with_unfolding_all rfl)
    refine HT.getItem_tuple_rev ht (Heap.IsSliceOf.new _ vl vu vs) pl pu ps ?_ (by rw [List.size_toArray]; omega)
    exact ⟨.ref _, _, I5.laid (t' := s4.toks) (o := .tup xs.reverse) (fun b ob q => Heap.get?_push_of_some _ q) (Nat.le_refl _) ⟨by rw [List.length_reverse]; exact hz, _, r.reverse, PyProof.Rows.IsTup.new _ _⟩, rfl, q.tup (I5.hok.fresh (Nat.le_refl _)) rv.reverse⟩
  · cases ho
end
end PL

/-! PL14: comparisons, isinstance, calls of the library's functions, x[i], slices. -/
namespace PL
open PySem PySem.Spec PySem.Calls L2

section
variable {X : Cx} {P : Par}
/-! ### comparisons -/
def dLt : D → D → Option Val
  | .int i, .int j => vB (decide (i < j))
  | _, _ => none
def dLe : D → D → Option Val
  | .int i, .int j => vB (decide (i ≤ j))
  | _, _ => none
def dGt : D → D → Option Val
  | .int i, .int j => vB (decide (j < i))
  | _, _ => none
def dGe : D → D → Option Val
  | .int i, .int j => vB (decide (j ≤ i))
  | _, _ => none
theorem o_lt : OpR X (compareOp .Lt) (rD2 (cn X P) dLt) := by
  intro pins s σ H x y v u Q I rx ry ⟨F, d, e, w, tr, h1, h2, ho, q⟩
  unfold dLt at ho
  split at ho
  · cases ho
    cases h1.int
    cases h2.int
    exact op_lt pins s σ H _ _ v u Q I rx ry ⟨_, _, rfl, rfl, q.val (.inl rfl) (.bl _)⟩
  · cases ho
theorem o_le : OpR X (compareOp .LtE) (rD2 (cn X P) dLe) := by
  intro pins s σ H x y v u Q I rx ry ⟨F, d, e, w, tr, h1, h2, ho, q⟩
  unfold dLe at ho
  split at ho
  · cases ho
    cases h1.int
    cases h2.int
    exact op_le pins s σ H _ _ v u Q I rx ry ⟨_, _, rfl, rfl, q.val (.inl rfl) (.bl _)⟩
  · cases ho
theorem o_gt : OpR X (compareOp .Gt) (rD2 (cn X P) dGt) := by
  intro pins s σ H x y v u Q I rx ry ⟨F, d, e, w, tr, h1, h2, ho, q⟩
  unfold dGt at ho
  split at ho
  · cases ho
    cases h1.int
    cases h2.int
    exact op_gt pins s σ H _ _ v u Q I rx ry ⟨_, _, rfl, rfl, q.val (.inl rfl) (.bl _)⟩
  · cases ho
theorem o_ge : OpR X (compareOp .GtE) (rD2 (cn X P) dGe) := by
  intro pins s σ H x y v u Q I rx ry ⟨F, d, e, w, tr, h1, h2, ho, q⟩
  unfold dGe at ho
  split at ho
  · cases ho
    cases h1.int
    cases h2.int
    exact op_ge pins s σ H _ _ v u Q I rx ry ⟨_, _, rfl, rfl, q.val (.inl rfl) (.bl _)⟩
  · cases ho
def dEq (d e : D) : Option Val := if (okD 64 d && okD 64 e) = true then vB (eqD d e) else none
def dNe (d e : D) : Option Val := if (okD 64 d && okD 64 e) = true then vB (!eqD d e) else none
theorem o_eq (hu : X.A.units + 65 < cLine) : OpR X (compareOp .Eq) (rD2 (cn X P) dEq) := by
  intro pins s σ H x y v u Q I rx ry ⟨F, d, e, w, tr, h1, h2, ho, q⟩
  unfold dEq at ho
  split at ho
  · rename_i hk
    cases ho
    obtain ⟨k1, k2⟩ := Bool.and_eq_true_iff.mp hk
    obtain ⟨p1, e1, _⟩ := okD_sh 64 d k1
    obtain ⟨p2, e2, _⟩ := okD_sh 64 e k2
    refine op_eqD (by omega) pins s σ H _ _ v u Q I rx ry ⟨p1, p2, h1.dp e1, h2.dp e2, shaped_of k1 e1, shaped_of k2 e2, ?_⟩
    rw [eqD_eqv d e e1 e2]
    exact q.val (.inl rfl) (.bl _)
  · cases ho
theorem o_ne (hu : X.A.units + 65 < cLine) : OpR X (compareOp .NotEq) (rD2 (cn X P) dNe) := by
  intro pins s σ H x y v u Q I rx ry ⟨F, d, e, w, tr, h1, h2, ho, q⟩
  unfold dNe at ho
  split at ho
  · rename_i hk
    cases ho
    obtain ⟨k1, k2⟩ := Bool.and_eq_true_iff.mp hk
    obtain ⟨p1, e1, _⟩ := okD_sh 64 d k1
    obtain ⟨p2, e2, _⟩ := okD_sh 64 e k2
    refine op_neD (by omega) pins s σ H _ _ v u Q I rx ry ⟨p1, p2, h1.dp e1, h2.dp e2, shaped_of k1 e1, shaped_of k2 e2, ?_⟩
    rw [eqD_eqv d e e1 e2]
    exact q.val (.inl rfl) (.bl _)
  · cases ho
def itemsOf : D → Option (List D)
  | .lst ds => some ds
  | .tup ds => some ds
  | _ => none
def memD (d : D) : List D → Bool
  | [] => false
  | z :: zs => eqD z d || memD d zs
def dIn (d e : D) : Option Val := match itemsOf e with
  | some ds => if (okD 64 d && okDs 63 ds) = true then vB (memD d ds) else none
  | none => none
def dNin (d e : D) : Option Val := match itemsOf e with
  | some ds => if (okD 64 d && okDs 63 ds) = true then vB (!memD d ds) else none
  | none => none
theorem mem_any {d : D} {p : PyData} (e : toP d = some p) : ∀ {ds : List D} {ps : List PyData}, toPs ds = some ps → (ps.any fun z => PyData.eqv z p) = memD d ds
  | [], _, h => by cases h; rfl
  | z :: zs, ps, h => by
    unfold toPs at h
    split at h
    · rename_i p1 ps1 a1 a2
      cases h
      rw [List.any_cons, memD, eqD_eqv z d a1 e, mem_any e a2]
    · cases h
theorem o_in (hu : X.A.units + 65 < cLine) : OpR X (compareOp .In) (rD2 (cn X P) dIn) := by
  intro pins s σ H x y v u Q I rx ry ⟨F, d, e, w, tr, h1, h2, ho, q⟩
  unfold dIn at ho
  split at ho
  · rename_i ds hds
    split at ho
    · rename_i hk
      cases ho
      obtain ⟨k1, k2⟩ := Bool.and_eq_true_iff.mp hk
      obtain ⟨p1, e1, _⟩ := okD_sh 64 d k1
      obtain ⟨p2, e2, c2, _⟩ := okDs_sh 63 ds k2
      have sh := shaped_of k1 e1
      obtain ⟨as, r1⟩ := Dp.reads I p1 x v (h1.dp e1) rx
      unfold itemsOf at hds
      split at hds
      · cases hds
        have t : toP (.lst ds) = some (.list p2) := by unfold toP; rw [e2]; rfl
        obtain ⟨bs, r2⟩ := Dp.reads I (.list p2) y u (h2.dp t) ry
        refine SeqAt.in_list_reads r2 r1 c2 (SeqAt.canLay_of_shaped sh) (PyProof.Rows.room_in_shaped sh hu) ⟨.bl _, H, I, rfl, ?_⟩
        rw [mem_any e1 e2]
        exact q.val (.inl rfl) (.bl _)
      · cases hds
        have t : toP (.tup ds) = some (.tuple p2) := by unfold toP; rw [e2]; rfl
        obtain ⟨bs, r2⟩ := Dp.reads I (.tuple p2) y u (h2.dp t) ry
        refine SeqAt.in_tuple_reads r2 r1 c2 (SeqAt.canLay_of_shaped sh) (PyProof.Rows.room_in_shaped sh hu) ⟨.bl _, H, I, rfl, ?_⟩
        rw [mem_any e1 e2]
        exact q.val (.inl rfl) (.bl _)
      · cases hds
    · cases ho
  · cases ho
theorem o_nin (hu : X.A.units + 65 < cLine) : OpR X (compareOp .NotIn) (rD2 (cn X P) dNin) := by
  intro pins s σ H x y v u Q I rx ry ⟨F, d, e, w, tr, h1, h2, ho, q⟩
  unfold dNin at ho
  split at ho
  · rename_i ds hds
    split at ho
    · rename_i hk
      cases ho
      obtain ⟨k1, k2⟩ := Bool.and_eq_true_iff.mp hk
      obtain ⟨p1, e1, _⟩ := okD_sh 64 d k1
      obtain ⟨p2, e2, c2, _⟩ := okDs_sh 63 ds k2
      have sh := shaped_of k1 e1
      obtain ⟨as, r1⟩ := Dp.reads I p1 x v (h1.dp e1) rx
      unfold itemsOf at hds
      split at hds
      · cases hds
        have t : toP (.lst ds) = some (.list p2) := by unfold toP; rw [e2]; rfl
        obtain ⟨bs, r2⟩ := Dp.reads I (.list p2) y u (h2.dp t) ry
        refine SeqAt.notIn_list_reads r2 r1 c2 (SeqAt.canLay_of_shaped sh) (PyProof.Rows.room_in_shaped sh hu) ⟨.bl _, H, I, rfl, ?_⟩
        rw [mem_any e1 e2]
        exact q.val (.inl rfl) (.bl _)
      · cases hds
        have t : toP (.tup ds) = some (.tuple p2) := by unfold toP; rw [e2]; rfl
        obtain ⟨bs, r2⟩ := Dp.reads I (.tuple p2) y u (h2.dp t) ry
        refine SeqAt.notIn_tuple_reads r2 r1 c2 (SeqAt.canLay_of_shaped sh) (PyProof.Rows.room_in_shaped sh hu) ⟨.bl _, H, I, rfl, ?_⟩
        rw [mem_any e1 e2]
        exact q.val (.inl rfl) (.bl _)
      · cases hds
    · cases ho
  · cases ho
def isNon : D → Bool
  | .non => true
  | _ => false
def dIs : D → D → Option Val
  | d, .non => vB (isNon d)
  | .bl a, .bl b => vB (a == b)
  | _, _ => none
def dIsNot : D → D → Option Val
  | d, .non => vB (!isNon d)
  | .bl a, .bl b => vB (!(a == b))
  | _, _ => none
theorem rt_non {c : Cn} {H : Hp} {F : Fz} {x : V} {d : D} (h : Rt c H F x d) : decide (x = .non) = isNon d := by
  cases h with
  | of r => cases r <;> rfl
  | lst _ _ => rfl
  | dct _ _ => rfl
theorem o_is : OpR X (compareOp .Is) (rD2 (cn X P) dIs) := by
  intro pins s σ H x y v u Q I rx ry ⟨F, d, e, w, tr, h1, h2, ho, q⟩
  unfold dIs at ho
  split at ho
  · cases ho
    cases h2.non
    refine op_isN pins s σ H _ _ v u Q I rx ry ⟨rfl, ?_⟩
    rw [rt_non h1]
    exact q.val (.inl rfl) (.bl _)
  · cases ho
    cases h1.bl
    cases h2.bl
    exact op_is_bl pins s σ H _ _ v u Q I rx ry ⟨_, _, rfl, rfl, q.val (.inl rfl) (.bl _)⟩
  · cases ho
theorem o_isnot : OpR X (compareOp .IsNot) (rD2 (cn X P) dIsNot) := by
  intro pins s σ H x y v u Q I rx ry ⟨F, d, e, w, tr, h1, h2, ho, q⟩
  unfold dIsNot at ho
  split at ho
  · cases ho
    cases h2.non
    refine op_notN pins s σ H _ _ v u Q I rx ry ⟨rfl, ?_⟩
    rw [rt_non h1]
    exact q.val (.inl rfl) (.bl _)
  · cases ho
    cases h1.bl
    cases h2.bl
    exact op_isnot_bl pins s σ H _ _ v u Q I rx ry ⟨_, _, rfl, rfl, q.val (.inl rfl) (.bl _)⟩
  · cases ho

/-! ### isinstance -/
def tyD : D → String
  | .non => "NoneType"
  | .bl _ => "bool"
  | .int _ => "int"
  | .str _ => "str"
  | .tup _ => "tuple"
  | .lst _ => "list"
  | .dct _ => "dict"
  | .fn _ => "function"
  | .src _ => "list"
def plainD : D → Prop
  | .dct _ => False
  | .fn _ => False
  | .src _ => False
  | _ => True
theorem rt_ty {H : Hp} {F : Fz} {x : V} {d : D} (h : Rt (cn X P) H F x d) : plainD d → TyX X.K H x (.type (tyD d)) := by
  have lst : ∀ {a : Addr} {vs : List V}, Rd H a (.lst vs) → TyX X.K H (.ref a) (.type "list") := fun h => by
    rcases h with h | ⟨o, h⟩
    · exact .base (.lst h)
    · exact .base (.frz h)
  intro hd
  cases h with
  | of r =>
    cases r with
    | non => exact .base .non
    | bl b => exact .base (.bl b)
    | int i => exact .base (.int i)
    | str i => exact .base (.str i)
    | @tup a vs ds h r =>
      rcases h with (h | ⟨o, h⟩) | ⟨o, its, m, hk, hc, _⟩
      · exact .base (.tup h)
      · exact .fTuple h
      · exact .kTuple hk hc
    | lst f h r => exact lst h
    | dct _ _ _ => exact hd.elim
    | fn _ => exact hd.elim
    | src _ => exact hd.elim
  | lst h r => exact lst (.of h)
  | dct _ _ => exact hd.elim
def isiT (t T : String) : Bool := t == T || (t == "bool" && T == "int")
def dIsi (T : String) (d : D) : Option Val := match d with
  | .dct _ => none
  | .fn _ => none
  | .src _ => none
  | d => vB (isiT (tyD d) T)
theorem kit_tys (K : PySem.W.Frag) {T : String} (hT : T = "int" ∨ T = "bool" ∨ T = "str" ∨ T = "tuple" ∨ T = "list") {t : String} (ht : t = "NoneType" ∨ t = "bool" ∨ t = "int" ∨ t = "str" ∨ t = "tuple" ∨ t = "list") :
    PySem.W.kitOne K (.type t) (.type T) = some (isiT t T) := by
  rcases hT with rfl | rfl | rfl | rfl | rfl <;> rcases ht with rfl | rfl | rfl | rfl | rfl | rfl <;> rfl
theorem s_isi {x T : Str} {n : String} {p p2 pos : Pos} {e : Expr} {a : Opd} (hT : n = "int" ∨ n = "bool" ∨ n = "str" ∨ n = "tuple" ∨ n = "list") (hx : x = "isinstance") (hg : Gl X x) (hm : X.mg x = none) (hg2 : Gl X T) (hm2 : X.mg T = none) (hv2 : bootBuiltins T = some (.type n)) (ha : SO X P e a)
    (hn2 : T ≠ "__name__" := by decide) (hd2 : (T == ("__debug__" : Str)) = false := by decide)
    (he : starEach [e, .Name T p2] X.env = (false, eval e X.env) :: starEach [.Name T p2] X.env := by rfl) (he2 : starEach [.Name T p2] X.env = (false, eval (.Name T p2) X.env) :: starEach [] X.env := by rfl) (hpl : (backTo pos (starEach [.Name T p2] X.env)).any (·.1) = false := by rfl) :
    SE X P (.Call (.Name x p) [e, .Name T p2] [] pos) (e1 (dIsi n) a) := by
  subst hx
  refine ⟨pe_imp (pe_callB (r := rIsi X.K) call_isi hg hm (by rfl) (pa_cons ha.pe (pa_cons (pe_bltn (v := .ty n) hg2 hm2 hv2 rfl hn2 hd2) pa_nil he2) he) (by decide) (by decide) he hpl) fun σ H Q h => ?_⟩
  refine tO_mono (core1 h) fun x1 H1 ⟨F, d, w, tr, hx, ho, q⟩ => ?_
  unfold dIsi at ho
  have fin : ∀ (h1 : w = ⟨.bl (isiT (tyD d) n), 0⟩), plainD d → rIsi X.K [x1, .ty n] H1 Q := fun h1 hd => by
    subst h1
    refine ⟨x1, .ty n, _, _, _, rfl, .ty n, rt_ty hx hd, kit_tys X.K hT ?_, q.val (.inl rfl) (.bl _)⟩
    cases d with
    | dct _ => exact hd.elim
    | fn _ => exact hd.elim
    | src _ => exact hd.elim
    | non => exact .inl rfl
    | bl _ => exact .inr (.inl rfl)
    | int _ => exact .inr (.inr (.inl rfl))
    | str _ => exact .inr (.inr (.inr (.inl rfl)))
    | tup _ => exact .inr (.inr (.inr (.inr (.inl rfl))))
    | lst _ => exact .inr (.inr (.inr (.inr (.inr rfl))))
  cases d with
  | dct _ => cases ho
  | fn _ => cases ho
  | src _ => cases ho
  | non => cases ho; exact fin rfl trivial
  | bl _ => cases ho; exact fin rfl trivial
  | int _ => cases ho; exact fin rfl trivial
  | str _ => cases ho; exact fin rfl trivial
  | tup _ => cases ho; exact fin rfl trivial
  | lst _ => cases ho; exact fin rfl trivial

/-! ### calls of the library's functions -/
theorem RtA.one {c : Cn} {H : Hp} {F : Fz} {xs : List V} {d : D} (h : RtA c H F xs [d]) : ∃ x, xs = [x] ∧ Rt c H F x d := by
  cases h with
  | cons h1 h2 => cases h2; exact ⟨_, rfl, h1⟩
theorem RtA.two {c : Cn} {H : Hp} {F : Fz} {xs : List V} {d e : D} (h : RtA c H F xs [d, e]) : ∃ x y, xs = [x, y] ∧ Rt c H F x d ∧ Rt c H F y e := by
  cases h with
  | cons h1 h2 => cases h2 with
    | cons h3 h4 => cases h4; exact ⟨_, _, rfl, h1, h3⟩
theorem RtA.three {c : Cn} {H : Hp} {F : Fz} {xs : List V} {d e f : D} (h : RtA c H F xs [d, e, f]) : ∃ x y z, xs = [x, y, z] ∧ Rt c H F x d ∧ Rt c H F y e ∧ Rt c H F z f := by
  cases h with
  | cons h1 h2 => cases h2 with
    | cons h3 h4 => cases h4 with
      | cons h5 h6 => cases h6; exact ⟨_, _, _, rfl, h1, h3, h5⟩
def oLen : List D → Option Val
  | [.lst ds] => vI ds.length
  | [.tup ds] => vI ds.length
  | [.str x] => if x.length ≤ big then vI x.length else none
  | _ => none
theorem c_len : CallR X (.builtin "len") (rDn (cn X P) oLen) := by
  intro pins s σ H xs us Q I r ⟨F, ds, w, tr, hx, ho, q⟩
  unfold oLen at ho
  split at ho
  · cases ho
    obtain ⟨x, rfl, h1⟩ := hx.one
    obtain ⟨a, vs, rfl, hl, rv⟩ := h1.li
    refine call_len_seq pins s σ H _ us Q I r ⟨a, vs, rfl, .inl (rd_sqL (c := cn X P) hl), ?_⟩
    rw [rv.length]
    exact q.val (.inl rfl) (.int _)
  · cases ho
    obtain ⟨x, rfl, h1⟩ := hx.one
    obtain ⟨a, vs, rfl, hl, rv⟩ := h1.tup
    refine call_len_seq pins s σ H _ us Q I r ⟨a, vs, rfl, .inr hl, ?_⟩
    rw [rv.length]
    exact q.val (.inl rfl) (.int _)
  · split at ho
    · rename_i hl
      cases ho
      obtain ⟨x, rfl, h1⟩ := hx.one
      cases h1.str
      exact call_len_str pins s σ H _ us Q I r ⟨_, rfl, big_le hl, q.val (.inl rfl) (.int _)⟩
    · cases ho
  · cases ho
def oAbs : List D → Option Val
  | [.int i] => vI (if i < 0 then -i else i)
  | _ => none
theorem c_abs : CallR X (.builtin "abs") (rDn (cn X P) oAbs) := by
  intro pins s σ H xs us Q I r ⟨F, ds, w, tr, hx, ho, q⟩
  unfold oAbs at ho
  split at ho
  · cases ho
    obtain ⟨x, rfl, h1⟩ := hx.one
    cases h1.int
    exact call_abs pins s σ H _ us Q I r ⟨_, rfl, q.val (.inl rfl) (.int _)⟩
  · cases ho
def oInt : List D → Option Val
  | [.int i] => vI i
  | [.bl b] => vI (if b then 1 else 0)
  | _ => none
theorem c_int : CallR X (.type "int") (rDn (cn X P) oInt) := by
  intro pins s σ H xs us Q I r ⟨F, ds, w, tr, hx, ho, q⟩
  unfold oInt at ho
  split at ho
  · cases ho
    obtain ⟨x, rfl, h1⟩ := hx.one
    cases h1.int
    exact call_int1 pins s σ H _ us Q I r (.inl ⟨_, rfl, q.val (.inl rfl) (.int _)⟩)
  · cases ho
    obtain ⟨x, rfl, h1⟩ := hx.one
    cases h1.bl
    exact call_int1 pins s σ H _ us Q I r (.inr ⟨_, rfl, q.val (.inl rfl) (.int _)⟩)
  · cases ho
def oTuple : List D → Option Val
  | [.lst ds] => some ⟨.tup ds, 0⟩
  | [.tup ds] => some ⟨.tup ds, 0⟩
  | _ => none
theorem c_tuple : CallR X (.type "tuple") (rDn (cn X P) oTuple) := by
  intro pins s σ H xs us Q I r ⟨F, ds, w, tr, hx, ho, q⟩
  unfold oTuple at ho
  split at ho
  · cases ho
    obtain ⟨x, rfl, h1⟩ := hx.one
    obtain ⟨a, vs, rfl, hl, rv⟩ := h1.li
    exact call_tuple_of pins s σ H _ us Q I r ⟨a, vs, rfl, .inl ⟨rd_sqL (c := cn X P) hl, fun l hl => q.tup hl rv⟩⟩
  · cases ho
    obtain ⟨x, rfl, h1⟩ := hx.one
    obtain ⟨a, vs, rfl, hl, rv⟩ := h1.tup
    exact call_tuple_of pins s σ H _ us Q I r ⟨a, vs, rfl, .inr ⟨hl, q.val (.inl rfl) (.tup hl rv)⟩⟩
  · cases ho
theorem rp_ints {c : Cn} {H : Hp} {F : Fz} : ∀ is : List Int, RpA c H F (is.map V.int) (is.map .int)
  | [] => .nil
  | i :: is => .cons (.int i) (rp_ints is)
def oList : List D → Option Val
  | [.lst ds] => some ⟨.lst ds, 1⟩
  | [.tup ds] => some ⟨.lst ds, 1⟩
  | [.src is] => some ⟨.lst (is.map .int), 1⟩
  | _ => none
theorem c_list : CallR X (.type "list") (rDn (cn X P) oList) := by
  intro pins s σ H xs us Q I r ⟨F, ds, w, tr, hx, ho, q⟩
  unfold oList at ho
  split at ho
  · cases ho
    obtain ⟨x, rfl, h1⟩ := hx.one
    obtain ⟨a, vs, rfl, hl, rv⟩ := h1.li
    exact call_list_of pins s σ H _ us Q I r ⟨a, vs, rfl, .inl (rd_sqL (c := cn X P) hl), fun l hl => q.lst hl rv⟩
  · cases ho
    obtain ⟨x, rfl, h1⟩ := hx.one
    obtain ⟨a, vs, rfl, hl, rv⟩ := h1.tup
    exact call_list_of pins s σ H _ us Q I r ⟨a, vs, rfl, .inr hl, fun l hl => q.lst hl rv⟩
  · cases ho
    obtain ⟨x, rfl, h1⟩ := hx.one
    cases h1 with
    | of h1 => cases h1 with
      | src h => exact call_list_of pins s σ H _ us Q I r ⟨_, _, rfl, .inl (src_sq h), fun l hl => q.lst hl (rp_ints _)⟩
  · cases ho
def oAny : List D → Option Val
  | [.lst ds] => match allB ds with
    | some bs => vB (bs.any id)
    | none => none
  | _ => none
def oAll : List D → Option Val
  | [.lst ds] => match allB ds with
    | some bs => vB (bs.all id)
    | none => none
  | _ => none
theorem c_any (hc : X.calm = true) : CallR X (.builtin "any") (rDn (cn X P) oAny) := by
  intro pins s σ H xs us Q I r ⟨F, ds, w, tr, hx, ho, q⟩
  unfold oAny at ho
  split at ho
  · split at ho
    · rename_i bs hb
      cases ho
      obtain ⟨x, rfl, h1⟩ := hx.one
      obtain ⟨a, vs, rfl, hl, rv⟩ := h1.li
      rw [allB_eq hb] at rv
      cases rv.bls
      exact cr_any hc pins s σ H _ us Q I r ⟨a, bs, rfl, rd_sqL (c := cn X P) hl, q.val (.inl rfl) (.bl _)⟩
    · cases ho
  · cases ho
theorem c_all (hc : X.calm = true) : CallR X (.builtin "all") (rDn (cn X P) oAll) := by
  intro pins s σ H xs us Q I r ⟨F, ds, w, tr, hx, ho, q⟩
  unfold oAll at ho
  split at ho
  · split at ho
    · rename_i bs hb
      cases ho
      obtain ⟨x, rfl, h1⟩ := hx.one
      obtain ⟨a, vs, rfl, hl, rv⟩ := h1.li
      rw [allB_eq hb] at rv
      cases rv.bls
      exact cr_all hc pins s σ H _ us Q I r ⟨a, bs, rfl, rd_sqL (c := cn X P) hl, q.val (.inl rfl) (.bl _)⟩
    · cases ho
  · cases ho
def sumI : List Int → Int
  | [] => 0
  | i :: is => i + sumI is
theorem sumI_eq : ∀ is : List Int, is.sum = sumI is
  | [] => rfl
  | i :: is => by rw [List.sum_cons, sumI, sumI_eq is]
def oSum : List D → Option Val
  | [.lst ds] => match allI ds with
    | some is => vI (sumI is)
    | none => none
  | [.tup ds] => match allI ds with
    | some is => vI (sumI is)
    | none => none
  | _ => none
end
end PL

/-! PL15: sum, max, min, x[i], slices, a, b = x, y, x += e. -/
namespace PL
open PySem PySem.Spec PySem.Calls L2

section
variable {X : Cx} {P : Par}
theorem RpA.ints2 {c : Cn} {H : Hp} {F : Fz} {vs : List V} {ds : List D} {is : List Int} (r : RpA c H F vs ds) (e : allI ds = some is) : vs = is.map V.int := by
  rw [allI_eq e] at r
  exact r.ints
theorem tup_ints {pins : List (Addr × Obj)} {σ : St} {H : Hp} {s : Shared} {a : Addr} {is : List Int} (I : Inv X pins σ H s) (h : SqT X.K H a (is.map V.int)) : ∃ xs : Array (Int × Tok), s.heap.IsTuple a (intItems xs) ∧ (xs.toList.map (·.1)) = is := by
  obtain ⟨us, r, ht, _⟩ := I.tuple h
  have hi := r.ints
  obtain ⟨xs, e⟩ := hi.allInts.items
  refine ⟨xs, by rw [← e]; exact ht, ?_⟩
  have k := hi.numsOf
  rw [← k, show us = us.toArray.toList by simp, e]
  exact (PySem.nums_intItems xs).symm
theorem c_sum (hc : X.calm = true) : CallR X (.builtin "sum") (rDn (cn X P) oSum) := by
  intro pins s σ H xs us Q I r ⟨F, ds, w, tr, hx, ho, q⟩
  unfold oSum at ho
  split at ho
  · split at ho
    · rename_i is hi
      cases ho
      obtain ⟨x, rfl, h1⟩ := hx.one
      obtain ⟨a, vs, rfl, hl, rv⟩ := h1.li
      cases rv.ints2 hi
      refine cr_sum hc pins s σ H _ us Q I r ⟨a, is, rfl, rd_sqL (c := cn X P) hl, ?_⟩
      rw [sumI_eq]
      exact q.val (.inl rfl) (.int _)
    · cases ho
  · split at ho
    · rename_i is hi
      cases ho
      obtain ⟨x, rfl, h1⟩ := hx.one
      obtain ⟨a, vs, rfl, hl, rv⟩ := h1.tup
      cases rv.ints2 hi
      obtain ⟨xs, ht, e⟩ := tup_ints I hl
      rw [Vals.ref1 r]
      refine PySem.W.ktm_sumG (I.ok.hd hc) ht fun h' tk t' hk => ⟨.int _, H, I.kept hk, ⟨_, rfl⟩, ?_⟩
      have e2 : preSum (numAt xs) xs.size = sumI is := by
        rw [preSum_eq, List.take_of_length_le (by simp), ← sumI_eq, e]
      rw [e2]
      exact q.val (.inl rfl) (.int _)
    · cases ho
  · cases ho
def maxI : Int → List Int → Int
  | a, [] => a
  | a, b :: bs => maxI (if b > a then b else a) bs
def minI : Int → List Int → Int
  | a, [] => a
  | a, b :: bs => minI (if b < a then b else a) bs
theorem maxI_spec : ∀ (a : Int) (bs : List Int), maxI a bs ∈ a :: bs ∧ ∀ y ∈ a :: bs, y ≤ maxI a bs
  | a, [] => ⟨List.mem_cons_self, fun y h => by simp at h; subst h; exact Int.le_refl _⟩
  | a, b :: bs => by
    obtain ⟨h1, h2⟩ := maxI_spec (if b > a then b else a) bs
    refine ⟨?_, fun y hy => ?_⟩
    · show maxI (if b > a then b else a) bs ∈ _
      rcases List.mem_cons.mp h1 with h | h
      · rw [h]
        split
        · exact List.mem_cons_of_mem _ List.mem_cons_self
        · exact List.mem_cons_self
      · exact List.mem_cons_of_mem _ (List.mem_cons_of_mem _ h)
    · show y ≤ maxI (if b > a then b else a) bs
      have k := h2 _ List.mem_cons_self
      rcases List.mem_cons.mp hy with h | h
      · subst h; split at k <;> split <;> omega
      · rcases List.mem_cons.mp h with h | h
        · subst h; split at k <;> split <;> omega
        · exact h2 y (List.mem_cons_of_mem _ h)
theorem minI_spec : ∀ (a : Int) (bs : List Int), minI a bs ∈ a :: bs ∧ ∀ y ∈ a :: bs, minI a bs ≤ y
  | a, [] => ⟨List.mem_cons_self, fun y h => by simp at h; subst h; exact Int.le_refl _⟩
  | a, b :: bs => by
    obtain ⟨h1, h2⟩ := minI_spec (if b < a then b else a) bs
    refine ⟨?_, fun y hy => ?_⟩
    · show minI (if b < a then b else a) bs ∈ _
      rcases List.mem_cons.mp h1 with h | h
      · rw [h]
        split
        · exact List.mem_cons_of_mem _ List.mem_cons_self
        · exact List.mem_cons_self
      · exact List.mem_cons_of_mem _ (List.mem_cons_of_mem _ h)
    · show minI (if b < a then b else a) bs ≤ y
      have k := h2 _ List.mem_cons_self
      rcases List.mem_cons.mp hy with h | h
      · subst h; split at k <;> split <;> omega
      · rcases List.mem_cons.mp h with h | h
        · subst h; split at k <;> split <;> omega
        · exact h2 y (List.mem_cons_of_mem _ h)
def oMax : List D → Option Val
  | [.lst ds] => match allI ds with
    | some (i :: is) => vI (maxI i is)
    | _ => none
  | [.int i, .int j] => vI (if j > i then j else i)
  | _ => none
def oMin : List D → Option Val
  | [.lst ds] => match allI ds with
    | some (i :: is) => vI (minI i is)
    | _ => none
  | [.int i, .int j] => vI (if j < i then j else i)
  | _ => none
theorem c_max (hc : X.calm = true) : CallR X (.builtin "max") (rDn (cn X P) oMax) := by
  intro pins s σ H xs us Q I r ⟨F, ds, w, tr, hx, ho, q⟩
  unfold oMax at ho
  split at ho
  · split at ho
    · rename_i i is hi
      cases ho
      obtain ⟨x, rfl, h1⟩ := hx.one
      obtain ⟨a, vs, rfl, hl, rv⟩ := h1.li
      cases rv.ints2 hi
      refine cr_max hc pins s σ H _ us Q I r ⟨a, i :: is, rfl, rd_sqL (c := cn X P) hl, by simp, fun m hm hle => ?_⟩
      obtain ⟨k1, k2⟩ := maxI_spec i is
      have e : m = maxI i is := Int.le_antisymm (k2 m hm) (hle _ k1)
      rw [e]
      exact q.val (.inl rfl) (.int _)
    · cases ho
  · cases ho
    obtain ⟨x, y, rfl, h1, h2⟩ := hx.two
    cases h1.int
    cases h2.int
    exact call_max2 hc pins s σ H _ us Q I r ⟨_, _, rfl, q.val (.inl rfl) (.int _)⟩
  · cases ho
theorem c_min (hc : X.calm = true) : CallR X (.builtin "min") (rDn (cn X P) oMin) := by
  intro pins s σ H xs us Q I r ⟨F, ds, w, tr, hx, ho, q⟩
  unfold oMin at ho
  split at ho
  · split at ho
    · rename_i i is hi
      cases ho
      obtain ⟨x, rfl, h1⟩ := hx.one
      obtain ⟨a, vs, rfl, hl, rv⟩ := h1.li
      cases rv.ints2 hi
      refine cr_min hc pins s σ H _ us Q I r ⟨a, i :: is, rfl, rd_sqL (c := cn X P) hl, by simp, fun m hm hle => ?_⟩
      obtain ⟨k1, k2⟩ := minI_spec i is
      have e : m = minI i is := Int.le_antisymm (hle _ k1) (k2 m hm)
      rw [e]
      exact q.val (.inl rfl) (.int _)
    · cases ho
  · cases ho
    obtain ⟨x, y, rfl, h1, h2⟩ := hx.two
    cases h1.int
    cases h2.int
    exact call_min2 hc pins s σ H _ us Q I r ⟨_, _, rfl, q.val (.inl rfl) (.int _)⟩
  · cases ho

/-! ### x[i] -/
def dIx : D → D → Option Val
  | .lst ds, .int i => match atI ds i with
    | some d => some ⟨d, 0⟩
    | none => none
  | .tup ds, .int i => match atI ds i with
    | some d => some ⟨d, 0⟩
    | none => none
  | .str z, .int i => if z.length ≤ big then (match atI z.cps.toList i with
    | some c => some ⟨.str ⟨#[c]⟩, 0⟩
    | none => none) else none
  | _, _ => none
theorem RpA.at {c : Cn} {H : Hp} {F : Fz} {vs : List V} {ds : List D} {i : Int} {d : D} (r : RpA c H F vs ds) (e : atI ds i = some d) : ∃ v, atI vs i = some v ∧ Rp c H F v d := by
  unfold atI at e ⊢
  rw [r.length]
  cases h : ixN ds.length i with
  | none => rw [h] at e; cases e
  | some j =>
    rw [h] at e
    exact r.get' e
theorem x_ix : IxR X (rD2 (cn X P) dIx) := by
  intro value slice pins s σ H x y v u Q I rx ry ⟨F, d, e, w, tr, h1, h2, ho, q⟩ hs
  unfold dIx at ho
  split at ho
  · split at ho
    · rename_i d hd
      cases ho
      obtain ⟨a, vs, rfl, hl, rv⟩ := h1.li
      cases h2.int
      obtain ⟨z, hz, rz⟩ := rv.at hd
      exact ix_seq value slice pins s σ H _ _ v u Q I rx ry (.inl ⟨a, vs, _, z, rfl, rfl, rd_sqL (c := cn X P) hl, hz, q.val (.inl rfl) rz⟩) hs
    · cases ho
  · split at ho
    · rename_i d hd
      cases ho
      obtain ⟨a, vs, rfl, hl, rv⟩ := h1.tup
      cases h2.int
      obtain ⟨z, hz, rz⟩ := rv.at hd
      exact ix_seq value slice pins s σ H _ _ v u Q I rx ry (.inr (.inl ⟨a, vs, _, z, rfl, rfl, hl, hz, q.val (.inl rfl) rz⟩)) hs
    · cases ho
  · split at ho
    · rename_i hb
      split at ho
      · rename_i c hd
        cases ho
        cases h1.str
        cases h2.int
        exact ix_seq value slice pins s σ H _ _ v u Q I rx ry (.inr (.inr ⟨_, _, c, rfl, rfl, big_le hb, hd, q.val (.inl rfl) (.str _)⟩)) hs
      · cases ho
    · cases ho
  · cases ho

/-! ### slices -/
def cutD (xs : List D) (lo hi : Option Int) : List D := (xs.drop (HT.sIx xs.length 0 lo)).take (HT.sIx xs.length xs.length hi - HT.sIx xs.length 0 lo)
def dSl (d : D) (lo hi : Option Int) : Option Val := match d with
  | .lst ds => some ⟨.lst (cutD ds lo hi), 1⟩
  | .tup ds => some ⟨.tup (cutD ds lo hi), 0⟩
  | _ => none
theorem RpA.drop {c : Cn} {H : Hp} {F : Fz} : ∀ {n : Nat} {vs : List V} {ds : List D}, RpA c H F vs ds → RpA c H F (vs.drop n) (ds.drop n)
  | 0, _, _, r => r
  | n + 1, _, _, .nil => .nil
  | n + 1, _, _, .cons _ r => RpA.drop (n := n) r
theorem RpA.take {c : Cn} {H : Hp} {F : Fz} : ∀ {n : Nat} {vs : List V} {ds : List D}, RpA c H F vs ds → RpA c H F (vs.take n) (ds.take n)
  | 0, _, _, _ => .nil
  | n + 1, _, _, .nil => .nil
  | n + 1, _, _, .cons h r => .cons h (RpA.take (n := n) r)
theorem RpA.cut {c : Cn} {H : Hp} {F : Fz} {vs : List V} {ds : List D} (r : RpA c H F vs ds) (lo hi : Option Int) : RpA c H F (cutV vs lo hi) (cutD ds lo hi) := by
  unfold cutV cutD
  rw [r.length]
  exact r.drop.take
def rSlD (c : Cn) : V → Option Int → Option Int → Hp → VK → Prop := fun x lo hi H Q => ∃ F d v, Trk F H ∧ Rt c H F x d ∧ dSl d lo hi = some v ∧ Ends2 c F H v Q
theorem sl_D : SlR X (rSlD (cn X P)) := by
  intro pins s σ H x v vl vu lo hi sl Q I rx hs pl pu ⟨F, d, w, tr, h1, ho, q⟩
  unfold dSl at ho
  split at ho
  · cases ho
    obtain ⟨a, vs, rfl, hl, rv⟩ := h1.li
    exact sl_list pins s σ H _ v vl vu lo hi sl Q I rx hs pl pu ⟨a, vs, rfl, rd_sqL (c := cn X P) hl, fun p hp => q.lst hp (rv.cut lo hi)⟩
  · cases ho
    obtain ⟨a, vs, rfl, hl, rv⟩ := h1.tup
    have rc := rv.cut lo hi
    refine sl_tupA pins s σ H _ v vl vu lo hi sl Q I rx hs pl pu ⟨a, vs, rfl, hl, fun hw => ?_, fun _ p hp => q.tup hp rc⟩
    refine q.val (.inl rfl) (.tup hl ?_)
    have e : cutV vs lo hi = vs := by
      unfold cutV
      rw [hw.1, hw.2]
      simp
    rw [e] at rc
    exact rc
  · cases ho
def oSl (l h : Bool) : List D → Option Val
  | [d] => if l = false ∧ h = false then dSl d none none else none
  | [d, .int i] => if l = true ∧ h = false then dSl d (some i) none else if l = false ∧ h = true then dSl d none (some i) else none
  | [d, .int i, .int j] => if l = true ∧ h = true then dSl d (some i) (some j) else none
  | _ => none
variable {e el eh : Expr} {a b c : Opd} {pos p2 : Pos}
theorem s_slLo (ha : SO X P e a) (hl : SO X P el b) : SE X P (.Subscript e (.Slice (some el) none none p2) pos) (en (oSl true false) [a, b]) := by
  refine ⟨pe_imp (pe_slice (sl_D (P := P)) ha.pe (po_some hl.pe) po_none) fun σ H Q h => ?_⟩
  refine tO_mono (coreN (as := [a, b]) h) fun x H1 h1 => ?_
  refine tO_mono (show tO X P b σ H1 fun y H2 => rDn (cn X P) (oSl true false) [x, y] H2 Q from h1) fun y H2 ⟨F, ds, w, tr, hx, ho, q⟩ => ?_
  cases hx with
  | cons g1 g2 => cases g2 with
    | cons g2 g3 =>
      cases g3
      unfold oSl at ho
      split at ho
      · rename_i heq; cases heq
      · rename_i i heq
        cases heq
        cases g2.int
        exact ⟨i, rfl, F, _, w, tr, g1, by simpa using ho, q⟩
      · rename_i heq; cases heq
      · cases ho
theorem s_slHi (ha : SO X P e a) (hl : SO X P eh b) : SE X P (.Subscript e (.Slice none (some eh) none p2) pos) (en (oSl false true) [a, b]) := by
  refine ⟨pe_imp (pe_slice (sl_D (P := P)) ha.pe po_none (po_some hl.pe)) fun σ H Q h => ?_⟩
  refine tO_mono (coreN (as := [a, b]) h) fun x H1 h1 => ?_
  refine tO_mono (show tO X P b σ H1 fun y H2 => rDn (cn X P) (oSl false true) [x, y] H2 Q from h1) fun y H2 ⟨F, ds, w, tr, hx, ho, q⟩ => ?_
  cases hx with
  | cons g1 g2 => cases g2 with
    | cons g2 g3 =>
      cases g3
      unfold oSl at ho
      split at ho
      · rename_i heq; cases heq
      · rename_i i heq
        cases heq
        cases g2.int
        exact ⟨i, rfl, F, _, w, tr, g1, by simpa using ho, q⟩
      · rename_i heq; cases heq
      · cases ho
def eSl2 (a b c : Opd) : Ex := fun g => a.go (fun ra g1 => b.go (fun rb g2 => match rb g2 with
  | some (.int _) => c.go (fun rc g3 => finN (oSl true true) (allS [ra, rb, rc] g3) g3) g2
  | _ => .bad) g1) g
theorem s_slLH (ha : SO X P e a) (hl : SO X P el b) (hh : SO X P eh c) : SE X P (.Subscript e (.Slice (some el) (some eh) none p2) pos) (eSl2 a b c) := by
  refine ⟨pe_imp (pe_slice (sl_D (P := P)) ha.pe (po_some hl.pe) (po_some hh.pe)) fun σ H Q h => ?_⟩
  refine tO_mono (mid_opd (mid_of h)) fun x H1 ⟨ts1, ra, hx, _, m1⟩ => ?_
  refine tO_mono (mid_opd m1) fun y H2 ⟨ts2, rb, hy, up, F0, H0, own0, F1, g1, own1, m2, q⟩ => ?_
  simp only at q
  split at q
  · rename_i i hi
    cases (hy.rt m2 hi).int
    refine ⟨i, rfl, ?_⟩
    have mm : Mid X P σ ts2 (fun F0 H0 own0 g => PostK X P F0 H0 own0 σ (End X P F0 H0 own0 σ Q) (c.go (fun rc g3 => finN (oSl true true) (allS [ra, rb, rc] g3) g3) g)) H2 := ⟨F0, H0, own0, F1, g1, own1, m2, q⟩
    refine tO_mono (mid_opd mm) fun z H3 ⟨ts3, rc, hz, up3, m3⟩ => ?_
    obtain ⟨ds, w, F0, H0, own0, F1, g1, own1, m, hx, ho, q⟩ := finN_end (.cons (up3 _ _ (up _ _ hx)) (.cons (up3 _ _ hy) (.cons hz .nil))) m3
    cases hx with
    | cons g1 g2 => cases g2 with
      | cons g2 g3 => cases g3 with
        | cons g3 g4 =>
          cases g4
          unfold oSl at ho
          split at ho
          · rename_i heq; cases heq
          · rename_i heq; cases heq
          · rename_i i j heq
            cases heq
            cases g2.int
            cases g3.int
            exact ⟨j, rfl, F1, _, w, m.g.frz, g1, by simpa using ho, mid_end2 m q⟩
          · cases ho
  · exact False.elim q

/-! ### x += e -/
def dAddI : D → D → Option Val
  | .int i, .int j => vI (i + j)
  | _, _ => none
theorem i_add : PIp X .Add (rD2 (cn X P) dAddI) := by
  intro pins s σ H x y v u Q I rx ry ⟨F, d, e, w, tr, h1, h2, ho, q⟩
  unfold dAddI at ho
  split at ho
  · cases ho
    cases h1.int
    cases h2.int
    exact iop_add pins s σ H _ _ v u Q I rx ry ⟨_, _, rfl, rfl, q.val (.inl rfl) (.int _)⟩
  · cases ho
theorem i_sub : PIp X .Sub (rD2 (cn X P) dSub) := by
  intro pins s σ H x y v u Q I rx ry ⟨F, d, e, w, tr, h1, h2, ho, q⟩
  unfold dSub at ho
  split at ho
  · cases ho
    cases h1.int
    cases h2.int
    exact iop_sub pins s σ H _ _ v u Q I rx ry ⟨_, _, rfl, rfl, q.val (.inl rfl) (.int _)⟩
  · cases ho
theorem s_aug {i : Nat} {x : Str} {op : Operator} {o : D → D → Option Val} {pos' : Pos} (hN : X.N.Nodup) (hi : X.N[i]? = some x) (hx : Loc X.env.scope x) (ho : PIp X op (rD2 (cn X P) o)) (hb : SO X P e b) (hp : i ∉ P.pz.map (·.1))
    (hf : X.fn x = true ∨ X.env.scope.names.lookup x = some .local := by first | exact .inl rfl | exact .inr rfl | assumption) : SS X P (.AugAssign (.Name x pos') op e pos) (sSet i false (e2 o (.pk i) b)) :=
  ⟨ps_imp (ps_aug hN hi hx hb.pe ho hf) fun D σ H q => core2 (core_set (List.getElem?_eq_some_iff.mp hi).1 hp q)⟩

/-! ### a, b = x, y -/
def goV : List Ex → (List Val → Env → SOut) → Env → SOut
  | [], k, g => k [] g
  | f :: fs, k, g => bindE (f g) fun v g1 => goV fs (fun vs g2 => k (v :: vs) g2) g1
def setAll : List (Nat × Bool) → List Val → Env → Env
  | (i, k) :: is, v :: vs, g => setAll is vs (g.set i (some (keepV k v)))
  | _, _, g => g
def sPar (is : List (Nat × Bool)) (fs : List Ex) : Sx := goV fs fun vs g => .nx (setAll is vs g)
theorem mid_keepAt {σ : St} {H : Hp} {t : Tmp} {ts : List Tmp} {F0 : Fz} {H0 : Hp} {own0 : Ow} {F1 : Fz} {g1 : Env} {own1 : Ow} {k : Bool} (m : MidAt X P σ (t :: ts) H F0 H0 own0 F1 g1 own1) : ∃ L F2, MidAt X P σ (⟨t.x, keepV k t.v, L⟩ :: ts) H F0 H0 own0 F2 g1 own1 := by
  cases k with
  | true => exact ⟨t.L, F1, m⟩
  | false => exact ⟨[], _, mid_freezeAt m⟩
variable {D : Ends} {σ : St} {H : Hp}
/-- the third temporary to the front -/
theorem mid_rot {t u v : Tmp} {ts : List Tmp} {F0 : Fz} {H0 : Hp} {own0 : Ow} {F1 : Fz} {g1 : Env} {own1 : Ow} (m : MidAt X P σ (t :: u :: v :: ts) H F0 H0 own0 F1 g1 own1) : MidAt X P σ (v :: t :: u :: ts) H F0 H0 own0 F1 g1 own1 := by
  have sw : ∀ z, z ∈ v :: t :: u :: ts → z ∈ t :: u :: v :: ts := fun z hz => by
    simp only [List.mem_cons] at hz ⊢
    rcases hz with h | h | h | h
    · exact .inr (.inr (.inl h))
    · exact .inl h
    · exact .inr (.inl h)
    · exact .inr (.inr (.inr h))
  refine ⟨m.g, m.st, fun z hz => m.own z (sw z hz), ?_, fun z hz => m.sep z (sw z hz)⟩
  have nd := m.nd
  refine nd.perm ?_
  simp only [List.flatMap_cons]
  have p1 : (t.L ++ (u.L ++ (v.L ++ ts.flatMap (·.L)))).Perm (v.L ++ (t.L ++ (u.L ++ ts.flatMap (·.L)))) := by
    simp only [← List.append_assoc]
    refine List.Perm.append_right _ ?_
    rw [List.append_assoc, List.append_assoc]
    have := List.perm_append_comm (l₁ := t.L ++ u.L) (l₂ := v.L)
    rw [List.append_assoc] at this
    exact this
  exact p1
theorem core_par2 {i j : Nat} {ki kj : Bool} {fa fb : Ex} (hij : i ≠ j) (hi : i < X.N.length) (hj : j < X.N.length) (pi : i ∉ P.pz.map (·.1)) (pj : j ∉ P.pz.map (·.1)) (q : tS X P (sPar [(i, ki), (j, kj)] [fa, fb]) D σ H) : tPar i j (tEs X P [fa, fb]) D σ H := by
  have q : tS X P (fun g => bindE (fa g) fun v g1 => bindE (fb g1) fun w g2 => .nx ((g2.set i (some (keepV ki v))).set j (some (keepV kj w)))) D σ H := q
  refine tE_mono (mid_ofS q) fun x H1 ⟨v, L, m1⟩ => ?_
  refine tE_mono (mid_evalS m1) fun y H2 ⟨w, M, F0, H0, own0, F1, g1, own1, m2, q⟩ => ?_
  refine ⟨x, y, rfl, ?_⟩
  obtain ⟨M', F2, m2⟩ := mid_keepAt (k := kj) m2
  obtain ⟨L', F3, m3⟩ := mid_keepAt (k := ki) (mid_swap m2)
  obtain ⟨own4, m4⟩ := mid_store m3 hi pi
  obtain ⟨own5, m5⟩ := mid_store m4 hj pj
  exact q F3 H2 own5 _ m5.st m5.g
theorem core_par3 {i j l : Nat} {ki kj kl : Bool} {fa fb fc : Ex} (hi : i < X.N.length) (hj : j < X.N.length) (hl : l < X.N.length) (pi : i ∉ P.pz.map (·.1)) (pj : j ∉ P.pz.map (·.1)) (pl : l ∉ P.pz.map (·.1))
    (q : tS X P (sPar [(i, ki), (j, kj), (l, kl)] [fa, fb, fc]) D σ H) : tPar3 i j l (tEs X P [fa, fb, fc]) D σ H := by
  have q : tS X P (fun g => bindE (fa g) fun v g1 => bindE (fb g1) fun w g2 => bindE (fc g2) fun u g3 => .nx (((g3.set i (some (keepV ki v))).set j (some (keepV kj w))).set l (some (keepV kl u)))) D σ H := q
  refine tE_mono (mid_ofS q) fun x H1 ⟨v, L, m1⟩ => ?_
  refine tE_mono (mid_evalS m1) fun y H2 ⟨w, M, m2⟩ => ?_
  refine tE_mono (mid_evalS m2) fun z H3 ⟨u, K, F0, H0, own0, F1, g1, own1, m3, q⟩ => ?_
  refine ⟨x, y, z, rfl, ?_⟩
  -- z :: y :: x
  obtain ⟨K', F2, m4⟩ := mid_keepAt (k := kl) m3
  obtain ⟨M', F3, m5⟩ := mid_keepAt (k := kj) (mid_swap m4)
  -- y :: z :: x, x to the front
  have m6 := mid_rot m5
  obtain ⟨L', F4, m6⟩ := mid_keepAt (k := ki) m6
  obtain ⟨own4, m7⟩ := mid_store m6 hi pi
  obtain ⟨own5, m8⟩ := mid_store m7 hj pj
  obtain ⟨own6, m9⟩ := mid_store m8 hl pl
  exact q F4 H3 own6 _ m9.st m9.g
variable {i j l : Nat} {ki kj kl : Bool} {fa fb fc : Ex} {x y z : Str} {px py pz pt pt2 : Pos} {kt k2 : Nat} {ea eb ec : Expr}
theorem s_par2 (hc : X.calm = true) (hN : X.N.Nodup) (hi : X.N[i]? = some x) (hj : X.N[j]? = some y) (hij : i ≠ j) (hx : X.env.scope.names.lookup x = some .local) (hy : X.env.scope.names.lookup y = some .local) (ha : SL X P [ea, eb] [fa, fb])
    (pi : i ∉ P.pz.map (·.1)) (pj : j ∉ P.pz.map (·.1)) (hw : swappedStores [.Tuple [.Name x px, .Name y py] kt pt] (.Tuple [ea, eb] k2 pt2) X.env = pure (some [x, y]))
    (hs : swapsWithSole [.Tuple [.Name x px, .Name y py] kt pt] (.Tuple [ea, eb] k2 pt2) pos.line X.env = pure false := by rfl) :
    SS X P (.Assign [.Tuple [.Name x px, .Name y py] kt pt] (.Tuple [ea, eb] k2 pt2) pos) (sPar [(i, ki), (j, kj)] [fa, fb]) :=
  ⟨ps_imp (ps_par hc hN hi hj hij hx hy ha.pa hw hs) fun D σ H q => core_par2 hij (List.getElem?_eq_some_iff.mp hi).1 (List.getElem?_eq_some_iff.mp hj).1 pi pj q⟩
theorem s_par3 (hc : X.calm = true) (hN : X.N.Nodup) (hi : X.N[i]? = some x) (hj : X.N[j]? = some y) (hl : X.N[l]? = some z) (hij : i ≠ j) (hil : i ≠ l) (hjl : j ≠ l) (hx : X.env.scope.names.lookup x = some .local) (hy : X.env.scope.names.lookup y = some .local) (hz : X.env.scope.names.lookup z = some .local)
    (ha : SL X P [ea, eb, ec] [fa, fb, fc]) (pi : i ∉ P.pz.map (·.1)) (pj : j ∉ P.pz.map (·.1)) (pl : l ∉ P.pz.map (·.1)) (hw : swappedStores [.Tuple [.Name x px, .Name y py, .Name z pz] kt pt] (.Tuple [ea, eb, ec] k2 pt2) X.env = pure (some [x, y, z]))
    (hs : swapsWithSole [.Tuple [.Name x px, .Name y py, .Name z pz] kt pt] (.Tuple [ea, eb, ec] k2 pt2) pos.line X.env = pure false := by rfl) :
    SS X P (.Assign [.Tuple [.Name x px, .Name y py, .Name z pz] kt pt] (.Tuple [ea, eb, ec] k2 pt2) pos) (sPar [(i, ki), (j, kj), (l, kl)] [fa, fb, fc]) :=
  ⟨ps_imp (ps_par3 hc hN hi hj hl hij hil hjl hx hy hz ha.pa hw hs) fun D σ H q => core_par3 (List.getElem?_eq_some_iff.mp hi).1 (List.getElem?_eq_some_iff.mp hj).1 (List.getElem?_eq_some_iff.mp hl).1 pi pj pl q⟩
end
end PL

/-! PL16: list comprehensions with two for-parts. -/
namespace PL
open PySem PySem.Spec PySem.Calls L2

def lcO (M : Nat) (t : Tg) (c : Option Ex) (s1 : Src) (t1 : Tg) (c1 : Option Ex) (e : Ex) (dp : Bool) (vs vs1 : List Nat) : List PL.D → Env → IOut
  | [], g => .ok [] g
  | d :: ds, g => match t.asg d g with
    | none => .bad
    | some g1 => match testO c g1 with
      | none => .bad
      | some (false, g2) => lcO M t c s1 t1 c1 e dp vs vs1 ds (killG vs g2)
      | some (true, g2) => match s1 g2 with
        | .ok ds1 g3 => if ds1.length ≤ M then (match lcL t1 c1 e dp vs1 ds1 (killG vs1 g3) with
          | .ok o1 g4 => match lcO M t c s1 t1 c1 e dp vs vs1 ds (killG vs g4) with
            | .ok o2 g5 => .ok (o1 ++ o2) g5
            | _ => .bad
          | _ => .bad) else .bad
        | _ => .bad
def eLc2 (s : Src) (t : Tg) (c : Option Ex) (s1 : Src) (t1 : Tg) (c1 : Option Ex) (e : Ex) (dp : Bool) (vs vs1 rs : List Nat) : Ex := fun g => match s g with
  | .ok ds g1 => match lcO (big / ds.length) t c s1 t1 c1 e dp vs vs1 ds (killG vs g1) with
    | .ok out g2 => .ok ⟨.lst out, lv dp + 1⟩ (restG g1 rs g2)
    | _ => .bad
  | .exc x g1 => .exc x g1
  | .bad => .bad
section
variable {X : Cx} {P : Par} {σ : St} {H : Hp} {Q : VK} {s s1 : Src} {t t1 : Tg} {c c1 : Option Ex} {e : Ex} {dp : Bool} {vs vs1 rs : List Nat}
/-- behind one inner item and the rest -/
def LcIn (X : Cx) (P : Par) (σ : St) (Q : VK) (dp : Bool) (gs : Env) (rs : List Nat) (F0 : Fz) (H0 : Hp) (own0 : Ow) (rest : Env → IOut) (acc : List PL.D) : IOut → Prop
  | .ok o1 g4 => LcGoal X P σ Q dp gs rs F0 H0 own0 (acc ++ o1) (rest g4)
  | _ => False
theorem core_lc2 (hsl : ∀ i ∈ t.sl, i ∈ vs) (hsl1 : ∀ i ∈ t1.sl, i ∈ vs1) (hv1 : ∀ i ∈ vs1, i ∈ vs) (hpv : ∀ p ∈ P.pz, p.1 ∉ vs) (q : tE X P (eLc2 s t c s1 t1 c1 e dp vs vs1 rs) σ H Q) :
    tLc2 (tI X P s) (tG X P.calm t) (tC? X P.calm c) (tI X P.calm s1) (tG X P.calm t1) (tC? X P.calm c1) (tE X P.calm e) vs vs1 σ H Q := by
  have hpv1 : ∀ p ∈ P.pz, p.1 ∉ vs1 := fun p hp h => hpv p hp (hv1 _ h)
  obtain ⟨F, g, own, I, q⟩ := q
  refine ⟨F, g, own, I, ?_⟩
  unfold eLc2 at q
  cases es : s g with
  | bad => rw [es] at q; exact q
  | exc x g1 => rw [es] at q; exact q
  | ok ds gs =>
    rw [es] at q
    intro F' H' own' J st I' it hz D hD
    simp only at q
    generalize hM : big / ds.length = M at q
    have hMb : ds.length * M ≤ sizeLine := by rw [← big_line, ← hM]; exact Nat.mul_div_le big ds.length
    have q0 : LcGoal X P σ Q dp gs rs F H own [] (lcO M t c s1 t1 c1 e dp vs vs1 ds (killG vs gs)) := by
      cases el : lcO M t c s1 t1 c1 e dp vs vs1 ds (killG vs gs) with
      | ok out g2 => rw [el] at q; exact q
      | exc x g2 => rw [el] at q; exact q
      | bad => rw [el] at q; exact q
    have gr0 : Grow H' (upd H' D (.lst [])) := .upd hD
    have noD : ∀ i, D ∉ own' i := fun i hi => by
      obtain ⟨_, sh, e⟩ := I'.sep i D hi
      rw [hD] at e; cases e
    have m00 : MidAt X P σ [⟨.ref D, ⟨.lst [], lv dp + 1⟩, [D]⟩] (upd H' D (.lst [])) F H own F' gs own' := by
      refine ⟨I'.grow gr0, st.trans gr0.step, fun u hu => ?_, by simp, fun u hu a ha => ?_⟩
      · rw [List.mem_singleton.mp hu]
        exact .lst upd_same .nil
      · rw [List.mem_singleton.mp hu] at ha
        have e : a = D := by simpa using ha
        subst e
        refine ⟨fun f => ?_, noD, ⟨.lst [], upd_same⟩, young st (.inr hD)⟩
        obtain ⟨o, e⟩ := I'.frz _ f
        rw [hD] at e; cases e
    obtain ⟨ownB, m0⟩ := blk_mid (vs := vs) (σ := σ) hpv (fun _ _ => rfl) m00 I'.slen
    have hw : ∀ {σ2 : St}, (∀ j, j ∉ t.sl → σ2[j]? = (wipe σ vs)[j]?) → ∀ j, j ∉ vs → σ2[j]? = σ[j]? := fun {σ2} h j hj => by rw [h j fun z => hj (hsl j z), wipe_get hj]
    let NX : Nat → Hp → Prop := fun i H2 => ∃ F1 g1 own1 acc L, MidAt X P (wipe σ vs) [⟨.ref D, ⟨.lst acc, lv dp + 1⟩, L⟩] H2 F H own F1 g1 own1 ∧ acc.length ≤ i * M ∧ Keep (c := cn X P) F' F1 H' H2 ∧ (∀ j ∈ vs, ∀ v : Val, g1[j]? ≠ some (some v)) ∧
        LcGoal X P σ Q dp gs rs F H own acc (lcO M t c s1 t1 c1 e dp vs vs1 (ds.drop i) g1)
    refine ⟨fun i m σ1 => m = ds.length - i ∧ i ≤ ds.length ∧ NX i σ1, ⟨_, rfl, Nat.zero_le _, F', _, ownB, [], _, m0, Nat.zero_le _, gr0.keep, fun j hj v h => (kill_none h).2 hj, q0⟩, ?_⟩
    rintro i m H1 ⟨rfl, hi, F1, g1, own1, acc, L, m1, ha, kp, hn, q1⟩
    obtain ⟨j1, j2, j3⟩ := it F1 H1 kp m1.g.frz i
    by_cases hlt : i < ds.length
    · refine .inr ⟨j1 hlt, NX (i + 1), fun H2 h => ⟨_, by omega, rfl, hlt, h⟩, fun x H2 y => ?_⟩
      obtain ⟨d, ed, gr, rp⟩ := j3 x H2 hlt y
      have hd : ds.drop i = d :: ds.drop (i + 1) := by
        rw [List.drop_eq_getElem_cons hlt]
        rw [List.getElem?_eq_getElem hlt] at ed
        cases ed; rfl
      have hM1 : (i + 1) * M ≤ sizeLine := Nat.le_trans (Nat.mul_le_mul_right M hlt) hMb
      rw [hd] at q1
      unfold lcO at q1
      cases ea : t.asg d g1 with
      | none => rw [ea] at q1; exact False.elim q1
      | some g2 =>
        rw [ea] at q1
        simp only at q1
        have m2 : MidAt X P (wipe σ vs) [⟨.ref D, ⟨.lst acc, lv dp + 1⟩, L⟩] H2 F H own F1 g1 own1 := mid_step m1 gr.step (m1.g.grow gr)
        refine ⟨F1, g1, own1, d, g2, m2.g, rp, ea, fun σ2 own3 ag s3 I3 => ?_⟩
        have m3 : MidAt X P σ2 [⟨.ref D, ⟨.lst acc, lv dp + 1⟩, L⟩] H2 F H own F1 g2 own3 := mid_step m2 s3 I3
        have kp2 : Keep (c := cn X P) F' F1 H' H2 := kp.trans gr.keep
        have hσ := hw ag
        have hs2 : σ2.length = σ.length := by
          have h1 : σ2.length = X.N.length := I3.slen
          have h2 : σ.length = X.N.length := I'.slen
          rw [h1, h2]
        refine ⟨?_, ?_⟩
        · rw [wipe_eq hσ hs2]
        · have fin : ∀ (b : Bool) (g3 : Env) (H3 : Hp) (F3 : Fz) (own4 : Ow), MidAt X P σ2 [⟨.ref D, ⟨.lst acc, lv dp + 1⟩, L⟩] H3 F H own F3 g3 own4 → Keep (c := cn X P) F' F3 H' H3 →
              LcGoal X P σ Q dp gs rs F H own acc (match b with
                | false => lcO M t c s1 t1 c1 e dp vs vs1 (ds.drop (i + 1)) (killG vs g3)
                | true => match s1 g3 with
                  | .ok ds1 g4 => if ds1.length ≤ M then (match lcL t1 c1 e dp vs1 ds1 (killG vs1 g4) with
                    | .ok o1 g5 => match lcO M t c s1 t1 c1 e dp vs vs1 (ds.drop (i + 1)) (killG vs g5) with
                      | .ok o2 g6 => .ok (o1 ++ o2) g6
                      | _ => .bad
                    | _ => .bad) else .bad
                  | _ => .bad) →
              if b = true then tI X P.calm s1 σ2 H3 fun J1 H4 => ∃ W1 : Nat → Nat → Hp → Prop, (∃ m, W1 0 m H4) ∧ ∀ j k H, W1 j k H →
                (J1.stop j H ∧ NX (i + 1) H) ∨ (J1.go j H ∧ ∃ Nx1 : Hp → Prop, (∀ H', Nx1 H' → ∃ k', k' < k ∧ W1 (j + 1) k' H') ∧ ∀ x H', J1.yld j H x H' → tG X P.calm t1 x (wipe σ2 vs1) H' fun σ3 H5 => wipe σ3 vs1 = wipe σ2 vs1 ∧ tC? X P.calm c1 σ3 H5 fun b H6 =>
                  if b = true then tE X P.calm e σ3 H6 fun y H7 => ∃ acc, H7 D = some (.lst acc) ∧ acc.length < sizeLine ∧ Nx1 (upd H7 D (.lst (acc ++ [y]))) else Nx1 H6)
              else NX (i + 1) H3 := by
            intro b g3 H3 F3 own4 m4 kp3 q2
            cases b with
            | false =>
              obtain ⟨own5, m5⟩ := blk_mid (vs := vs) hpv hσ m4 I'.slen
              exact itff ⟨F3, _, own5, acc, L, m5, Nat.le_trans ha (Nat.mul_le_mul_right M (Nat.le_succ i)), kp3, fun j hj v h => (kill_none h).2 hj, q2⟩
            | true =>
              refine ittt ⟨F3, g3, own4, (mid_calm m4).g, ?_⟩
              simp only at q2
              cases ev : s1 g3 with
              | bad => rw [ev] at q2; exact False.elim q2
              | exc x g4 => rw [ev] at q2; exact False.elim q2
              | ok ds1 g4 =>
                rw [ev] at q2
                simp only at q2
                split at q2
                · rename_i hlen1
                  intro F5 H5 own5 J1 st5 I5 it1 hz1
                  have m5 : MidAt X P σ2 [⟨.ref D, ⟨.lst acc, lv dp + 1⟩, L⟩] H5 F H own F5 g4 own5 := mid_step m4 st5 I5
                  have kp5 : Keep (c := cn X P) F' F5 H' H5 := kp3.trans (st5.keeps m4.g)
                  obtain ⟨own6, m6⟩ := blk_mid (vs := vs1) (σ := σ2) hpv1 (fun _ _ => rfl) m5 I5.slen
                  let rest : Env → IOut := fun g5 => lcO M t c s1 t1 c1 e dp vs vs1 (ds.drop (i + 1)) (killG vs g5)
                  have q3 : LcIn X P σ Q dp gs rs F H own rest acc (lcL t1 c1 e dp vs1 ds1 (killG vs1 g4)) := by
                    cases el : lcL t1 c1 e dp vs1 ds1 (killG vs1 g4) with
                    | bad => rw [el] at q2; exact False.elim q2
                    | exc x g5 => rw [el] at q2; exact False.elim q2
                    | ok o1 g5 =>
                      rw [el] at q2
                      simp only at q2
                      show LcGoal X P σ Q dp gs rs F H own (acc ++ o1) (lcO M t c s1 t1 c1 e dp vs vs1 (ds.drop (i + 1)) (killG vs g5))
                      cases eo : lcO M t c s1 t1 c1 e dp vs vs1 (ds.drop (i + 1)) (killG vs g5) with
                      | bad => rw [eo] at q2; exact False.elim q2
                      | exc x g6 => rw [eo] at q2; exact False.elim q2
                      | ok o2 g6 =>
                        rw [eo] at q2
                        have q2 : End X P F H own σ Q ⟨.lst (acc ++ (o1 ++ o2)), lv dp + 1⟩ (restG gs rs g6) := q2
                        rw [← List.append_assoc] at q2
                        exact q2
                  let N1 : Nat → Hp → Prop := fun j H2 => ∃ F1 g1 own1 acc L, MidAt X P (wipe σ2 vs1) [⟨.ref D, ⟨.lst acc, lv dp + 1⟩, L⟩] H2 F H own F1 g1 own1 ∧ acc.length ≤ i * M + j ∧ Keep (c := cn X P) F' F1 H' H2 ∧ Keep (c := cn X P) F5 F1 H5 H2 ∧
                    LcIn X P σ Q dp gs rs F H own rest acc (lcL t1 c1 e dp vs1 (ds1.drop j) g1)
                  refine ⟨fun j k H2 => k = ds1.length - j ∧ j ≤ ds1.length ∧ N1 j H2, ⟨_, rfl, Nat.zero_le _, F5, _, own6, acc, L, m6, ha, kp5, .refl, q3⟩, ?_⟩
                  rintro j k H6 ⟨rfl, hj, F6, g6, own7, acc6, L6, m7, ha6, kp6, kq6, q6⟩
                  obtain ⟨i1, i2, i3⟩ := it1 F6 H6 kq6 m7.g.frz j
                  by_cases hjl : j < ds1.length
                  · refine .inr ⟨i1 hjl, N1 (j + 1), fun H7 h => ⟨_, by omega, rfl, hjl, h⟩, fun x1 H7 y1 => ?_⟩
                    obtain ⟨d1, ed1, gr1, rp1⟩ := i3 x1 H7 hjl y1
                    have hd1 : ds1.drop j = d1 :: ds1.drop (j + 1) := by
                      rw [List.drop_eq_getElem_cons hjl]
                      rw [List.getElem?_eq_getElem hjl] at ed1
                      cases ed1; rfl
                    rw [hd1] at q6
                    unfold lcL at q6
                    cases ea1 : t1.asg d1 g6 with
                    | none => rw [ea1] at q6; exact False.elim q6
                    | some g7 =>
                      rw [ea1] at q6
                      simp only at q6
                      have m8 : MidAt X P (wipe σ2 vs1) [⟨.ref D, ⟨.lst acc6, lv dp + 1⟩, L6⟩] H7 F H own F6 g6 own7 := mid_step m7 gr1.step (m7.g.grow gr1)
                      refine ⟨F6, g6, own7, d1, g7, m8.g, rp1, ea1, fun σ3 own8 ag1 s8 I8 => ?_⟩
                      have m9 : MidAt X P σ3 [⟨.ref D, ⟨.lst acc6, lv dp + 1⟩, L6⟩] H7 F H own F6 g7 own8 := mid_step m8 s8 I8
                      have kp7 : Keep (c := cn X P) F' F6 H' H7 := kp6.trans gr1.keep
                      have kq7 : Keep (c := cn X P) F5 F6 H5 H7 := kq6.trans gr1.keep
                      have hσ3 : ∀ j, j ∉ vs1 → σ3[j]? = σ2[j]? := fun j hj => by rw [ag1 j fun z => hj (hsl1 j z), wipe_get hj]
                      have hs3 : σ3.length = σ2.length := by
                        have h1 : σ3.length = X.N.length := I8.slen
                        have h2 : σ2.length = X.N.length := I3.slen
                        rw [h1, h2]
                      refine ⟨wipe_eq hσ3 hs3, ?_⟩
                      have fin1 : ∀ (b : Bool) (g8 : Env) (H8 : Hp) (F8 : Fz) (own9 : Ow), MidAt X P σ3 [⟨.ref D, ⟨.lst acc6, lv dp + 1⟩, L6⟩] H8 F H own F8 g8 own9 → Keep (c := cn X P) F' F8 H' H8 → Keep (c := cn X P) F5 F8 H5 H8 →
                          LcIn X P σ Q dp gs rs F H own rest acc6 (match b with
                            | false => lcL t1 c1 e dp vs1 (ds1.drop (j + 1)) (killG vs1 g8)
                            | true => match e g8 with
                              | .ok v g4 => if dp = true ∧ v.o ≠ 1 then .bad else match lcL t1 c1 e dp vs1 (ds1.drop (j + 1)) (killG vs1 g4) with
                                | .ok rest g5 => .ok (v.d :: rest) g5
                                | _ => .bad
                              | _ => .bad) →
                          if b = true then tE X P.calm e σ3 H8 fun y H9 => ∃ av, H9 D = some (.lst av) ∧ av.length < sizeLine ∧ N1 (j + 1) (upd H9 D (.lst (av ++ [y]))) else N1 (j + 1) H8 := by
                        intro b g8 H8 F8 own9 mA kpA kqA qA
                        cases b with
                        | false =>
                          obtain ⟨ownC, mC⟩ := blk_mid (vs := vs1) hpv1 hσ3 mA I3.slen
                          exact itff ⟨F8, _, ownC, acc6, L6, mC, by omega, kpA, kqA, qA⟩
                        | true =>
                          refine ittt ?_
                          simp only at qA
                          cases ee : e g8 with
                          | bad => rw [ee] at qA; exact False.elim qA
                          | exc x g4 => rw [ee] at qA; exact False.elim qA
                          | ok v g9 =>
                            rw [ee] at qA
                            simp only at qA
                            split at qA
                            · exact False.elim qA
                            · rename_i hdp
                              refine mid_eval1 (P := P.calm) (X := X) (mid_calm mA) ee fun y Ly H9 F9 ownC mC kC => ?_
                              have mC := mid_uncalm mC
                              have qC : LcIn X P σ Q dp gs rs F H own rest (acc6 ++ [v.d]) (lcL t1 c1 e dp vs1 (ds1.drop (j + 1)) (killG vs1 g9)) := by
                                cases el : lcL t1 c1 e dp vs1 (ds1.drop (j + 1)) (killG vs1 g9) with
                                | ok o1 gA =>
                                  rw [el] at qA
                                  have qA : LcGoal X P σ Q dp gs rs F H own (acc6 ++ v.d :: o1) (rest gA) := qA
                                  have e1 : acc6 ++ v.d :: o1 = (acc6 ++ [v.d]) ++ o1 := by simp
                                  rw [e1] at qA
                                  exact qA
                                | exc x g5 => rw [el] at qA; exact False.elim qA
                                | bad => rw [el] at qA; exact False.elim qA
                              have mk : ∃ FD LD, MidAt X P σ3 (⟨y, ⟨v.d, lv dp⟩, LD⟩ :: [⟨.ref D, ⟨.lst acc6, lv dp + 1⟩, L6⟩]) H9 F H own FD g9 ownC ∧ Keep (c := cn X P) F' FD H' H9 ∧ Keep (c := cn X P) F5 FD H5 H9 := by
                                cases dp with
                                | true =>
                                  have hv : v.o = 1 := by
                                    by_cases h : v.o = 1
                                    · exact h
                                    · exact absurd ⟨rfl, h⟩ hdp
                                  obtain ⟨vd, vn⟩ := v
                                  simp only at hv
                                  subst hv
                                  exact ⟨F9, Ly, mC, kpA.trans kC, kqA.trans kC⟩
                                | false => exact ⟨_, [], mid_freezeAt mC, (kpA.trans kC).trans (.more fun _ h => .inl h), (kqA.trans kC).trans (.more fun _ h => .inl h)⟩
                              obtain ⟨FD, LD, mD, kD, kE⟩ := mk
                              obtain ⟨av, LE, eD, hlen, mE⟩ := mid_push mD
                              have hjM : i * M + j < sizeLine := by
                                have : (i + 1) * M = i * M + M := Nat.succ_mul i M
                                omega
                              refine ⟨av, eD, by omega, ?_⟩
                              obtain ⟨ownF, mF⟩ := blk_mid (vs := vs1) hpv1 hσ3 mE I3.slen
                              have hDF : ¬ FD D := (mD.sep _ (List.mem_cons_of_mem _ List.mem_cons_self) D (own_lst_len (mD.own _ (List.mem_cons_of_mem _ List.mem_cons_self)))).1
                              have kw := wr_keep (c := cn X P) (sh := .lst av) (sh' := .lst (av ++ [y])) eD hDF
                              exact ⟨FD, _, ownF, acc6 ++ [v.d], LE, mF, by simp; omega, kD.trans kw, kE.trans kw, qC⟩
                      cases c1 with
                      | none => exact fin1 true g7 H7 F6 own8 m9 kp7 kq7 q6
                      | some f =>
                        unfold testO at q6
                        simp only at q6
                        cases ef : f g7 with
                        | bad => rw [ef] at q6; exact False.elim q6
                        | exc x g3 => rw [ef] at q6; exact False.elim q6
                        | ok v g8 =>
                          rw [ef] at q6
                          simp only at q6
                          cases hv : v.d with
                          | bl b =>
                            rw [hv] at q6
                            refine mid_bool1 (P := P.calm) (X := X) (b := b) (mid_calm m9) ef hv fun H8 F8 own9 mA kA => ⟨b, rfl, ?_⟩
                            have mA := mid_uncalm mA
                            refine fin1 b g8 H8 F8 own9 mA (kp7.trans kA) (kq7.trans kA) ?_
                            cases b <;> exact q6
                          | _ => rw [hv] at q6; exact False.elim q6
                  · have e1 : j = ds1.length := by omega
                    subst e1
                    rw [List.drop_length] at q6
                    have q6 : LcGoal X P σ Q dp gs rs F H own (acc6 ++ []) (lcO M t c s1 t1 c1 e dp vs vs1 (ds.drop (i + 1)) (killG vs g6)) := q6
                    rw [List.append_nil] at q6
                    refine .inl ⟨i2 (Nat.le_refl _), ?_⟩
                    have hσ2 : ∀ j, j ∉ vs → (wipe σ2 vs1)[j]? = σ[j]? := fun j hj => by rw [wipe_get fun z => hj (hv1 _ z), hσ j hj]
                    obtain ⟨ownC, mC⟩ := blk_mid (vs := vs) hpv hσ2 m7 I'.slen
                    refine ⟨F6, _, ownC, acc6, L6, mC, ?_, kp6, fun j hj v h => (kill_none h).2 hj, q6⟩
                    have : (i + 1) * M = i * M + M := Nat.succ_mul i M
                    omega
                · exact False.elim q2
          cases c with
          | none => exact fin true g2 H2 F1 own3 m3 kp2 q1
          | some f =>
            unfold testO at q1
            simp only at q1
            cases ef : f g2 with
            | bad => rw [ef] at q1; exact False.elim q1
            | exc x g3 => rw [ef] at q1; exact False.elim q1
            | ok v g3 =>
              rw [ef] at q1
              simp only at q1
              cases hv : v.d with
              | bl b =>
                rw [hv] at q1
                refine mid_bool1 (P := P.calm) (X := X) (b := b) (mid_calm m3) ef hv fun H3 F3 own4 m4 k4 => ⟨b, rfl, ?_⟩
                have m4 := mid_uncalm m4
                refine fin b g3 H3 F3 own4 m4 (kp2.trans k4) ?_
                cases b <;> exact q1
              | _ => rw [hv] at q1; exact False.elim q1
    · have e1 : i = ds.length := by omega
      subst e1
      rw [List.drop_length] at q1
      refine .inl ⟨j2 (Nat.le_refl _), ?_⟩
      have q2 : End X P F H own σ Q ⟨.lst (acc ++ []), lv dp + 1⟩ (restG gs rs g1) := q1
      rw [List.append_nil] at q2
      have I2 : GX X P F1 H1 σ g1 own1 := m1.g.resig (fun j v h => by
        rw [wipe_get fun z => hn j z v h]) I'.slen fun p hp => by rw [wipe_get (hpv p hp)]
      obtain ⟨own2, I3, hle⟩ := I2.rest (g0 := gs) (rs := rs) fun j v h hz => by
        obtain ⟨x, hx, o⟩ := I'.slot j v h
        rw [hz] at o
        exact ⟨x, hx, o.zero.1.keep kp⟩
      have m2 : MidAt X P σ [⟨.ref D, ⟨.lst acc, lv dp + 1⟩, L⟩] H1 F H own F1 (restG gs rs g1) own2 := mid_step m1 (.less hle) I3
      have h0 := List.mem_singleton.mpr (rfl : (⟨.ref D, ⟨.lst acc, lv dp + 1⟩, L⟩ : Tmp) = _)
      exact q2 F1 H1 own2 _ L m2.st m2.g (m2.own _ h0) ⟨by have := m2.nd; simpa using this, m2.sep _ h0⟩
variable {elt tg iter tg1 iter1 : Expr} {ifs ifs1 : List Expr} {scope : Scope} {pos : Pos} {nm : List (Str × Nat)}
theorem s_lc2 (hc : X.calm = true) (hN : X.N.Nodup) (hi : SI X P tg iter s) (ok : BlkOk X.N X.env.scope scope nm) (hv : nm.map (·.2) = vs) (hsl : ∀ i ∈ t.sl, i ∈ vs) (hsl1 : ∀ i ∈ t1.sl, i ∈ vs1) (hv1 : ∀ i ∈ vs1, i ∈ vs) (hpv : ∀ p ∈ P.pz, p.1 ∉ vs)
    (hg : ∀ (s : Shared) (H : Hp) (C : Addr) (cl : List (Str × Addr)) (fp : List Addr), SG (X.blk s H scope (compEnvC scope cl C X.env) fp) P.calm tg t)
    (ht : ∀ (s : Shared) (H : Hp) (C : Addr) (cl : List (Str × Addr)) (fp : List Addr), SC (X.blk s H scope (compEnvC scope cl C X.env) fp) P.calm ifs c)
    (hi1 : ∀ (s : Shared) (H : Hp) (C : Addr) (cl : List (Str × Addr)) (fp : List Addr), SI (X.blk s H scope (compEnvC scope cl C X.env) fp) P.calm tg1 iter1 s1)
    (hg1 : ∀ (s : Shared) (H : Hp) (C : Addr) (cl : List (Str × Addr)) (fp : List Addr), SG (X.blk s H scope (compEnvC scope cl C X.env) fp) P.calm tg1 t1)
    (ht1 : ∀ (s : Shared) (H : Hp) (C : Addr) (cl : List (Str × Addr)) (fp : List Addr), SC (X.blk s H scope (compEnvC scope cl C X.env) fp) P.calm ifs1 c1)
    (he : ∀ (s : Shared) (H : Hp) (C : Addr) (cl : List (Str × Addr)) (fp : List Addr), SE (X.blk s H scope (compEnvC scope cl C X.env) fp) P.calm elt e)
    (hs : ∀ x, foldedSetIterable iter X.env x = pure x := by intro _; rfl) (hs1 : ∀ env x, foldedSetIterable iter1 env x = pure x := by intro _ _; rfl) :
    SE X P (.ListComp elt [⟨tg, iter, ifs, 0⟩, ⟨tg1, iter1, ifs1, 0⟩] scope pos) (eLc2 s t c s1 t1 c1 e dp vs vs1 rs) := by
  subst hv
  exact ⟨pe_imp (pe_lc2 (vs1 := vs1) hc hN hi.pi ok hv1 (g := tG X P.calm t) (tt := tC? X P.calm c) (wi1 := tI X P.calm s1) (g1 := tG X P.calm t1) (tt1 := tC? X P.calm c1) (te := tE X P.calm e) (fun s H C cl fp => (hg s H C cl fp).pg) (fun s H C cl fp => (ht s H C cl fp).pts)
    (fun s H C cl fp => (hi1 s H C cl fp).pi) (fun s H C cl fp => (hg1 s H C cl fp).pg) (fun s H C cl fp => (ht1 s H C cl fp).pts) (fun s H C cl fp => (he s H C cl fp).pe) hs hs1) fun σ H Q q => core_lc2 hsl hsl1 hv1 hpv q⟩
theorem s_setLc2 {i : Nat} {y : Str} {py spos : Pos} {k : Bool} (hc : X.calm = true) (hN : X.N.Nodup) (hy : X.N[i]? = some y) (hyl : X.env.scope.names.lookup y = some .local)
    (hsw : swapsWith (.ListComp elt [⟨tg, iter, ifs, 0⟩, ⟨tg1, iter1, ifs1, 0⟩] scope pos) (some (.Name y py)) spos.line X.env = pure true) (hpz : i ∉ P.pz.map (·.1))
    (hi : SI X P tg iter s) (ok : BlkOk X.N X.env.scope scope nm) (hv : nm.map (·.2) = vs) (hsl : ∀ i ∈ t.sl, i ∈ vs) (hsl1 : ∀ i ∈ t1.sl, i ∈ vs1) (hv1 : ∀ i ∈ vs1, i ∈ vs) (hpv : ∀ p ∈ P.pz, p.1 ∉ vs)
    (hg : ∀ (s : Shared) (H : Hp) (C : Addr) (cl : List (Str × Addr)) (fp : List Addr), SG (X.blk s H scope (compEnvC scope cl C X.env) fp) P.calm tg t)
    (ht : ∀ (s : Shared) (H : Hp) (C : Addr) (cl : List (Str × Addr)) (fp : List Addr), SC (X.blk s H scope (compEnvC scope cl C X.env) fp) P.calm ifs c)
    (hi1 : ∀ (s : Shared) (H : Hp) (C : Addr) (cl : List (Str × Addr)) (fp : List Addr), SI (X.blk s H scope (compEnvC scope cl C X.env) fp) P.calm tg1 iter1 s1)
    (hg1 : ∀ (s : Shared) (H : Hp) (C : Addr) (cl : List (Str × Addr)) (fp : List Addr), SG (X.blk s H scope (compEnvC scope cl C X.env) fp) P.calm tg1 t1)
    (ht1 : ∀ (s : Shared) (H : Hp) (C : Addr) (cl : List (Str × Addr)) (fp : List Addr), SC (X.blk s H scope (compEnvC scope cl C X.env) fp) P.calm ifs1 c1)
    (he : ∀ (s : Shared) (H : Hp) (C : Addr) (cl : List (Str × Addr)) (fp : List Addr), SE (X.blk s H scope (compEnvC scope cl C X.env) fp) P.calm elt e)
    (hs : ∀ x, foldedSetIterable iter X.env x = pure x := by intro _; rfl) (hs1 : ∀ env x, foldedSetIterable iter1 env x = pure x := by intro _ _; rfl) :
    SS X P (.Assign [.Name y py] (.ListComp elt [⟨tg, iter, ifs, 0⟩, ⟨tg1, iter1, ifs1, 0⟩] scope pos) spos) (sSet i k (eLc2 s t c s1 t1 c1 e dp vs vs1 rs)) := by
  subst hv
  exact ⟨ps_imp (ps_setLc2 (vs1 := vs1) hc hN hy hyl hsw hi.pi ok hv1 (g := tG X P.calm t) (tt := tC? X P.calm c) (wi1 := tI X P.calm s1) (g1 := tG X P.calm t1) (tt1 := tC? X P.calm c1) (te := tE X P.calm e) (fun s H C cl fp => (hg s H C cl fp).pg) (fun s H C cl fp => (ht s H C cl fp).pts)
    (fun s H C cl fp => (hi1 s H C cl fp).pi) (fun s H C cl fp => (hg1 s H C cl fp).pg) (fun s H C cl fp => (ht1 s H C cl fp).pts) (fun s H C cl fp => (he s H C cl fp).pe) hs hs1) fun D σ H q => core_lc2 hsl hsl1 hv1 hpv (core_set (List.getElem?_eq_some_iff.mp hy).1 hpz q)⟩
end
end PL

/-! PL17: isinstance(e, C) in a suite; the head's facts by a check; the end. -/
namespace PL
open PySem PySem.Spec PySem.Calls L2

section
variable {X : Cx} {P : Par}
def excCB (K : PySem.W.Frag) (D : Addr) : Bool :=
  decide (PySem.W.findIn K (.ref D) "__getattribute__" = some (some (.builtin "BaseException.__getattribute__"))) && (decide (PySem.W.findIn K (.ref D) "__getattr__" = some none) && (decide (PySem.W.subIn K (.ref D) (.type "BaseException") = some true) && (PySem.W.hasDictIn K D &&
    (decide (PySem.W.findIn K (.ref D) "__class__" = some (some (.builtin "object.__class__"))) && (decide (PySem.W.specialIn K (.builtin "object.__class__") "__get__" = some (some (.builtin "getset_descriptor.__get__"))) &&
      (decide (PySem.W.takesIn K (.builtin "object.__class__") = some true) && decide (PySem.W.mroIn K D (.type "object") = some true)))))))
theorem excC_of {K : PySem.W.Frag} {D : Addr} (h : excCB K D = true) : ExcC K D := by
  unfold excCB at h
  simp only [Bool.and_eq_true, decide_eq_true_eq] at h
  obtain ⟨h1, h2, h3, h4, h5, h6, h7, h8⟩ := h
  exact ⟨h1, h2, h3, h4, h5, h6, h7, h8⟩
/-- isinstance(e, C), e held by the suite -/
theorem s_isE {x n c : Str} {i : Nat} {p p1 p2 pos : Pos} {a D C : Addr} {oe : Obj} {pn : List (Addr × Obj)} {b : Bool} (E : ExcC X.K D) (hz : Zc (.ref D) none oe) (hf : ∃ vs, oe.data = .fields vs) (hk : PySem.W.kitOne X.K (.ref D) (.ref C) = some b)
    (hx : x = "isinstance") (hg : Gl X x) (hm : X.mg x = none) (hN : X.N[i]? = some n) (hv : Vis X.env.scope n) (hg2 : Gl X c) (hm2 : X.mg c = some (.ref C))
    (hd : (n == ("__debug__" : Str)) = false := by decide) (hcd : (n == ("__classdict__" : Str)) = false := by decide) (hd2 : (c == ("__debug__" : Str)) = false := by decide) :
    SE (X.suite a ((a, oe) :: pn)) (P.held i a) (.Call (.Name x p) [.Name n p1, .Name c p2] [] pos) (eC (.bl b)) := by
  subst hx
  have pe1 : PE (X.suite a ((a, oe) :: pn)) (.Name n p1) (tVar i) := pe_var hN hv hd hcd
  have pe2 : PE (X.suite a ((a, oe) :: pn)) (.Name c p2) (tC (.ref C)) := pe_glob (v := .ref C) hg2 hm2 rfl hd2
  refine ⟨pe_imp (pe_callB (X := X.suite a ((a, oe) :: pn)) (r := rIsE X.K D a) (call_isE E hz hf) hg hm (by rfl) (pa_cons pe1 (pa_cons pe2 pa_nil (by rfl)) (by rfl)) (by decide) (by decide) (by rfl) (by rfl)) fun σ H Q h => ?_⟩
  obtain ⟨F, g, own, I, q⟩ := h
  refine ⟨.ref a, I.pin (i, .ref a) List.mem_cons_self, ?_⟩
  exact ⟨.ref C, .ref C, b, rfl, fun u r => r, hk, q F H own _ [] .refl I (.of (.bl b)) ⟨List.nodup_nil, fun _ h => nomatch h⟩⟩
end

/-! ### the head: facts by one check -/
def obsP (ck : PySem.W.Frag → Bool) (fn : List He.DefD) (K : PySem.W.Frag) : He.AlD := (ck K && fn.all fun d => d.ok K, fn.map fun d => He.fnW K d.at_)
def SaysP (ck : PySem.W.Frag → Bool) (fn : List He.DefD) (K : PySem.W.Frag) : Prop := obsP ck fn K = He.valD fn
def obsPG (n : Nat) (ck : PySem.W.Frag → Bool) (fn : List He.DefD) (g : Addr → Option Obj) : He.AlD := obsP ck fn (He.frG g (He.asD g n))
def hookP (n : Nat) (ck : PySem.W.Frag → Bool) (fn : List He.DefD) : PySem.W.Hook where
  α := He.AlD
  obs := fun s => obsPG n ck fn s.heap.get?
  val := fun _ => He.valD fn
  says := fun _ h => ∃ K : PySem.W.Frag, K.In h ∧ SaysP ck fn K
  of := fun _ _ e => ⟨_, He.frG_in, e⟩
  keeps := fun _ _ _ ⟨K, hK, c⟩ k => ⟨K, PySem.W.Frag.In.keeps hK k, c⟩
theorem obsPG_eq {n : Nat} {ck : PySem.W.Frag → Bool} {fn : List He.DefD} {g : Addr → Option Obj} {s : Shared} (h : ∀ a, g a = s.heap.get? a) : obsPG n ck fn g = (hookP n ck fn).obs s := by
  have e : g = s.heap.get? := funext h
  rw [e] <;> rfl
section
variable {ck : PySem.W.Frag → Bool} {fn : List He.DefD} {K : PySem.W.Frag}
theorem SaysP.chk (c : SaysP ck fn K) : ck K = true := (He.ba (show (ck K && fn.all fun d => d.ok K) = true from congrArg (fun z : He.AlD => z.1) c)).1
theorem SaysP.def_ (c : SaysP ck fn K) (i : Nat) {d : He.DefD} (h : fn[i]? = some d) : ∃ fd, FunD K d.name d.qual d.params d.body d.scope (d.dvs K) (d.kws K) (He.fAd K d.at_) fd := by
  have c2 := (He.ba (show (ck K && fn.all fun d => d.ok K) = true from congrArg (fun z : He.AlD => z.1) c)).2
  have e : fn.map (fun d => He.fnW K d.at_) = fn.map He.DefD.val := congrArg (fun z : He.AlD => z.2) c
  have e2 : (fn.map fun d => He.fnW K d.at_)[i]? = (fn.map He.DefD.val)[i]? := by rw [e]
  rw [List.getElem?_map, List.getElem?_map, h] at e2
  exact He.DefD.funD (Option.some.inj e2) (List.all_eq_true.mp c2 d (List.mem_of_getElem? h))
end
/-- what an own exception class says -/
def excB (K : PySem.W.Frag) (x : Str) : Bool := (He.Fa.exc x).ok K && excCB K (He.ga K x)
/-- all facts hold -/
def factsB (fa : List He.Fa) (ex : List Str) (K : PySem.W.Frag) : Bool := (fa.all fun f => f.ok K) && ex.all fun x => excB K x
theorem factsB_fact {fa : List He.Fa} {ex : List Str} {K : PySem.W.Frag} (c : factsB fa ex K = true) (i : Nat) {f : He.Fa} (h : fa[i]? = some f) : f.ok K = true :=
  List.all_eq_true.mp (He.ba c).1 f (List.mem_of_getElem? h)
theorem factsB_exc {fa : List He.Fa} {ex : List Str} {K : PySem.W.Frag} (c : factsB fa ex K = true) (i : Nat) {f : Str} (h : ex[i]? = some f) : (He.Fa.exc f).ok K = true ∧ ExcC K (He.ga K f) :=
  let z := He.ba (List.all_eq_true.mp (He.ba c).2 f (List.mem_of_getElem? h))
  ⟨z.1, excC_of z.2⟩
/-- the law's promise, from what it gives at every script -/
theorem sp_law {K : PySem.W.Frag} {w : World} {fns : Fns} {cls : Nat → Option Addr} {f : List D → FOut} (hf : ∀ ns : List Int, ns.length ≤ 63 → ∃ o, f [.src ns] = .ok ⟨.bl true, o⟩) (H : Hp) (a : Addr) (ns : List Int) (hl : ns.length ≤ 63) (hO : Only H) (hS : SqL K H a (ns.map V.int)) :
    spF ⟨K, w, fns⟩ cls 1 f [.ref a] H (fun v _ => v = .bl true) (fun _ _ _ => False) := by
  obtain ⟨o, e⟩ := hf ns hl
  have fin : ∀ F : Fz, Trk F H → Rp ⟨K, w, fns⟩ H F (.ref a) (.src ns) → spF ⟨K, w, fns⟩ cls 1 f [.ref a] H (fun v _ => v = .bl true) (fun _ _ _ => False) := fun F tr r => by
    refine ⟨F, [.src ns], rfl, tr, .cons r .nil, ?_⟩
    rw [e]
    intro F' H' x L _ ow _ _
    cases ow with
    | frz _ r => cases r; rfl
  rcases hS with h | h
  · refine fin (fun b => b = a) (fun b hb => ?_) (.src (.inl ⟨rfl, h⟩))
    rw [hb]
    rcases h with h | ⟨o, h⟩
    · exact ⟨_, h⟩
    · exact ⟨_, h⟩
  · exact fin (fun _ => False) (fun b hb => hb.elim) (.src (.inr (.inr h)))
end PL

/-! PL18: small helps for printed derivations. -/
namespace PL
open PySem PySem.Spec PySem.Calls L2
section
variable {X : Cx} {P : Par} {x : Str}
theorem gl (h : X.env.kindOf x = some .globalImplicit) : Gl X x := h
def visB : Option NameKind → Bool
  | some .local => true
  | some .cell => true
  | some .free => true
  | _ => false
theorem vis {sc : Scope} (h : visB (sc.names.lookup x) = true) : Vis sc x := by
  unfold visB at h
  split at h
  · rename_i e; exact .inl e
  · rename_i e; exact .inr (.inl e)
  · rename_i e; exact .inr (.inr e)
  · cases h
def locB : Option NameKind → Bool
  | some .local => true
  | some .cell => true
  | _ => false
theorem loc {sc : Scope} (h : locB (sc.names.lookup x) = true) : Loc sc x := by
  unfold locB at h
  split at h
  · rename_i e; exact .inl e
  · rename_i e; exact .inr e
  · cases h
def isLoc : Option NameKind → Bool
  | some .local => true
  | _ => false
theorem hfn {X : Cx} {x : Str} (h : (X.fn x || isLoc (X.env.scope.names.lookup x)) = true) : X.fn x = true ∨ X.env.scope.names.lookup x = some .local := by
  cases e : X.fn x with
  | true => exact .inl rfl
  | false =>
    rw [e] at h
    right
    have h : isLoc (X.env.scope.names.lookup x) = true := h
    unfold isLoc at h
    split at h
    · rename_i e; exact e
    · cases h
theorem np0 {i : Nat} : i ∉ ([] : List (Nat × V)).map (·.1) := by simp
theorem np1 {i j : Nat} {v : V} (h : (i == j) = false) : i ∉ ([(j, v)] : List (Nat × V)).map (·.1) := by
  simp only [List.map_cons, List.map_nil, List.mem_singleton]
  exact fun e => by subst e; simp at h
theorem pv0 {vs : List Nat} : ∀ p ∈ ([] : List (Nat × V)), p.1 ∉ vs := fun p h => nomatch h
theorem pv1 {vs : List Nat} {j : Nat} {v : V} (h : vs.contains j = false) : ∀ p ∈ ([(j, v)] : List (Nat × V)), p.1 ∉ vs := fun p hp hm => by
  rw [List.mem_singleton.mp hp] at hm
  have : vs.contains j = true := by simpa using hm
  rw [h] at this
  cases this
theorem inB {l vs : List Nat} (h : (l.all fun i => vs.contains i) = true) : ∀ i ∈ l, i ∈ vs := fun i hi => by
  have := List.all_eq_true.mp h i hi
  simpa using this
theorem neB {i j : Nat} (h : (i == j) = false) : i ≠ j := fun e => by subst e; simp at h
theorem room65 {k : Nat} {A : Around} (r : Room k A) : A.units + 65 < cLine := by have := r.un; omega
theorem fn_bad {Pr : Program} {w : World} {K : PySem.W.Frag} {mg : Str → Option Value} {base : Heap} {k : Nat} {f : Addr} {fd : FuncData} {ps : List Str} {c : Cn} {cls : Nat → Option Addr} : FnOk Pr w K mg base (L2.CX Pr w) k f fd ps (spF c cls ps.length fun _ => .bad) :=
  ⟨fun vs H Q E ⟨F, ds, hl, _, r, _⟩ => r.length.trans hl, fun A outer s H args us vs Q E _ _ _ _ ⟨_, _, _, _, _, h⟩ => h.elim⟩
def noW : Str := Str.empty
theorem calm0 : Takes X P.calm.W := takes0
end
end PL

/-! PL19: the end of a law whose defs let errors out. -/
namespace PL
open PySem PySem.Spec PySem.Calls L2
theorem noCX {P : Program} {w : World} {H : Hp} {s : Shared} {e : Value} {s' : Shared} (z : L2.CX P w [] H s (fun _ _ _ => False) e s') : False := by
  obtain ⟨_, _, _, _, _, _, _, _, _, _, _, _, z⟩ := z
  exact z
theorem walk_w {row : PySem.W.OpenLaw} {most lvl : Nat} {view : Program} {ls : List Str} {XP : (Str → Option Value) → Heap → Prop} {YP : World → Heap → Prop} {d : DefRec} {par : Str}
    (h1 : row.most = some most) (h2 : most ≤ sizeLine) (h3 : d.params.defaults = []) (h4 : Room lvl callerA)
    (go : ∀ (w : World) (mg : Str → Option Value) (at_ : Addr) (hp : Heap), YP w hp → hp.Ns mainGlobals mg → mg d.name = some (.ref at_) →
      ∃ (K : PySem.W.Frag) (fd : FuncData) (sp : Sp), K.In hp ∧ (∀ (s : Shared) (u : Value), BindsTo s fd ⟨[u], []⟩ [(par, u)]) ∧ (∀ (H : Hp) (a : Addr) (ns : List Int), ns.length ≤ most → Only H → SqL K H a (ns.map V.int) → sp [.ref a] H (fun v _ => v = .bl true) fun _ _ _ => False) ∧
        ∀ base : Heap, K.In base → base.Ns mainGlobals mg → FnOk row.prog w K mg base (L2.CX row.prog w) lvl at_ fd [par] sp) :
    PySem.W.WalkO view ls XP YP row.row.toRowW d [] (fun f vs => PySem.call f vs) := by
  refine Att.attach_call h1 h3 fun w _ s mg _ at_ _ _ _ _ a _ ns G Y _ _ _ hmg hobj hints hlen hg => ?_
  obtain ⟨K, fd, sp, KX, hb, hsp, hF⟩ := go w mg at_ _ Y G.T.g hmg
  exact law_call KX G.T.g G.T.b G.T.builtins G.T.nolimit hg hobj hints (Nat.le_trans hlen h2) h4 hF hb (fun H hO hS => hsp H a ns hlen hO hS) fun _ _ _ z => noCX z
end PL

/-! PL20: how the terms compute. -/
namespace PL
open PySem
/-- not a step by computing -/
theorem nr {α : Sort _} {a b : α} (h : a = b) : a = b := h

section
variable {g g1 : Env} {v : Val} {d e : D} {i n : Nat} {f : Ex} {k : Val → Env → Out} {x : Exc} {b : Bool}
@[simp] theorem bindO_ok : bindO (.ok v g) k = k v g := nr rfl
@[simp] theorem bindO_exc : bindO (.exc x g) k = .exc x g := nr rfl
@[simp] theorem bindO_bad : bindO .bad k = .bad := nr rfl
@[simp] theorem eC_ap : eC d g = .ok ⟨d, 0⟩ g := nr rfl
theorem eVar_ap (h : g[i]? = some (some ⟨d, 0⟩)) : eVar i g = .ok ⟨d, 0⟩ g := by
  unfold eVar
  rw [h]
  rfl
theorem eVar_ap1 (h : g[i]? = some (some ⟨d, n + 1⟩)) : eVar i g = .ok ⟨d, 0⟩ (g.set i (some ⟨d, 0⟩)) := by
  unfold eVar
  rw [h]
  rfl
@[simp] theorem go_ex {r : Rs → Env → Out} : (Opd.ex f).go r g = bindO (f g) fun v g1 => r (fun _ => some v.d) g1 := nr rfl
theorem go_pk {r : Rs → Env → Out} (h : g[i]? = some (some v)) : (Opd.pk i).go r g = r (slot1 i) g := by
  simp only [Opd.go, h]
theorem slot1_ap (h : g[i]? = some (some ⟨d, 0⟩)) : slot1 i g = some d := by
  unfold slot1
  rw [h]
  rfl
theorem slot1_ap1 (h : g[i]? = some (some ⟨d, 1⟩)) : slot1 i g = some d := by
  unfold slot1
  rw [h]
  rfl
def finV (o : Option Val) (g : Env) : Out := match o with
  | some v => .ok v g
  | none => .bad
@[simp] theorem finV_some : finV (some v) g = .ok v g := nr rfl
@[simp] theorem finV_none : finV none g = .bad := nr rfl
@[simp] theorem e2_ap {o : D → D → Option Val} {a c : Opd} : e2 o a c g = a.go (fun ra g1 => c.go (fun rb g2 => fin2 o (ra g2) (rb g2) g2) g1) g := nr rfl
@[simp] theorem fin2_ap {o : D → D → Option Val} : fin2 o (some d) (some e) g = finV (o d e) g := by
  first
    | (simp only [fin2, finV]; done)
    | (simp only [fin2, finV]; cases o d e <;> rfl)
@[simp] theorem e1_ap {o : D → Option Val} {a : Opd} : e1 o a g = a.go (fun ra g1 => fin1 o (ra g1) g1) g := nr rfl
@[simp] theorem fin1_ap {o : D → Option Val} : fin1 o (some d) g = finV (o d) g := by
  first
    | (simp only [fin1, finV]; done)
    | (simp only [fin1, finV]; cases o d <;> rfl)
def selB (d : D) (x y : Out) : Out := match d with
  | .bl b => if b = true then x else y
  | _ => .bad
@[simp] theorem selB_bl {x y : Out} : selB (.bl b) x y = if b = true then x else y := nr rfl
@[simp] theorem e3_ap {o o' : D → D → Option Val} {a c c' : Opd} : e3 o o' a c c' g = a.go (fun ra g1 => c.go (fun rb g2 => bindO (fin2 o (ra g2) (rb g2) g2) fun v g3 => selB v.d (c'.go (fun rc g4 => fin2 o' (rb g4) (rc g4) g4) g3) (.ok ⟨.bl false, 0⟩ g3)) g1) g := by
  unfold e3 selB
  congr
  funext ra g1
  congr
  funext rb g2
  congr
  funext v g3
  cases v.d with
  | bl b => cases b <;> rfl
  | _ => rfl
@[simp] theorem eAnd_ap {fa fb : Ex} : eAnd fa fb g = bindO (fa g) fun v g1 => selB v.d (fb g1) (.ok ⟨.bl false, 0⟩ g1) := by
  unfold eAnd selB
  congr
  funext v g1
  cases v.d with
  | bl b => cases b <;> rfl
  | _ => rfl
@[simp] theorem eOr_ap {fa fb : Ex} : eOr fa fb g = bindO (fa g) fun v g1 => selB v.d (.ok ⟨.bl true, 0⟩ g1) (fb g1) := by
  unfold eOr selB
  congr
  funext v g1
  cases v.d with
  | bl b => cases b <;> rfl
  | _ => rfl
@[simp] theorem eIf_ap {fc fa fb : Ex} : eIf fc fa fb g = bindO (fc g) fun v g1 => selB v.d (fa g1) (fb g1) := by
  unfold eIf selB
  congr
  funext v g1
  cases v.d with
  | bl b => cases b <;> rfl
  | _ => rfl
def notB (d : D) (g : Env) : Out := match d with
  | .bl b => .ok ⟨.bl (!b), 0⟩ g
  | _ => .bad
@[simp] theorem notB_bl : notB (.bl b) g = .ok ⟨.bl (!b), 0⟩ g := nr rfl
@[simp] theorem eNot_ap {fa : Ex} : eNot fa g = bindO (fa g) fun v g1 => notB v.d g1 := by
  unfold eNot notB
  congr
@[simp] theorem en_ap {o : List D → Option Val} {as : List Opd} : en o as g = goN as (fun rs g1 => finN o (allS rs g1) g1) g := nr rfl
@[simp] theorem goN_nil {r : List Rs → Env → Out} : goN [] r g = r [] g := nr rfl
@[simp] theorem goN_cons {r : List Rs → Env → Out} {a : Opd} {as : List Opd} : goN (a :: as) r g = a.go (fun x g1 => goN as (fun rs g2 => r (x :: rs) g2) g1) g := nr rfl
@[simp] theorem allS_nil : allS [] g = some [] := nr rfl
theorem allS_cons {r : Rs} {rs : List Rs} {ds : List D} (h1 : r g = some d) (h2 : allS rs g = some ds) : allS (r :: rs) g = some (d :: ds) := by
  unfold allS
  rw [h1, h2]
@[simp] theorem allS_1 {r : Rs} : allS [r] g = (r g).map fun d => [d] := by
  unfold allS
  cases r g <;> rfl
@[simp] theorem allS_2 {r s : Rs} : allS [r, s] g = (r g).bind fun d => (s g).map fun e => [d, e] := by
  simp only [allS]
  cases r g <;> cases s g <;> rfl
@[simp] theorem allS_3 {r s t : Rs} : allS [r, s, t] g = (r g).bind fun d => (s g).bind fun e => (t g).map fun f => [d, e, f] := by
  simp only [allS]
  cases r g <;> cases s g <;> cases t g <;> rfl
@[simp] theorem finN_ap {o : List D → Option Val} {ds : List D} : finN o (some ds) g = finV (o ds) g := by
  first
    | (simp only [finN, finV]; done)
    | (simp only [finN, finV]; cases o ds <;> rfl)
@[simp] theorem eSl2_ap {a c c' : Opd} : eSl2 a c c' g = a.go (fun ra g1 => c.go (fun rb g2 => match rb g2 with
  | some (.int _) => c'.go (fun rc g3 => finN (oSl true true) (allS [ra, rb, rc] g3) g3) g2
  | _ => .bad) g1) g := rfl
@[simp] theorem goE_nil {r : List D → Env → Out} : goE [] r g = r [] g := nr rfl
@[simp] theorem goE_cons {r : List D → Env → Out} {fs : List Ex} : goE (f :: fs) r g = bindO (f g) fun v g1 => goE fs (fun ds g2 => r (v.d :: ds) g2) g1 := nr rfl
@[simp] theorem eTup_ap {fs : List Ex} : eTup fs g = goE fs (fun ds g => .ok ⟨.tup ds, 0⟩ g) g := nr rfl
@[simp] theorem eLst_ap {fs : List Ex} : eLst fs g = goE fs (fun ds g => .ok ⟨.lst ds, 1⟩ g) g := nr rfl
def ofF (o : FOut) (g : Env) : Out := match o with
  | .ok v => .ok v g
  | .exc x => .exc x g
  | .bad => .bad
@[simp] theorem ofF_ok : ofF (.ok v) g = .ok v g := nr rfl
@[simp] theorem ofF_exc : ofF (.exc x) g = .exc x g := nr rfl
@[simp] theorem ofF_bad : ofF .bad g = .bad := nr rfl
@[simp] theorem eCall_ap {F : List D → FOut} {fs : List Ex} : eCall F fs g = goE fs (fun ds g => ofF (F ds) g) g := by
  unfold eCall
  congr
def ofIO (o : FIO) (i : Nat) (g : Env) : Out := match o with
  | .ok v io => .ok v (g.set i (some io))
  | .exc x => .exc x (g.set i none)
  | .bad => .bad
@[simp] theorem ofIO_ok {io : Val} : ofIO (.ok v io) i g = .ok v (g.set i (some io)) := nr rfl
def callIO (F : Val → List D → FIO) (i : Nat) (ds : List D) (g : Env) : Out := match g[i]? with
  | some (some io) => ofIO (F io ds) i g
  | _ => .bad
theorem callIO_ap {F : Val → List D → FIO} {ds : List D} (h : g[i]? = some (some v)) : callIO F i ds g = ofIO (F v ds) i g := by
  unfold callIO
  rw [h]
theorem eCallIO_ap {F : Val → List D → FIO} {fs : List Ex} (h : g[i]? = some (some v)) : eCallIO F i fs g = goE fs (callIO F i) g := by
  unfold eCallIO
  rw [h]
  congr
def mutO (i : Nat) (op : List D → List D → Option (D × List D)) (as : List D) (g : Env) : Out := match g[i]? with
  | some (some ⟨.lst ds, 1⟩) => match op ds as with
    | some (r, ds') => .ok ⟨r, 0⟩ (g.set i (some ⟨.lst ds', 1⟩))
    | none => .bad
  | _ => .bad
theorem mutO_ap {op : List D → List D → Option (D × List D)} {as ds ds' : List D} {r : D} (h : g[i]? = some (some ⟨.lst ds, 1⟩)) (ho : op ds as = some (r, ds')) : mutO i op as g = .ok ⟨r, 0⟩ (g.set i (some ⟨.lst ds', 1⟩)) := by
  unfold mutO
  simp only [h, ho]
theorem eMut_ap {op : List D → List D → Option (D × List D)} {fs : List Ex} {ds : List D} (h : g[i]? = some (some ⟨.lst ds, 1⟩)) : eMut i fs op g = goE fs (mutO i op) g := by
  unfold eMut
  simp only [h]
  rfl

/-! ### sources -/
def bindI (o : IOut) (k : List D → Env → Out) : Out := match o with
  | .ok ds g => k ds g
  | .exc x g => .exc x g
  | .bad => .bad
def bindIS (o : IOut) (k : List D → Env → SOut) : SOut := match o with
  | .ok ds g => k ds g
  | .exc x g => .exc x g
  | .bad => .bad
@[simp] theorem bindI_ok {ds : List D} {k : List D → Env → Out} : bindI (.ok ds g) k = k ds g := nr rfl
@[simp] theorem bindI_exc {k : List D → Env → Out} : bindI (.exc x g) k = .exc x g := nr rfl
@[simp] theorem bindIS_ok {ds : List D} {k : List D → Env → SOut} : bindIS (.ok ds g) k = k ds g := nr rfl
@[simp] theorem bindIS_exc {k : List D → Env → SOut} : bindIS (.exc x g) k = .exc x g := nr rfl
@[simp] theorem iOf_ok {k : Val → Env → IOut} : iOf (.ok v g) k = k v g := nr rfl
@[simp] theorem iOf_exc {k : Val → Env → IOut} : iOf (.exc x g) k = .exc x g := nr rfl
def itI (d : D) (g : Env) : IOut := match itemsD d with
  | some ds => .ok ds g
  | none => .bad
@[simp] theorem itI_lst {ds : List D} : itI (.lst ds) g = .ok ds g := nr rfl
@[simp] theorem itI_tup {ds : List D} : itI (.tup ds) g = .ok ds g := nr rfl
@[simp] theorem iV_ap : iV f g = iOf (f g) fun v g1 => itI v.d g1 := by
  unfold iV itI
  congr
def rngO (d e : D) (g : Env) : IOut := match d, e with
  | .int i, .int j => if -big ≤ i ∧ i ≤ big ∧ -big ≤ j ∧ j ≤ big ∧ j - i ≤ big then .ok (rngD i (j - i).toNat) g else .bad
  | _, _ => .bad
def rng1 (d : D) (g : Env) : IOut := match d with
  | .int n => if -big ≤ n ∧ n ≤ big then .ok (rngD 0 n.toNat) g else .bad
  | _ => .bad
@[simp] theorem iR1_ap : iR1 f g = iOf (f g) fun v g1 => rng1 v.d g1 := by
  unfold iR1 rng1
  congr
theorem rng1_ap {m : Nat} (h : m ≤ big) : rng1 (.int m) g = .ok (rngD 0 m) g := by
  have hb : (big : Int) = 16777216 := rfl
  have hb2 : big = 16777216 := rfl
  unfold rng1
  simp only
  rw [if_pos (by omega), Int.toNat_natCast]
theorem iR2_ap {f2 : Ex} {i : Int} (h : f g = .ok ⟨.int i, n⟩ g1) : iR2 f f2 g = iOf (f2 g1) fun w g2 => rngO (.int i) w.d g2 := by
  unfold iR2 rngO
  rw [h]
  simp only [iOf_ok]
  congr
  funext w g2
  cases w.d <;> rfl
def okI (o : IOut) (k : List D → Env → Out) : Out := match o with
  | .ok ds g => k ds g
  | _ => .bad
@[simp] theorem okI_ok {ds : List D} {k : List D → Env → Out} : okI (.ok ds g) k = k ds g := nr rfl
@[simp] theorem eLc_ap {s : Src} {t : Tg} {c : Option Ex} {e : Ex} {dp : Bool} {vs rs : List Nat} : eLc s t c e dp vs rs g = bindI (s g) fun ds g1 => okI (lcL t c e dp vs ds (killG vs g1)) fun out g2 => .ok ⟨.lst out, lv dp + 1⟩ (restG g1 rs g2) := by
  unfold eLc bindI okI
  congr
@[simp] theorem eLc2_ap {s s1 : Src} {t t1 : Tg} {c c1 : Option Ex} {e : Ex} {dp : Bool} {vs vs1 rs : List Nat} : eLc2 s t c s1 t1 c1 e dp vs vs1 rs g = bindI (s g) fun ds g1 => okI (lcO (big / ds.length) t c s1 t1 c1 e dp vs vs1 ds (killG vs g1)) fun out g2 => .ok ⟨.lst out, lv dp + 1⟩ (restG g1 rs g2) := by
  unfold eLc2 bindI okI
  congr
end
section
variable {g g1 : Env} {v : Val} {d e : D} {i n : Nat} {f : Ex} {k : Val → Env → SOut} {x : Exc} {b : Bool}
@[simp] theorem bindE_ok : bindE (.ok v g) k = k v g := nr rfl
@[simp] theorem bindE_exc : bindE (.exc x g) k = .exc x g := nr rfl
@[simp] theorem bindE_bad : bindE .bad k = .bad := nr rfl
@[simp] theorem bindS_nx {k : Env → SOut} : bindS (.nx g) k = k g := nr rfl
@[simp] theorem bindS_ret {k : Env → SOut} : bindS (.ret v g) k = .ret v g := nr rfl
@[simp] theorem bindS_exc {k : Env → SOut} : bindS (.exc x g) k = .exc x g := nr rfl
@[simp] theorem bindS_brk {k : Env → SOut} : bindS (.brk g) k = .brk g := nr rfl
@[simp] theorem bindS_ct {k : Env → SOut} : bindS (.ct g) k = .ct g := nr rfl
@[simp] theorem bindS_ite {p : Prop} [Decidable p] {a c : SOut} {k : Env → SOut} : bindS (if p then a else c) k = if p then bindS a k else bindS c k := by split <;> rfl
@[simp] theorem seq_ap {a c : Sx} : seq a c g = bindS (a g) c := nr rfl
@[simp] theorem skip_ap : skip g = .nx g := nr rfl
@[simp] theorem sBrk_ap : sBrk g = .brk g := nr rfl
@[simp] theorem sCt_ap : sCt g = .ct g := nr rfl
@[simp] theorem sRet_ap : sRet f g = bindE (f g) .ret := nr rfl
@[simp] theorem sRetN_ap : sRetN g = .ret ⟨.non, 0⟩ g := nr rfl
@[simp] theorem sEx_ap : sEx f g = bindE (f g) fun _ g1 => .nx g1 := nr rfl
def selS (d : D) (x y : SOut) : SOut := match d with
  | .bl b => if b = true then x else y
  | _ => .bad
@[simp] theorem selS_bl {x y : SOut} : selS (.bl b) x y = if b = true then x else y := nr rfl
@[simp] theorem sIf_ap {a c : Sx} : sIf f a c g = bindE (f g) fun v g1 => selS v.d (a g1) (c g1) := by
  unfold sIf selS
  congr
  funext v g1
  cases v.d with
  | bl b => cases b <;> rfl
  | _ => rfl
@[simp] theorem sSet_ap {q : Bool} : sSet i q f g = bindE (f g) fun v g1 => .nx (g1.set i (some (keepV q v))) := nr rfl
@[simp] theorem keepV_t : keepV true v = v := nr rfl
@[simp] theorem keepV_f : keepV false v = ⟨v.d, 0⟩ := nr rfl
def nxO (o : Option Env) : SOut := match o with
  | some g => .nx g
  | none => .bad
@[simp] theorem nxO_some : nxO (some g) = .nx g := nr rfl
@[simp] theorem sAsg_ap {t : Tg} : sAsg t f g = bindE (f g) fun v g1 => nxO (t.asg v.d g1) := by
  unfold sAsg nxO
  congr
@[simp] theorem goV_nil {r : List Val → Env → SOut} : goV [] r g = r [] g := nr rfl
@[simp] theorem goV_cons {r : List Val → Env → SOut} {fs : List Ex} : goV (f :: fs) r g = bindE (f g) fun v g1 => goV fs (fun vs g2 => r (v :: vs) g2) g1 := nr rfl
@[simp] theorem sPar_ap {is : List (Nat × Bool)} {fs : List Ex} : sPar is fs g = goV fs (fun vs g => .nx (setAll is vs g)) g := nr rfl
@[simp] theorem setAll_nil {vs : List Val} : setAll [] vs g = g := nr rfl
@[simp] theorem setAll_cons {q : Bool} {is : List (Nat × Bool)} {vs : List Val} : setAll ((i, q) :: is) (v :: vs) g = setAll is vs (g.set i (some (keepV q v))) := nr rfl
@[simp] theorem sRaise_ap : sRaise x g = .exc x g := nr rfl
@[simp] theorem asg_n : (Tg.n i).asg d g = some (g.set i (some ⟨d, 0⟩)) := nr rfl
@[simp] theorem asg_t {ts : List Tg} {ds : List D} : (Tg.t ts).asg (.tup ds) g = Tg.asgs ts ds g := nr rfl
@[simp] theorem asgs_nil : Tg.asgs [] [] g = some g := nr rfl
@[simp] theorem asgs_cons {t : Tg} {ts : List Tg} {ds : List D} : Tg.asgs (t :: ts) (d :: ds) g = (t.asg d g).bind fun g1 => Tg.asgs ts ds g1 := by
  simp only [Tg.asgs]
  cases t.asg d g <;> rfl
@[simp] theorem sFor_ap {s : Src} {t : Tg} {a : Sx} {ks : List Nat} : sFor s t a ks g = bindIS (s g) fun ds g1 => forL t a ks ds (killG ks g1) := by
  unfold sFor bindIS
  congr
@[simp] theorem killG_nil : killG [] g = g := nr rfl
@[simp] theorem killG_cons {ks : List Nat} : killG (i :: ks) g = killG ks (g.set i none) := nr rfl
@[simp] theorem forL_nil {t : Tg} {a : Sx} {ks : List Nat} : forL t a ks [] g = .nx g := nr rfl
def stepL (o : SOut) (ks : List Nat) (k : Env → SOut) : SOut := match o with
  | .nx g => k (killG ks g)
  | .ct g => k (killG ks g)
  | .brk g => .nx (killG ks g)
  | r => r
@[simp] theorem stepL_nx {ks : List Nat} {k : Env → SOut} : stepL (.nx g) ks k = k (killG ks g) := nr rfl
@[simp] theorem stepL_ct {ks : List Nat} {k : Env → SOut} : stepL (.ct g) ks k = k (killG ks g) := nr rfl
@[simp] theorem stepL_brk {ks : List Nat} {k : Env → SOut} : stepL (.brk g) ks k = .nx (killG ks g) := nr rfl
@[simp] theorem stepL_ret {ks : List Nat} {k : Env → SOut} : stepL (.ret v g) ks k = .ret v g := nr rfl
@[simp] theorem stepL_exc {ks : List Nat} {k : Env → SOut} : stepL (.exc x g) ks k = .exc x g := nr rfl
theorem forL_cons {t : Tg} {a : Sx} {ks : List Nat} {ds : List D} (h : t.asg d g = some g1) : forL t a ks (d :: ds) g = stepL (a g1) ks (forL t a ks ds) := by
  rw [forL, h]
  simp only
  unfold stepL
  cases a g1 <;> rfl
/-! ### defs -/
def fnO (o : SOut) : FOut := match o with
  | .ret v _ => .ok v
  | .nx _ => .ok ⟨.non, 0⟩
  | .exc x _ => .exc x
  | _ => .bad
@[simp] theorem fnO_ret : fnO (.ret v g) = .ok v := nr rfl
@[simp] theorem fnO_nx : fnO (.nx g) = .ok ⟨.non, 0⟩ := nr rfl
@[simp] theorem fnO_exc : fnO (.exc x g) = .exc x := nr rfl
theorem fnO_ite {p : Prop} [Decidable p] {a c : SOut} : fnO (if p then a else c) = if p then fnO a else fnO c := by split <;> rfl
theorem fnS_ap {m : Nat} {a : Sx} {ds : List D} (h : ds.length = m) : fnS n m a ds = fnO (a (ds.map (fun d => some ⟨d, 0⟩) ++ List.replicate (n - m) none)) := by
  unfold fnS
  rw [if_pos h]
  unfold fnO
  congr
/-! ### operations -/
@[simp] theorem a1 {i j : Int} : dAdd (.int i) (.int j) = vI (i + j) := nr rfl
@[simp] theorem a2 {i j : Int} : dSub (.int i) (.int j) = vI (i - j) := nr rfl
@[simp] theorem a3 {i j : Int} : dLt (.int i) (.int j) = vB (decide (i < j)) := nr rfl
@[simp] theorem a4 {i j : Int} : dLe (.int i) (.int j) = vB (decide (i ≤ j)) := nr rfl
@[simp] theorem a5 {i j : Int} : dGt (.int i) (.int j) = vB (decide (j < i)) := nr rfl
@[simp] theorem a6 {i j : Int} : dGe (.int i) (.int j) = vB (decide (j ≤ i)) := nr rfl
@[simp] theorem a7 {i j : Int} : dEq (.int i) (.int j) = vB (i == j) := nr rfl
@[simp] theorem a8 {i j : Int} : dNe (.int i) (.int j) = vB (!(i == j)) := nr rfl
@[simp] theorem a9 {i : Int} : dNeg (.int i) = vI (-i) := nr rfl
@[simp] theorem a10 {i j : Int} : dAddI (.int i) (.int j) = vI (i + j) := nr rfl
@[simp] theorem vI_ap {i : Int} : finV (vI i) g = .ok ⟨.int i, 0⟩ g := nr rfl
@[simp] theorem vB_ap : finV (vB b) g = .ok ⟨.bl b, 0⟩ g := nr rfl
@[simp] theorem b1 {ds : List D} : oLen [.lst ds] = vI ds.length := nr rfl
@[simp] theorem b2 {ds : List D} : oLen [.tup ds] = vI ds.length := nr rfl
@[simp] theorem b3 {ds : List D} : oTuple [.lst ds] = some ⟨.tup ds, 0⟩ := nr rfl
@[simp] theorem b4 {ds : List D} : oTuple [.tup ds] = some ⟨.tup ds, 0⟩ := nr rfl
@[simp] theorem b5 {ds : List D} : oList [.lst ds] = some ⟨.lst ds, 1⟩ := nr rfl
@[simp] theorem b6 {ds : List D} : oList [.tup ds] = some ⟨.lst ds, 1⟩ := nr rfl
@[simp] theorem b7 {ns : List Int} : oList [.src ns] = some ⟨.lst (ns.map .int), 1⟩ := nr rfl
@[simp] theorem b8 {i : Int} : oInt [.int i] = vI i := nr rfl
@[simp] theorem b9 : oInt [.bl b] = vI (if b = true then 1 else 0) := nr rfl
@[simp] theorem i_NoneType_int : dIsi "int" .non = vB false := nr rfl
@[simp] theorem i_NoneType_bool : dIsi "bool" .non = vB false := nr rfl
@[simp] theorem i_NoneType_str : dIsi "str" .non = vB false := nr rfl
@[simp] theorem i_NoneType_tuple : dIsi "tuple" .non = vB false := nr rfl
@[simp] theorem i_NoneType_list : dIsi "list" .non = vB false := nr rfl
@[simp] theorem i_bool_int {b : Bool} : dIsi "int" (.bl b) = vB true := nr rfl
@[simp] theorem i_bool_bool {b : Bool} : dIsi "bool" (.bl b) = vB true := nr rfl
@[simp] theorem i_bool_str {b : Bool} : dIsi "str" (.bl b) = vB false := nr rfl
@[simp] theorem i_bool_tuple {b : Bool} : dIsi "tuple" (.bl b) = vB false := nr rfl
@[simp] theorem i_bool_list {b : Bool} : dIsi "list" (.bl b) = vB false := nr rfl
@[simp] theorem i_int_int {i : Int} : dIsi "int" (.int i) = vB true := nr rfl
@[simp] theorem i_int_bool {i : Int} : dIsi "bool" (.int i) = vB false := nr rfl
@[simp] theorem i_int_str {i : Int} : dIsi "str" (.int i) = vB false := nr rfl
@[simp] theorem i_int_tuple {i : Int} : dIsi "tuple" (.int i) = vB false := nr rfl
@[simp] theorem i_int_list {i : Int} : dIsi "list" (.int i) = vB false := nr rfl
@[simp] theorem i_str_int {s : Str} : dIsi "int" (.str s) = vB false := nr rfl
@[simp] theorem i_str_bool {s : Str} : dIsi "bool" (.str s) = vB false := nr rfl
@[simp] theorem i_str_str {s : Str} : dIsi "str" (.str s) = vB true := nr rfl
@[simp] theorem i_str_tuple {s : Str} : dIsi "tuple" (.str s) = vB false := nr rfl
@[simp] theorem i_str_list {s : Str} : dIsi "list" (.str s) = vB false := nr rfl
@[simp] theorem i_tuple_int {ds : List D} : dIsi "int" (.tup ds) = vB false := nr rfl
@[simp] theorem i_tuple_bool {ds : List D} : dIsi "bool" (.tup ds) = vB false := nr rfl
@[simp] theorem i_tuple_str {ds : List D} : dIsi "str" (.tup ds) = vB false := nr rfl
@[simp] theorem i_tuple_tuple {ds : List D} : dIsi "tuple" (.tup ds) = vB true := nr rfl
@[simp] theorem i_tuple_list {ds : List D} : dIsi "list" (.tup ds) = vB false := nr rfl
@[simp] theorem i_list_int {ds : List D} : dIsi "int" (.lst ds) = vB false := nr rfl
@[simp] theorem i_list_bool {ds : List D} : dIsi "bool" (.lst ds) = vB false := nr rfl
@[simp] theorem i_list_str {ds : List D} : dIsi "str" (.lst ds) = vB false := nr rfl
@[simp] theorem i_list_tuple {ds : List D} : dIsi "tuple" (.lst ds) = vB false := nr rfl
@[simp] theorem i_list_list {ds : List D} : dIsi "list" (.lst ds) = vB true := nr rfl
@[simp] theorem q1 {a c : Bool} : dEq (.bl a) (.bl c) = vB (a == c) := nr rfl
@[simp] theorem q2 {a c : Bool} : dNe (.bl a) (.bl c) = vB (!(a == c)) := nr rfl
@[simp] theorem q3 : dIs .non .non = vB true := nr rfl
@[simp] theorem q4 {i : Int} : dIs (.int i) .non = vB false := nr rfl
@[simp] theorem q5 {a : Bool} : dIs (.bl a) .non = vB false := nr rfl
@[simp] theorem q6 {a : Str} : dIs (.str a) .non = vB false := nr rfl
@[simp] theorem q7 {ds : List D} : dIs (.tup ds) .non = vB false := nr rfl
@[simp] theorem q8 {ds : List D} : dIs (.lst ds) .non = vB false := nr rfl
@[simp] theorem q13 : dIsNot .non .non = vB false := nr rfl
@[simp] theorem q14 {i : Int} : dIsNot (.int i) .non = vB true := nr rfl
@[simp] theorem q15 {a : Bool} : dIsNot (.bl a) .non = vB true := nr rfl
@[simp] theorem q16 {a : Str} : dIsNot (.str a) .non = vB true := nr rfl
@[simp] theorem q17 {ds : List D} : dIsNot (.tup ds) .non = vB true := nr rfl
@[simp] theorem q18 {ds : List D} : dIsNot (.lst ds) .non = vB true := nr rfl
@[simp] theorem q20 {a : Bool} {c : Bool} : dIs (.bl a) (.bl c) = vB (a == c) := nr rfl
@[simp] theorem q21 {a : Bool} {c : Bool} : dIsNot (.bl a) (.bl c) = vB (!(a == c)) := nr rfl
end
end PL

/-! PL21: loops and comprehensions as plain functions; the law's own drawing and comparing. -/
namespace PL
open PySem

section
variable {g : Env} {t t1 : Tg} {c c1 : Option Ex} {e : Ex} {vs vs1 ks : List Nat} {s1 : Src} {a : Sx}
def tst (o : Out) : Option (Bool × Env) := match o with
  | .ok v g1 => match v.d with
    | .bl b => some (b, g1)
    | _ => none
  | _ => none
@[simp] theorem testO_none : testO none g = some (true, g) := nr rfl
@[simp] theorem testO_some {f : Ex} : testO (some f) g = tst (f g) := by
  unfold testO tst
  rfl
@[simp] theorem tst_ok {b : Bool} {n : Nat} : tst (.ok ⟨.bl b, n⟩ g) = some (b, g) := nr rfl
theorem tst_ite {p : Prop} [Decidable p] {x y : Out} : tst (if p then x else y) = if p then tst x else tst y := by split <;> rfl
def got (o : Out) (vs : List Nat) : Option (Option D × Env) := match o with
  | .ok v g => some (some v.d, killG vs g)
  | _ => none
@[simp] theorem got_ok {v : Val} : got (.ok v g) vs = some (some v.d, killG vs g) := nr rfl
/-- one item of a comprehension -/
def lc1 (t : Tg) (c : Option Ex) (e : Ex) (vs : List Nat) (d : D) (g : Env) : Option (Option D × Env) :=
  (t.asg d g).bind fun g1 => (testO c g1).bind fun p => if p.1 = true then got (e p.2) vs else some (none, killG vs p.2)
theorem lcL_noexc {x : Exc} {g' : Env} : ∀ (ds : List D) (g : Env), lcL t c e false vs ds g ≠ .exc x g' := by
  intro ds
  induction ds with
  | nil => intro g h; cases h
  | cons d ds ih =>
    intro g h
    rw [lcL] at h
    split at h
    · cases h
    · split at h
      · cases h
      · exact ih _ h
      · split at h
        · split at h
          · cases h
          · split at h <;> cases h
        · cases h
theorem lcL_step {d : D} {ds : List D} {r : Option D} {g1 : Env} (h : lc1 t c e vs d g = some (r, g1)) : lcL t c e false vs (d :: ds) g = match lcL t c e false vs ds g1 with
    | .ok out g2 => .ok (r.toList ++ out) g2
    | _ => .bad := by
  unfold lc1 at h
  rw [lcL]
  cases ea : t.asg d g with
  | none => rw [ea] at h; cases h
  | some g2 =>
    rw [ea] at h
    simp only [Option.bind_some] at h ⊢
    cases et : testO c g2 with
    | none => rw [et] at h; cases h
    | some p =>
      obtain ⟨b, g3⟩ := p
      rw [et] at h
      simp only [Option.bind_some] at h ⊢
      cases b with
      | false =>
        simp only [Bool.false_eq_true, if_false, Option.some.injEq, Prod.mk.injEq] at h
        obtain ⟨rfl, rfl⟩ := h
        simp only [Option.toList_none, List.nil_append]
        cases q : lcL t c e false vs ds (killG vs g3) with
        | ok o g => rfl
        | bad => rfl
        | exc x g => exact absurd q (lcL_noexc _ _)
      | true =>
        simp only [if_true] at h
        unfold got at h
        cases ee : e g3 with
        | ok v g4 =>
          rw [ee] at h
          simp only [Option.some.injEq, Prod.mk.injEq] at h
          obtain ⟨rfl, rfl⟩ := h
          simp only [ee, Option.toList_some, List.cons_append, List.nil_append]
          cases lcL t c e false vs ds (killG vs g4) <;> rfl
        | exc x g4 => rw [ee] at h; cases h
        | bad => rw [ee] at h; cases h
theorem lcL_pure {h : D → Option D} : ∀ {ds : List D}, (∀ d ∈ ds, lc1 t c e vs d g = some (h d, g)) → lcL t c e false vs ds g = .ok (ds.filterMap h) g
  | [], _ => rfl
  | d :: ds, H => by
    rw [lcL_step (H d List.mem_cons_self), lcL_pure fun d hd => H d (List.mem_cons_of_mem _ hd)]
    simp only [List.filterMap_cons]
    cases h d <;> rfl
theorem lcL_map {h : D → D} {ds : List D} (H : ∀ d ∈ ds, lc1 t c e vs d g = some (some (h d), g)) : lcL t c e false vs ds g = .ok (ds.map h) g := by
  rw [lcL_pure (h := fun d => some (h d)) H]
  simp
/-- one item of the outer part -/
def lo1 (M : Nat) (t : Tg) (c : Option Ex) (s1 : Src) (t1 : Tg) (c1 : Option Ex) (e : Ex) (vs vs1 : List Nat) (d : D) (g : Env) : Option (List D × Env) :=
  (t.asg d g).bind fun g1 => (testO c g1).bind fun p => if p.1 = true then (match s1 p.2 with
    | .ok ds1 g3 => if ds1.length ≤ M then (match lcL t1 c1 e false vs1 ds1 (killG vs1 g3) with
      | .ok o1 g4 => some (o1, killG vs g4)
      | _ => none) else none
    | _ => none) else some ([], killG vs p.2)
def lo3 (o : IOut) (vs : List Nat) : Option (List D × Env) := match o with
  | .ok o1 g4 => some (o1, killG vs g4)
  | _ => none
def lo2 (M : Nat) (o : IOut) (t1 : Tg) (c1 : Option Ex) (e : Ex) (vs vs1 : List Nat) : Option (List D × Env) := match o with
  | .ok ds1 g3 => if ds1.length ≤ M then lo3 (lcL t1 c1 e false vs1 ds1 (killG vs1 g3)) vs else none
  | _ => none
theorem lo3_ok {o1 : List D} : lo3 (.ok o1 g) vs = some (o1, killG vs g) := nr rfl
theorem lo2_ok {M : Nat} {ds1 : List D} (h : ds1.length ≤ M) : lo2 M (.ok ds1 g) t1 c1 e vs vs1 = lo3 (lcL t1 c1 e false vs1 ds1 (killG vs1 g)) vs := if_pos h
theorem lo1_ap {M : Nat} {d : D} : lo1 M t c s1 t1 c1 e vs vs1 d g = (t.asg d g).bind fun g1 => (testO c g1).bind fun p => if p.1 = true then lo2 M (s1 p.2) t1 c1 e vs vs1 else some ([], killG vs p.2) := rfl
theorem lcO_pure {M : Nat} {h : D → List D} : ∀ {ds : List D}, (∀ d ∈ ds, lo1 M t c s1 t1 c1 e vs vs1 d g = some (h d, g)) → lcO M t c s1 t1 c1 e false vs vs1 ds g = .ok (ds.flatMap h) g
  | [], _ => rfl
  | d :: ds, H => by
    have hd := H d List.mem_cons_self
    have ih := lcO_pure fun d hd => H d (List.mem_cons_of_mem _ hd)
    unfold lo1 at hd
    rw [lcO, List.flatMap_cons]
    cases ea : t.asg d g with
    | none => rw [ea] at hd; cases hd
    | some g2 =>
      rw [ea] at hd
      simp only [Option.bind_some] at hd ⊢
      cases et : testO c g2 with
      | none => rw [et] at hd; cases hd
      | some p =>
        obtain ⟨b, g3⟩ := p
        rw [et] at hd
        simp only [Option.bind_some] at hd ⊢
        cases b with
        | false =>
          simp only [Bool.false_eq_true, if_false, Option.some.injEq, Prod.mk.injEq] at hd
          obtain ⟨e1, e2⟩ := hd
          simp only
          rw [e2, ih, ← e1]
          rfl
        | true =>
          simp only [if_true] at hd
          cases es : s1 g3 with
          | ok ds1 g4 =>
            rw [es] at hd
            simp only [es] at hd ⊢
            split at hd
            · rename_i hl
              rw [if_pos hl]
              cases el : lcL t1 c1 e false vs1 ds1 (killG vs1 g4) with
              | ok o1 g5 =>
                rw [el] at hd
                simp only [Option.some.injEq, Prod.mk.injEq] at hd
                obtain ⟨e1, e2⟩ := hd
                simp only [e2, ih, e1]
              | exc x g5 => rw [el] at hd; cases hd
              | bad => rw [el] at hd; cases hd
            · cases hd
          | exc x g4 => rw [es] at hd; cases hd
          | bad => rw [es] at hd; cases hd
/-- one turn of a for -/
def fo1 (t : Tg) (a : Sx) (ks : List Nat) (d : D) (g : Env) : SOut := match t.asg d g with
  | none => .bad
  | some g1 => match a g1 with
    | .nx g2 => .nx (killG ks g2)
    | .ct g2 => .nx (killG ks g2)
    | .brk g2 => .brk (killG ks g2)
    | r => r
def endO (o : SOut) (ks : List Nat) : SOut := match o with
  | .nx g2 => .nx (killG ks g2)
  | .ct g2 => .nx (killG ks g2)
  | .brk g2 => .brk (killG ks g2)
  | r => r
@[simp] theorem endO_nx : endO (.nx g) ks = .nx (killG ks g) := nr rfl
@[simp] theorem endO_ct : endO (.ct g) ks = .nx (killG ks g) := nr rfl
@[simp] theorem endO_brk : endO (.brk g) ks = .brk (killG ks g) := nr rfl
@[simp] theorem endO_ret {v : Val} : endO (.ret v g) ks = .ret v g := nr rfl
theorem endO_ite {p : Prop} [Decidable p] {x y : SOut} : endO (if p then x else y) ks = if p then endO x ks else endO y ks := by split <;> rfl
def atO (o : Option Env) (a : Sx) (ks : List Nat) : SOut := match o with
  | none => .bad
  | some g1 => endO (a g1) ks
@[simp] theorem atO_some : atO (some g) a ks = endO (a g) ks := nr rfl
theorem fo1_ap {d : D} : fo1 t a ks d g = atO (t.asg d g) a ks := by
  unfold fo1 atO endO
  cases t.asg d g with
  | none => rfl
  | some g1 => rfl
theorem forL_nx {d : D} {ds : List D} {g2 : Env} (h : fo1 t a ks d g = .nx g2) : forL t a ks (d :: ds) g = forL t a ks ds g2 := by
  unfold fo1 at h
  rw [forL]
  cases ea : t.asg d g with
  | none => rw [ea] at h; cases h
  | some g1 =>
    rw [ea] at h
    simp only at h ⊢
    cases eb : a g1 with
    | nx g3 => rw [eb] at h; cases h; rfl
    | ct g3 => rw [eb] at h; cases h; rfl
    | brk g3 => rw [eb] at h; cases h
    | ret v g3 => rw [eb] at h; cases h
    | exc x g3 => rw [eb] at h; cases h
    | bad => rw [eb] at h; cases h
theorem forL_brk {d : D} {ds : List D} {g2 : Env} (h : fo1 t a ks d g = .brk g2) : forL t a ks (d :: ds) g = .nx g2 := by
  unfold fo1 at h
  rw [forL]
  cases ea : t.asg d g with
  | none => rw [ea] at h; cases h
  | some g1 =>
    rw [ea] at h
    simp only at h ⊢
    cases eb : a g1 with
    | brk g3 => rw [eb] at h; cases h; rfl
    | nx g3 => rw [eb] at h; cases h
    | ct g3 => rw [eb] at h; cases h
    | ret v g3 => rw [eb] at h; cases h
    | exc x g3 => rw [eb] at h; cases h
    | bad => rw [eb] at h; cases h
theorem forL_ret {d : D} {ds : List D} {v : Val} {g2 : Env} (h : fo1 t a ks d g = .ret v g2) : forL t a ks (d :: ds) g = .ret v g2 := by
  unfold fo1 at h
  rw [forL]
  cases ea : t.asg d g with
  | none => rw [ea] at h; cases h
  | some g1 =>
    rw [ea] at h
    simp only at h ⊢
    cases eb : a g1 with
    | ret v g3 => rw [eb] at h; cases h; rfl
    | nx g3 => rw [eb] at h; cases h
    | ct g3 => rw [eb] at h; cases h
    | brk g3 => rw [eb] at h; cases h
    | exc x g3 => rw [eb] at h; cases h
    | bad => rw [eb] at h; cases h
/-- a for as a fold -/
theorem forL_fold {S : Type} (enc : S → Env) (f : S → D → S) (Iv : S → Prop) : ∀ {ds : List D} {s : S}, Iv s → (∀ s, Iv s → ∀ d ∈ ds, fo1 t a ks d (enc s) = .nx (enc (f s d)) ∧ Iv (f s d)) → forL t a ks ds (enc s) = .nx (enc (ds.foldl f s)) ∧ Iv (ds.foldl f s)
  | [], s, h, _ => ⟨rfl, h⟩
  | d :: ds, s, h, H => by
    obtain ⟨h1, h2⟩ := H s h d List.mem_cons_self
    rw [forL_nx h1, List.foldl_cons]
    exact forL_fold enc f Iv h2 fun s hs d hd => H s hs d (List.mem_cons_of_mem _ hd)
end

theorem fnS0 {n : Nat} {a : Sx} : fnS n 0 a [] = fnO (a (List.replicate n none)) := by
  rw [fnS_ap (n := n) (m := 0) (ds := []) rfl]
  rfl
theorem fnS1 {n : Nat} {a : Sx} {d : D} : fnS n 1 a [d] = fnO (a (some ⟨d, 0⟩ :: List.replicate (n - 1) none)) := by
  rw [fnS_ap (n := n) (m := 1) (ds := [d]) rfl]
  rfl
theorem fnS2 {n : Nat} {a : Sx} {d e : D} : fnS n 2 a [d, e] = fnO (a (some ⟨d, 0⟩ :: some ⟨e, 0⟩ :: List.replicate (n - 2) none)) := by
  rw [fnS_ap (n := n) (m := 2) (ds := [d, e]) rfl]
  rfl
theorem fnS3 {n : Nat} {a : Sx} {d e f : D} : fnS n 3 a [d, e, f] = fnO (a (some ⟨d, 0⟩ :: some ⟨e, 0⟩ :: some ⟨f, 0⟩ :: List.replicate (n - 3) none)) := by
  rw [fnS_ap (n := n) (m := 3) (ds := [d, e, f]) rfl]
  rfl
theorem fnS4 {n : Nat} {a : Sx} {d e f h : D} : fnS n 4 a [d, e, f, h] = fnO (a (some ⟨d, 0⟩ :: some ⟨e, 0⟩ :: some ⟨f, 0⟩ :: some ⟨h, 0⟩ :: List.replicate (n - 4) none)) := by
  rw [fnS_ap (n := n) (m := 4) (ds := [d, e, f, h]) rfl]
  rfl

/-! ### _law_same -/
def bSame (rec : List D → FOut) : Sx := seq (sIf (eOr (e1 (dIsi "tuple") (.pk 1)) (e1 (dIsi "list") (.pk 1))) (seq (sIf (eOr (e2 dNe (.ex (e1 (dIsi "tuple") (.pk 1))) (.ex (e1 (dIsi "tuple") (.pk 0)))) (e2 dNe (.ex (e1 (dIsi "list") (.pk 1))) (.ex (e1 (dIsi "list") (.pk 0))))) (sRet (eC (.bl false))) (skip)) (seq (sIf (e2 dNe (.ex (en oLen [.pk 0])) (.ex (en oLen [.pk 1]))) (sRet (eC (.bl false))) (skip)) (sRet (e2 dEq (.ex (en oLen [.ex (eLc (iR1 (en oLen [.pk 1])) (.n 2) (some (eNot (eCall rec [e2 dIx (.pk 0) (.pk 2), e2 dIx (.pk 1) (.pk 2)]))) (eVar 2) false [2] [])])) (.ex (eC (.int 0))))))) (skip)) (seq (sIf (e1 (dIsi "str") (.pk 1)) (sRet (eAnd (e1 (dIsi "str") (.pk 0)) (e2 dEq (.pk 0) (.pk 1)))) (skip)) (seq (sIf (e2 dIs (.pk 1) (.ex (eC .non))) (sRet (e2 dIs (.pk 0) (.ex (eC .non)))) (skip)) (seq (sIf (eOr (e1 (dIsi "bool") (.pk 1)) (e1 (dIsi "bool") (.pk 0))) (sRet (eAnd (e1 (dIsi "bool") (.pk 1)) (eAnd (e1 (dIsi "bool") (.pk 0)) (e2 dEq (.pk 0) (.pk 1))))) (skip)) (sRet (eAnd (e1 (dIsi "int") (.pk 0)) (eAnd (e1 (dIsi "int") (.pk 1)) (e2 dEq (.pk 0) (.pk 1))))))))
def sSame : Nat → List D → FOut
  | 0 => fnS 3 2 (bSame fun _ => .bad)
  | k + 1 => fnS 3 2 (bSame (sSame k))
/-! data that may be compared: n levels, texts and lengths as they should be -/
mutual
def smD : Nat → D → Bool
  | _, .non => true
  | _, .bl _ => true
  | _, .int _ => true
  | _, .str x => PyData.strOk x
  | n + 1, .tup xs => decide (xs.length ≤ big) && smDs n xs
  | n + 1, .lst xs => decide (xs.length ≤ big) && smDs n xs
  | _, _ => false
def smDs : Nat → List D → Bool
  | _, [] => true
  | n, x :: xs => smD n x && smDs n xs
end
theorem smDs_mem {n : Nat} : ∀ {ds : List D}, smDs n ds = true → ∀ d ∈ ds, smD n d = true
  | [], _, _, h => nomatch h
  | x :: xs, h, d, hd => by
    unfold smDs at h
    obtain ⟨h1, h2⟩ := Bool.and_eq_true_iff.mp h
    rcases List.mem_cons.mp hd with rfl | hd
    · exact h1
    · exact smDs_mem h2 d hd
theorem atI_nat {α : Type} {xs : List α} {i : Nat} (h : i < xs.length) : L2.atI xs (i : Int) = some xs[i] := by
  unfold L2.atI L2.ixN
  rw [if_pos (by omega), if_pos (by omega)]
  simp [h]
theorem rngD_mem {n : Nat} {d : D} (h : d ∈ rngD 0 n) : ∃ i : Nat, i < n ∧ d = .int i := by
  unfold rngD at h
  obtain ⟨i, hi, rfl⟩ := List.mem_map.mp h
  exact ⟨i, List.mem_range.mp hi, by simp⟩
theorem same_seq (rec : List D → FOut) (w : List D → D) (hw : w = D.tup ∨ w = D.lst) (ds : List D) (hl : ds.length ≤ big) (hr : ∀ d ∈ ds, rec [d, d] = .ok ⟨.bl true, 0⟩) : fnS 3 2 (bSame rec) [w ds, w ds] = .ok ⟨.bl true, 0⟩ := by
  have key : ∀ wd : D, (∀ i : Nat, (h : i < ds.length) → dIx wd (.int i) = some ⟨ds[i], 0⟩) → lcL (.n 2) (some (eNot (eCall rec [e2 dIx (.pk 0) (.pk 2), e2 dIx (.pk 1) (.pk 2)]))) (eVar 2) false [2] (rngD 0 ds.length) [some ⟨wd, 0⟩, some ⟨wd, 0⟩, none] = .ok [] [some ⟨wd, 0⟩, some ⟨wd, 0⟩, none] := by
    intro wd hwd
    rw [lcL_pure (h := fun _ => none)]
    · simp
    · intro d hd
      obtain ⟨i, hi, rfl⟩ := rngD_mem hd
      have h1 := hwd i hi
      have h2 := hr ds[i] (List.getElem_mem hi)
      simp [lc1, go_pk, slot1_ap, h1, h2]
  rw [fnS2]
  rcases hw with rfl | rfl
  · have k := key (.tup ds) fun i h => by simp [dIx, atI_nat h]
    simp [bSame, go_pk, slot1_ap, rng1_ap hl, k]
  · have k := key (.lst ds) fun i h => by simp [dIx, atI_nat h]
    simp [bSame, go_pk, slot1_ap, rng1_ap hl, k]
theorem eqD_refl (x : Str) : eqD (.str x) (.str x) = true := by simp [eqD]
end PL

/-! PL22: _law_same of equals; _law_draw. -/
namespace PL
open PySem
theorem q_str {a : Str} (h : PyData.strOk a = true) : dEq (.str a) (.str a) = vB true := by
  unfold dEq
  simp [okD, h, eqD]
theorem same_refl : ∀ (k : Nat) (d : D), smD k d = true → sSame k [d, d] = .ok ⟨.bl true, 0⟩ := by
  have scal : ∀ (rec : List D → FOut) (d : D), (match d with
      | .non => True
      | .bl _ => True
      | .int _ => True
      | .str x => PyData.strOk x = true
      | _ => False) → fnS 3 2 (bSame rec) [d, d] = .ok ⟨.bl true, 0⟩ := by
    intro rec d hd
    rw [fnS2]
    cases d with
    | non => simp [bSame, go_pk, slot1_ap]
    | bl b => simp [bSame, go_pk, slot1_ap]
    | int i => simp [bSame, go_pk, slot1_ap]
    | str s => simp [bSame, go_pk, slot1_ap, q_str hd]
    | _ => exact hd.elim
  intro k
  induction k with
  | zero =>
    intro d h
    refine scal _ d ?_
    cases d <;> simp_all [smD]
  | succ k ih =>
    intro d h
    show fnS 3 2 (bSame (sSame k)) [d, d] = _
    cases d with
    | tup ds =>
      obtain ⟨h1, h2⟩ := Bool.and_eq_true_iff.mp (by simpa only [smD] using h)
      exact same_seq (sSame k) .tup (.inl rfl) ds (of_decide_eq_true h1) fun d hd => ih d (smDs_mem h2 d hd)
    | lst ds =>
      obtain ⟨h1, h2⟩ := Bool.and_eq_true_iff.mp (by simpa only [smD] using h)
      exact same_seq (sSame k) .lst (.inr rfl) ds (of_decide_eq_true h1) fun d hd => ih d (smDs_mem h2 d hd)
    | non => exact scal _ _ trivial
    | bl b => exact scal _ _ trivial
    | int i => exact scal _ _ trivial
    | str s => exact scal _ _ (by simpa only [smD] using h)
    | dct _ => cases h
    | fn _ => cases h
    | src _ => cases h

/-! ### _law_draw -/
def bDraw : Sx := seq (sIf (eAnd (e2 dEq (.ex (e2 dIx (.pk 0) (.ex (eC (.int 2))))) (.ex (eC (.int 0)))) (e2 dLt (.ex (e2 dIx (.pk 0) (.ex (eC (.int 1))))) (.ex (en oLen [.ex (e2 dIx (.pk 0) (.ex (eC (.int 0))))])))) (seq (sSet 2 false (e2 dIx (.ex (e2 dIx (.pk 0) (.ex (eC (.int 0))))) (.ex (e2 dIx (.pk 0) (.ex (eC (.int 1))))))) (seq (sSetI 0 (eC (.int 1)) (e2 dAdd (.ex (e2 dIx (.pk 0) (.ex (eC (.int 1))))) (.ex (eC (.int 1))))) (seq (sIf (e2 dGe (.pk 2) (.ex (e2 dPow (.ex (eC (.int 10))) (.ex (eC (.int 18)))))) (sSetI 0 (eC (.int 2)) (eVar 2)) (skip)) (sSetI 0 (eC (.int 3)) (e2 dMod (.ex (en oInt [.ex (e2 dAdd (.ex (e2 dAdd (.ex (e2 dMul (.ex (e2 dIx (.pk 0) (.ex (eC (.int 3))))) (.ex (eC (.int 48271))))) (.pk 2))) (.ex (eC (.int 13))))])) (.ex (eC (.int 2147483647)))))))) (skip)) (seq (sIf (e2 dGt (.ex (e2 dIx (.pk 0) (.ex (eC (.int 2))))) (.ex (eC (.int 0)))) (seq (sSet 3 false (e2 dMod (.ex (en oInt [.ex (e2 dIx (.pk 0) (.ex (eC (.int 2))))])) (.pk 1))) (seq (sSetI 0 (eC (.int 2)) (e2 dDiv (.ex (e2 dIx (.pk 0) (.ex (eC (.int 2))))) (.pk 1))) (sRet (eVar 3)))) (skip)) (seq (sSetI 0 (eC (.int 3)) (e2 dMod (.ex (en oInt [.ex (e2 dAdd (.ex (e2 dMul (.ex (e2 dIx (.pk 0) (.ex (eC (.int 3))))) (.ex (eC (.int 69621))))) (.ex (eC (.int 7))))])) (.ex (eC (.int 2147483629))))) (sRet (e2 dMod (.ex (en oInt [.ex (e2 dDiv (.ex (e2 dIx (.pk 0) (.ex (eC (.int 3))))) (.ex (eC (.int 11))))])) (.pk 1)))))
def drawD (ns : List Int) (i c s : Int) : Val := ⟨.lst [.lst (ns.map .int), .int i, .int c, .int s], 1⟩
/-- the state of the drawing -/
def Dw (v : Val) : Prop := ∃ ns i c s, v = drawD ns i c s ∧ 0 ≤ i ∧ 0 ≤ c ∧ 0 ≤ s ∧ s < 2147483647

section
variable {g g1 : Env} {i : Nat} {fk fv : Ex} {d k : D} {ds ds' : List D} {a b c e x : D}
def setH (i : Nat) (k d : D) (g : Env) : SOut := match g[i]? with
  | some (some ⟨.lst ds, 1⟩) => match setL ds k d with
    | some ds' => .nx (g.set i (some ⟨.lst ds', 1⟩))
    | none => .bad
  | _ => .bad
def setG (i : Nat) (fk : Ex) (d : D) (g : Env) : SOut := match g[i]? with
  | some (some ⟨.lst _, 1⟩) => bindE (fk g) fun k g2 => setH i k.d d g2
  | _ => .bad
@[simp] theorem sSetI_ap : sSetI i fk fv g = bindE (fv g) fun v g1 => setG i fk v.d g1 := nr rfl
theorem setG_ap (h : g[i]? = some (some ⟨.lst ds, 1⟩)) : setG i fk d g = bindE (fk g) fun k g2 => setH i k.d d g2 := by
  unfold setG
  simp only [h]
theorem setH_ap (h : g[i]? = some (some ⟨.lst ds, 1⟩)) : setH i k d g = (match setL ds k d with
    | some ds' => .nx (g.set i (some ⟨.lst ds', 1⟩))
    | none => .bad) := by
  unfold setH
  simp only [h]
theorem setL4_1 : setL [a, b, c, e] (.int 1) x = some [a, x, c, e] := rfl
theorem setL4_2 : setL [a, b, c, e] (.int 2) x = some [a, b, x, e] := rfl
theorem setL4_3 : setL [a, b, c, e] (.int 3) x = some [a, b, c, x] := rfl
theorem ix4_0 : dIx (.lst [a, b, c, e]) (.int 0) = some ⟨a, 0⟩ := rfl
theorem ix4_1 : dIx (.lst [a, b, c, e]) (.int 1) = some ⟨b, 0⟩ := rfl
theorem ix4_2 : dIx (.lst [a, b, c, e]) (.int 2) = some ⟨c, 0⟩ := rfl
theorem ix4_3 : dIx (.lst [a, b, c, e]) (.int 3) = some ⟨e, 0⟩ := rfl
theorem dMod_ap {i j : Int} (h : 0 < j) : dMod (.int i) (.int j) = vI (i % j) := by
  unfold dMod
  simp only
  rw [if_pos h]
theorem dMul_ap {i j : Int} (h : i.natAbs.log2 + j.natAbs.log2 < 1000000) : dMul (.int i) (.int j) = vI (i * j) := by
  unfold dMul
  simp only
  rw [if_pos h]
theorem log2_sm {i : Int} {n : Nat} (h : i.natAbs < 2 ^ n) : i.natAbs.log2 ≤ n := by
  by_cases z : i.natAbs = 0
  · rw [z]; simp
  · exact Nat.le_of_lt ((Nat.log2_lt z).mpr h)
theorem dMul_sm {i j : Int} (h1 : i.natAbs < 2 ^ 400000) (h2 : j.natAbs < 2 ^ 400000) : dMul (.int i) (.int j) = vI (i * j) := by
  have a := log2_sm h1
  have b := log2_sm h2
  exact dMul_ap (by omega)
theorem dDiv_ap {i j : Int} (h : 0 < j) (h2 : j < 1000000) : dDiv (.int i) (.int j) = vI (i / j) := by
  have : j.natAbs.log2 ≤ 20 := log2_sm (by omega)
  unfold dDiv
  simp only
  rw [if_pos ⟨h, by omega⟩]
end
def ioO (o : SOut) : FIO := match o with
  | .ret v g => (match g[0]? with
    | some (some io') => .ok v io'
    | _ => .bad)
  | .nx g => (match g[0]? with
    | some (some io') => .ok ⟨.non, 0⟩ io'
    | _ => .bad)
  | .exc x _ => .exc x
  | _ => .bad
@[simp] theorem ioO_ret {v io : Val} {g : Env} : ioO (.ret v (some io :: g)) = .ok v io := nr rfl
@[simp] theorem ioO_nx {io : Val} {g : Env} : ioO (.nx (some io :: g)) = .ok ⟨.non, 0⟩ io := nr rfl
theorem fnIO1 {n : Nat} {b : Sx} {io : Val} {d : D} : fnIO n 1 b io [d] = ioO (b (some io :: some ⟨d, 0⟩ :: List.replicate (n - 2) none)) := rfl
theorem fnIO0 {n : Nat} {b : Sx} {io : Val} : fnIO n 0 b io [] = ioO (b (some io :: List.replicate (n - 1) none)) := rfl
theorem p400 : (2147483648 : Nat) ≤ 2 ^ 400000 := by
  have : (2147483648 : Nat) = 2 ^ 31 := by decide
  rw [this]
  exact Nat.pow_le_pow_right (by decide) (by omega)
theorem big400 {i : Nat} (h : i < 2147483648) : i < 2 ^ 400000 := Nat.lt_of_lt_of_le h p400
/-- the latter part of a draw -/
def bLate : Sx := seq (sIf (e2 dGt (.ex (e2 dIx (.pk 0) (.ex (eC (.int 2))))) (.ex (eC (.int 0)))) (seq (sSet 3 false (e2 dMod (.ex (en oInt [.ex (e2 dIx (.pk 0) (.ex (eC (.int 2))))])) (.pk 1))) (seq (sSetI 0 (eC (.int 2)) (e2 dDiv (.ex (e2 dIx (.pk 0) (.ex (eC (.int 2))))) (.pk 1))) (sRet (eVar 3)))) (skip)) (seq (sSetI 0 (eC (.int 3)) (e2 dMod (.ex (en oInt [.ex (e2 dAdd (.ex (e2 dMul (.ex (e2 dIx (.pk 0) (.ex (eC (.int 3))))) (.ex (eC (.int 69621))))) (.ex (eC (.int 7))))])) (.ex (eC (.int 2147483629))))) (sRet (e2 dMod (.ex (en oInt [.ex (e2 dDiv (.ex (e2 dIx (.pk 0) (.ex (eC (.int 3))))) (.ex (eC (.int 11))))])) (.pk 1))))
theorem late_ok {ns : List Int} {lim : Int} (h0 : 0 < lim) (h1 : lim < 1000000) (i c s : Int) (x y : Option Val) (hi : 0 ≤ i) (hc : 0 ≤ c) (hs : 0 ≤ s) (hs2 : s < 2147483647) :
    ∃ (r : Int) (v' : Val), ioO (bLate [some (drawD ns i c s), some ⟨.int lim, 0⟩, x, y]) = .ok ⟨.int r, 0⟩ v' ∧ Dw v' ∧ 0 ≤ r ∧ r < lim := by
  have m1 : dMul (.int s) (.int 69621) = vI (s * 69621) := dMul_sm (big400 (by omega)) (big400 (by decide))
  by_cases hp : 0 < c
  · refine ⟨c % lim, drawD ns i (c / lim) s, ?_, ⟨ns, i, c / lim, s, rfl, hi, Int.ediv_nonneg hc (by omega), hs, hs2⟩, Int.emod_nonneg _ (by omega), Int.emod_lt_of_pos _ h0⟩
    simp [bLate, drawD, go_pk, slot1_ap, slot1_ap1, ix4_2, hp, dMod_ap h0, dDiv_ap h0 h1, setG_ap, setH_ap, setL4_2, eVar_ap]
  · refine ⟨(s * 69621 + 7) % 2147483629 / 11 % lim, drawD ns i c ((s * 69621 + 7) % 2147483629), ?_, ⟨ns, i, c, _, rfl, hi, hc, Int.emod_nonneg _ (by decide), by omega⟩, Int.emod_nonneg _ (by omega), Int.emod_lt_of_pos _ h0⟩
    simp [bLate, drawD, go_pk, slot1_ap, slot1_ap1, ix4_2, ix4_3, hp, dMod_ap h0, dMod_ap (show (0 : Int) < 2147483629 by decide), dDiv_ap (show (0 : Int) < 11 by decide) (show (11 : Int) < 1000000 by decide), setG_ap, setH_ap, setL4_3, m1]
theorem dPow_18 : dPow (.int 10) (.int 18) = vI 1000000000000000000 := by rfl
/-- a draw -/
theorem draw_ok {v : Val} (h : Dw v) {lim : Int} (h0 : 0 < lim) (h1 : lim < 1000000) : ∃ (r : Int) (v' : Val), fnIO 4 1 bDraw v [.int lim] = .ok ⟨.int r, 0⟩ v' ∧ Dw v' ∧ 0 ≤ r ∧ r < lim := by
  obtain ⟨ns, i, c, s, rfl, hi, hc, hs, hs2⟩ := h
  rw [fnIO1]
  by_cases hq : c = 0 ∧ i < ns.length
  · obtain ⟨rfl, hl⟩ := hq
    obtain ⟨j, rfl⟩ := Int.eq_ofNat_of_zero_le hi
    have hj : j < ns.length := by omega
    have ex : dIx (.lst (ns.map .int)) (.int (j : Int)) = some ⟨.int ns[j], 0⟩ := by
      unfold dIx
      simp only [atI_nat (xs := ns.map D.int) (i := j) (by simpa using hj)]
      simp
    have m1 : dMul (.int s) (.int 48271) = vI (s * 48271) := dMul_sm (big400 (by omega)) (big400 (by decide))
    by_cases hb : 1000000000000000000 ≤ ns[j]
    · obtain ⟨r, v', e, q⟩ := late_ok (ns := ns) h0 h1 ((j : Int) + 1) ns[j] ((s * 48271 + ns[j] + 13) % 2147483647) (some ⟨.int ns[j], 0⟩) none (by omega) (by omega) (Int.emod_nonneg _ (by decide)) (Int.emod_lt_of_pos _ (by decide))
      refine ⟨r, v', ?_, q⟩
      rw [← e]
      simp [bDraw, bLate, drawD, go_pk, slot1_ap, slot1_ap1, ix4_0, ix4_1, ix4_2, ix4_3, hl, ex, hb, dMod_ap (show (0 : Int) < 2147483647 by decide), setG_ap, setH_ap, setL4_1, setL4_2, setL4_3, m1, eVar_ap, dPow_18]
    · obtain ⟨r, v', e, q⟩ := late_ok (ns := ns) h0 h1 ((j : Int) + 1) 0 ((s * 48271 + ns[j] + 13) % 2147483647) (some ⟨.int ns[j], 0⟩) none (by omega) (by omega) (Int.emod_nonneg _ (by decide)) (Int.emod_lt_of_pos _ (by decide))
      refine ⟨r, v', ?_, q⟩
      rw [← e]
      simp [bDraw, bLate, drawD, go_pk, slot1_ap, slot1_ap1, ix4_0, ix4_1, ix4_2, ix4_3, hl, ex, hb, dMod_ap (show (0 : Int) < 2147483647 by decide), setG_ap, setH_ap, setL4_1, setL4_2, setL4_3, m1, eVar_ap, dPow_18]
  · obtain ⟨r, v', e, q⟩ := late_ok (ns := ns) h0 h1 i c s none none hi hc hs hs2
    refine ⟨r, v', ?_, q⟩
    rw [← e]
    by_cases hc0 : c = 0
    · have hl : ¬ i < ns.length := fun z => hq ⟨hc0, z⟩
      simp [bDraw, bLate, drawD, go_pk, slot1_ap, slot1_ap1, ix4_0, ix4_1, ix4_2, ix4_3, hc0, hl]
    · simp [bDraw, bLate, drawD, go_pk, slot1_ap, slot1_ap1, ix4_0, ix4_1, ix4_2, ix4_3, hc0]
def bDraws : Sx := sRet (eLst [en oList [.pk 0], eC (.int 0), eC (.int 0), eC (.int 1)])
theorem draws_ok {ns : List Int} : ∃ v, fnS 1 1 bDraws [.src ns] = .ok v ∧ Dw v := by
  refine ⟨drawD ns 0 0 1, ?_, ns, 0, 0, 1, rfl, by decide, by decide, by decide, by decide⟩
  rw [fnS1]
  simp [bDraws, drawD, go_pk, slot1_ap]
end PL

namespace Law
open PySem PySem.Spec PySem.Calls L2 PL
def top (i : Nat) : Stmt := PySem.Challenge.pw_pencilrows_k19_whole_heights_that_are_se.main.body.getD i (.Pass ⟨0, 0, 0, 0⟩)
abbrev st__law_draws : Stmt := top 18
abbrev st__law_same : Stmt := top 20
abbrev st__law_rows : Stmt := top 21
abbrev st__law_draw : Stmt := top 19
abbrev st__law_counts : Stmt := top 24
abbrev st_is_whole : Stmt := top 4
abbrev st_is_size : Stmt := top 7
abbrev st_look_at_seen : Stmt := top 11
abbrev st_all_rows : Stmt := top 9
abbrev st_seen : Stmt := top 8
abbrev st_rows_seen : Stmt := top 10
abbrev st_bounds_for : Stmt := top 16
abbrev st_look_at_count : Stmt := top 12
abbrev st_choose : Stmt := top 14
abbrev st_count_seen : Stmt := top 13
abbrev st_count_both : Stmt := top 15
abbrev st__law_asked : Stmt := top 23
abbrev st__law_seen : Stmt := top 22
abbrev st_law : Stmt := top 25
def catP : Nat → Bool := fun _ => true
def body__law_draws : Sx := sRet (eLst [en oList [.pk 0], eC (.int 0), eC (.int 0), eC (.int 1)])
def sem__law_draws : List D → FOut := fnS 1 1 body__law_draws
def body__law_same (rec : List D → FOut) : Sx := seq (sIf (eOr (e1 (dIsi "tuple") (.pk 1)) (e1 (dIsi "list") (.pk 1))) (seq (sIf (eOr (e2 dNe (.ex (e1 (dIsi "tuple") (.pk 1))) (.ex (e1 (dIsi "tuple") (.pk 0)))) (e2 dNe (.ex (e1 (dIsi "list") (.pk 1))) (.ex (e1 (dIsi "list") (.pk 0))))) (sRet (eC (.bl false))) (skip)) (seq (sIf (e2 dNe (.ex (en oLen [.pk 0])) (.ex (en oLen [.pk 1]))) (sRet (eC (.bl false))) (skip)) (sRet (e2 dEq (.ex (en oLen [.ex (eLc (iR1 (en oLen [.pk 1])) (.n 2) (some (eNot (eCall rec [e2 dIx (.pk 0) (.pk 2), e2 dIx (.pk 1) (.pk 2)]))) (eVar 2) false [2] [])])) (.ex (eC (.int 0))))))) (skip)) (seq (sIf (e1 (dIsi "str") (.pk 1)) (sRet (eAnd (e1 (dIsi "str") (.pk 0)) (e2 dEq (.pk 0) (.pk 1)))) (skip)) (seq (sIf (e2 dIs (.pk 1) (.ex (eC .non))) (sRet (e2 dIs (.pk 0) (.ex (eC .non)))) (skip)) (seq (sIf (eOr (e1 (dIsi "bool") (.pk 1)) (e1 (dIsi "bool") (.pk 0))) (sRet (eAnd (e1 (dIsi "bool") (.pk 1)) (eAnd (e1 (dIsi "bool") (.pk 0)) (e2 dEq (.pk 0) (.pk 1))))) (skip)) (sRet (eAnd (e1 (dIsi "int") (.pk 0)) (eAnd (e1 (dIsi "int") (.pk 1)) (e2 dEq (.pk 0) (.pk 1))))))))
def sem__law_same : Nat → List D → FOut
  | 0 => fnS 3 2 (body__law_same fun _ => .bad)
  | k + 1 => fnS 3 2 (body__law_same (sem__law_same k))
def body__law_rows : Sx := seq (sSet 1 false (eLst [eTup []])) (seq (sFor (iR1 (eVar 0)) (.n 2) (seq (sSet 3 false (eLst [])) (seq (sFor (iV (eVar 1)) (.n 4) (sSet 3 false (e2 dAdd (.pk 3) (.ex (eLc (iR2 (eC (.int 1)) (e2 dAdd (.pk 0) (.ex (eC (.int 1))))) (.n 5) (some (e2 dNin (.pk 5) (.pk 4))) (e2 dAdd (.pk 4) (.ex (eTup [eVar 5]))) false [5] [])))) [4]) (sSet 1 false (eVar 3)))) [2, 3, 4]) (sRet (eVar 1)))
def sem__law_rows : List D → FOut := fnS 6 1 body__law_rows
def body__law_draw : Sx := seq (sIf (eAnd (e2 dEq (.ex (e2 dIx (.pk 0) (.ex (eC (.int 2))))) (.ex (eC (.int 0)))) (e2 dLt (.ex (e2 dIx (.pk 0) (.ex (eC (.int 1))))) (.ex (en oLen [.ex (e2 dIx (.pk 0) (.ex (eC (.int 0))))])))) (seq (sSet 2 false (e2 dIx (.ex (e2 dIx (.pk 0) (.ex (eC (.int 0))))) (.ex (e2 dIx (.pk 0) (.ex (eC (.int 1))))))) (seq (sSetI 0 (eC (.int 1)) (e2 dAdd (.ex (e2 dIx (.pk 0) (.ex (eC (.int 1))))) (.ex (eC (.int 1))))) (seq (sIf (e2 dGe (.pk 2) (.ex (e2 dPow (.ex (eC (.int 10))) (.ex (eC (.int 18)))))) (sSetI 0 (eC (.int 2)) (eVar 2)) (skip)) (sSetI 0 (eC (.int 3)) (e2 dMod (.ex (en oInt [.ex (e2 dAdd (.ex (e2 dAdd (.ex (e2 dMul (.ex (e2 dIx (.pk 0) (.ex (eC (.int 3))))) (.ex (eC (.int 48271))))) (.pk 2))) (.ex (eC (.int 13))))])) (.ex (eC (.int 2147483647)))))))) (skip)) (seq (sIf (e2 dGt (.ex (e2 dIx (.pk 0) (.ex (eC (.int 2))))) (.ex (eC (.int 0)))) (seq (sSet 3 false (e2 dMod (.ex (en oInt [.ex (e2 dIx (.pk 0) (.ex (eC (.int 2))))])) (.pk 1))) (seq (sSetI 0 (eC (.int 2)) (e2 dDiv (.ex (e2 dIx (.pk 0) (.ex (eC (.int 2))))) (.pk 1))) (sRet (eVar 3)))) (skip)) (seq (sSetI 0 (eC (.int 3)) (e2 dMod (.ex (en oInt [.ex (e2 dAdd (.ex (e2 dMul (.ex (e2 dIx (.pk 0) (.ex (eC (.int 3))))) (.ex (eC (.int 69621))))) (.ex (eC (.int 7))))])) (.ex (eC (.int 2147483629))))) (sRet (e2 dMod (.ex (en oInt [.ex (e2 dDiv (.ex (e2 dIx (.pk 0) (.ex (eC (.int 3))))) (.ex (eC (.int 11))))])) (.pk 1)))))
def sem__law_draw : Val → List D → FIO := fnIO 4 1 body__law_draw
def body__law_counts : Sx := seq (sSet 1 false (eLst [eC (.int 1)])) (seq (sFor (iR1 (eVar 0)) (.n 2) (seq (sSet 3 true (e2 dMul (.ex (eLst [eC (.int 0)])) (.ex (e2 dAdd (.ex (en oLen [.pk 1])) (.ex (eC (.int 1))))))) (seq (sFor (iR1 (en oLen [.pk 1])) (.n 4) (seq (sSetI 3 (e2 dAdd (.pk 4) (.ex (eC (.int 1)))) (e2 dAdd (.ex (e2 dIx (.pk 3) (.ex (e2 dAdd (.pk 4) (.ex (eC (.int 1))))))) (.ex (e2 dIx (.pk 1) (.pk 4))))) (sSetI 3 (eVar 4) (e2 dAdd (.ex (e2 dIx (.pk 3) (.pk 4))) (.ex (e2 dMul (.pk 2) (.ex (e2 dIx (.pk 1) (.pk 4)))))))) [4]) (sSet 1 false (eVar 3)))) [2, 3, 4]) (sRet (eVar 1)))
def sem__law_counts : List D → FOut := fnS 5 1 body__law_counts
def body_is_whole : Sx := sRet (eAnd (e1 (dIsi "int") (.pk 0)) (eNot (e1 (dIsi "bool") (.pk 0))))
def sem_is_whole : List D → FOut := fnS 1 1 body_is_whole
def body_is_size : Sx := sRet (eAnd (eCall sem_is_whole [eVar 0]) (e3 dLe dLe (.ex (eC (.int 1))) (.pk 0) (.ex (eC (.int 6)))))
def sem_is_size : List D → FOut := fnS 1 1 body_is_size
def body_look_at_seen : Sx := sIf (eOr (eNot (eCall sem_is_size [eVar 0])) (eNot (en oAll [.ex (eLc (iV (eTup [eVar 1, eVar 2])) (.n 3) none (eAnd (eCall sem_is_whole [eVar 3]) (e3 dLe dLe (.ex (eC (.int 0))) (.pk 3) (.pk 0))) false [3] [])]))) (sRaise ⟨0, noW⟩) (skip)
def sem_look_at_seen : List D → FOut := fnS 4 3 body_look_at_seen
def body_all_rows : Sx := seq (sIf (eNot (eCall sem_is_size [eVar 0])) (sRaise ⟨0, noW⟩) (skip)) (seq (sSet 1 false (eLst [eTup []])) (seq (sFor (iR1 (eVar 0)) (.n 2) (sSet 1 false (eLc2 (iV (eVar 1)) (.n 3) none (iR2 (eC (.int 1)) (e2 dAdd (.pk 0) (.ex (eC (.int 1))))) (.n 4) (some (e2 dNin (.pk 4) (.pk 3))) (e2 dAdd (.pk 3) (.ex (eTup [eVar 4]))) false [3, 4] [4] [])) [2]) (sRet (en oTuple [.pk 1]))))
def sem_all_rows : List D → FOut := fnS 5 1 body_all_rows
def body_seen : Sx := seq (sAsg (.t [.n 1, .n 2]) (eTup [eC (.int 0), eC (.int 0)])) (seq (sFor (iV (eVar 0)) (.n 3) (sIf (e2 dGt (.pk 3) (.pk 1)) (sPar [(1, false), (2, false)] [eVar 3, e2 dAdd (.pk 2) (.ex (eC (.int 1)))]) (skip)) [3]) (sRet (eVar 2)))
def sem_seen : List D → FOut := fnS 4 1 body_seen
def body_rows_seen : Sx := seq (sEx (eCall sem_look_at_seen [eVar 0, eVar 1, eVar 2])) (sRet (en oTuple [.ex (eLc (iV (eCall sem_all_rows [eVar 0])) (.n 3) (some (eAnd (e2 dIn (.pk 1) (.ex (eTup [eC (.int 0), eCall sem_seen [eVar 3]]))) (e2 dIn (.pk 2) (.ex (eTup [eC (.int 0), eCall sem_seen [e1 dRev (.pk 3)]]))))) (eVar 3) false [3] [])]))
def sem_rows_seen : List D → FOut := fnS 4 3 body_rows_seen
def body_bounds_for : Sx := seq (sEx (eCall sem_look_at_seen [eVar 0, eVar 1, eC (.int 0)])) (seq (sIf (eOr (eNot (eCall sem_is_whole [eVar 2])) (eOr (eNot (e3 dLe dLt (.ex (eC (.int 0))) (.pk 2) (.pk 0))) (e2 dEq (.pk 1) (.ex (eC (.int 0)))))) (sRaise ⟨0, noW⟩) (skip)) (seq (sIf (eAnd (e2 dEq (.pk 1) (.ex (eC (.int 1)))) (e2 dGt (.pk 2) (.ex (eC (.int 0))))) (sRet (e2 dSub (.pk 0) (.ex (eC (.int 1))))) (skip)) (sRet (en oMin [.pk 0, .ex (e2 dAdd (.ex (e2 dAdd (.ex (e2 dSub (.pk 0) (.pk 1))) (.ex (eC (.int 1))))) (.pk 2))]))))
def sem_bounds_for : List D → FOut := fnS 3 3 body_bounds_for
def body_look_at_count : Sx := sIf (eOr (eNot (eCall sem_is_whole [eVar 0])) (eOr (eNot (e3 dLe dLe (.ex (eC (.int 0))) (.pk 0) (.ex (eC (.int 40))))) (eOr (eNot (eCall sem_is_whole [eVar 1])) (e2 dLt (.pk 1) (.ex (eC (.int 0))))))) (sRaise ⟨0, noW⟩) (skip)
def sem_look_at_count : List D → FOut := fnS 2 2 body_look_at_count
def body_choose : Sx := seq (sIf (eNot (e3 dLe dLe (.ex (eC (.int 0))) (.pk 1) (.pk 0))) (sRet (eC (.int 0))) (skip)) (seq (sSet 2 false (eC (.int 1))) (seq (sFor (iR1 (eVar 1)) (.n 3) (sSet 2 false (e2 dDiv (.ex (e2 dMul (.pk 2) (.ex (e2 dSub (.pk 0) (.pk 3))))) (.ex (e2 dAdd (.pk 3) (.ex (eC (.int 1))))))) [3]) (sRet (eVar 2))))
def sem_choose : List D → FOut := fnS 4 2 body_choose
def body_count_seen : Sx := seq (sEx (eCall sem_look_at_count [eVar 0, eVar 1])) (seq (sSet 2 false (eLst [eC (.int 1)])) (seq (sFor (iR1 (eVar 0)) (.n 3) (sSet 2 false (eLc (iR1 (e2 dAdd (.ex (en oLen [.pk 2])) (.ex (eC (.int 1))))) (.n 4) none (e2 dAdd (.ex (e2 dMul (.pk 3) (.ex (eIf (e2 dLt (.pk 4) (.ex (en oLen [.pk 2]))) (e2 dIx (.pk 2) (.pk 4)) (eC (.int 0)))))) (.ex (eIf (e2 dGt (.pk 4) (.ex (eC (.int 0)))) (e2 dIx (.pk 2) (.ex (e2 dSub (.pk 4) (.ex (eC (.int 1)))))) (eC (.int 0))))) false [4] [])) [3]) (sRet (eIf (e2 dLt (.pk 1) (.ex (en oLen [.pk 2]))) (e2 dIx (.pk 2) (.pk 1)) (eC (.int 0))))))
def sem_count_seen : List D → FOut := fnS 5 2 body_count_seen
def body_count_both : Sx := seq (sEx (eCall sem_look_at_count [eVar 0, eVar 1])) (seq (sEx (eCall sem_look_at_count [eVar 0, eVar 2])) (seq (sIf (eOr (e2 dEq (.pk 0) (.ex (eC (.int 0)))) (eOr (e2 dEq (.pk 1) (.ex (eC (.int 0)))) (e2 dEq (.pk 2) (.ex (eC (.int 0)))))) (sRet (en oInt [.ex (eAnd (e2 dEq (.pk 0) (.ex (eC (.int 0)))) (eAnd (e2 dEq (.pk 1) (.ex (eC (.int 0)))) (e2 dEq (.pk 2) (.ex (eC (.int 0))))))])) (skip)) (sRet (e2 dMul (.ex (eCall sem_choose [e2 dSub (.ex (e2 dAdd (.pk 1) (.pk 2))) (.ex (eC (.int 2))), e2 dSub (.pk 1) (.ex (eC (.int 1)))])) (.ex (eCall sem_count_seen [e2 dSub (.pk 0) (.ex (eC (.int 1))), e2 dSub (.ex (e2 dAdd (.pk 1) (.pk 2))) (.ex (eC (.int 2)))]))))))
def sem_count_both : List D → FOut := fnS 3 3 body_count_both
def body__law_asked : Sx := sTry (seq (sIf (e2 dEq (.pk 0) (.ex (eC (.int 0)))) (sRet (eCall sem_rows_seen [eVar 1, eVar 2, eVar 3])) (skip)) (sRet (eIf (e2 dEq (.pk 0) (.ex (eC (.int 1)))) (eCall sem_bounds_for [eVar 1, eVar 2, eVar 3]) (eIf (e2 dEq (.pk 0) (.ex (eC (.int 2)))) (eCall sem_count_both [eVar 1, eVar 2, eVar 3]) (eIf (e2 dEq (.pk 0) (.ex (eC (.int 3)))) (eCall sem_count_seen [eVar 1, eVar 2]) (eCall sem_all_rows [eVar 1])))))) catP 4 (fun _ => sRet (eIf (eC (.bl true)) (eC (.str "puzzle")) (eC (.str "other"))))
def sem__law_asked : List D → FOut := fnS 5 4 body__law_asked
def body__law_seen : Sx := sRet (en oLen [.ex (eLc (iR1 (en oLen [.pk 0])) (.n 1) (some (en oAll [.ex (eLc (iV (en (oSl false true) [.pk 0, .pk 1])) (.n 2) none (e2 dLt (.pk 2) (.ex (e2 dIx (.pk 0) (.pk 1)))) false [2] [])])) (eVar 1) false [1] [])])
def sem__law_seen : List D → FOut := fnS 3 1 body__law_seen
def body_law : Sx := seq (sSet 1 true (eCall sem__law_draws [eVar 0])) (seq (sFor (iR1 (eC (.int 3))) (.n 2) (seq (sSet 3 false (e2 dAdd (.ex (eC (.int 1))) (.ex (eCallIO sem__law_draw 1 [eC (.int 6)])))) (seq (sSet 4 false (eCall sem__law_rows [eVar 3])) (seq (sAsg (.t [.n 5, .n 6]) (eTup [eCallIO sem__law_draw 1 [e2 dAdd (.pk 3) (.ex (eC (.int 1)))], eCallIO sem__law_draw 1 [e2 dAdd (.pk 3) (.ex (eC (.int 1)))]])) (seq (sSet 7 false (en oTuple [.ex (eLc (iV (eVar 4)) (.n 9) (some (eAnd (e2 dIn (.pk 5) (.ex (eTup [eC (.int 0), eCall sem__law_seen [eVar 9]]))) (e2 dIn (.pk 6) (.ex (eTup [eC (.int 0), eCall sem__law_seen [e1 dRev (.pk 9)]]))))) (eVar 9) false [9] [9])])) (seq (sFor (iR1 (eC (.int 2))) (.n 8) (sIf (eNot (eCall (sem__law_same 8) [eLst [eCall sem__law_asked [eC (.int 0), eVar 3, eVar 5, eVar 6], eCall sem__law_asked [eC (.int 4), eVar 3, eC .non, eC .non]], eLst [eVar 7, en oTuple [.pk 4]]])) (sRet (eC (.bl false))) (skip)) [8]) (seq (sSet 9 false (e2 dIx (.pk 4) (.ex (eCallIO sem__law_draw 1 [en oLen [.pk 4]])))) (seq (sIf (eOr (eNot (eCall (sem__law_same 8) [eCall sem_seen [eVar 9], eCall sem__law_seen [eVar 9]])) (eNot (eCall (sem__law_same 8) [eCall sem_seen [e2 dAdd (.pk 9) (.pk 9)], eCall sem__law_seen [eVar 9]]))) (sRet (eC (.bl false))) (skip)) (seq (sAsg (.t [.n 10, .n 11]) (eTup [eCallIO sem__law_draw 1 [e2 dAdd (.pk 3) (.ex (eC (.int 2)))], eCallIO sem__law_draw 1 [e2 dAdd (.pk 3) (.ex (eC (.int 2)))]])) (seq (sSet 12 false (en oLen [.ex (eLc (iV (eVar 4)) (.n 9) (some (eAnd (e2 dEq (.ex (eCall sem__law_seen [eVar 9])) (.pk 10)) (e2 dEq (.ex (eCall sem__law_seen [e1 dRev (.pk 9)])) (.pk 11)))) (eVar 9) false [9] [9])])) (seq (sIf (eNot (eCall (sem__law_same 8) [eLst [eCall sem__law_asked [eC (.int 2), eVar 3, eVar 10, eVar 11], eCall sem__law_asked [eC (.int 3), eVar 3, eVar 10, eC .non]], eLst [eVar 12, en oLen [.ex (eLc (iV (eVar 4)) (.n 9) (some (e2 dEq (.ex (eCall sem__law_seen [eVar 9])) (.pk 10))) (eVar 9) false [9] [9])]]])) (sRet (eC (.bl false))) (skip)) (seq (sIf (e2 dGt (.pk 5) (.ex (eC (.int 0)))) (seq (sSet 13 false (eCallIO sem__law_draw 1 [eVar 3])) (sIf (eNot (eCall (sem__law_same 8) [eCall sem__law_asked [eC (.int 1), eVar 3, eVar 5, eVar 13], en oMax [.ex (eLc (iV (eVar 4)) (.n 9) (some (e2 dEq (.ex (eCall sem__law_seen [eVar 9])) (.pk 5))) (e2 dIx (.pk 9) (.pk 13)) false [9] [9])]])) (sRet (eC (.bl false))) (skip))) (skip)) (seq (sSet 14 false (eCallIO sem__law_draw 1 [eC (.int 41)])) (seq (sSet 15 false (eCall sem__law_counts [eVar 14])) (seq (sIf (eNot (eCall (sem__law_same 8) [eLc (iR1 (e2 dAdd (.pk 14) (.ex (eC (.int 2))))) (.n 16) none (eCall sem__law_asked [eC (.int 3), eVar 14, eVar 16, eC .non]) false [16] [16], e2 dAdd (.pk 15) (.ex (eLst [eC (.int 0)]))])) (sRet (eC (.bl false))) (skip)) (seq (sIf (e2 dGt (.pk 14) (.ex (eC (.int 0)))) (seq (sSet 16 false (e2 dAdd (.ex (eC (.int 1))) (.ex (eCallIO sem__law_draw 1 [eVar 14])))) (seq (sSet 17 false (eLc (iR1 (e2 dAdd (.pk 14) (.ex (eC (.int 1))))) (.n 18) none (eCall sem_count_both [eVar 14, eVar 16, eVar 18]) false [18] [])) (sIf (eOr (e2 dNe (.ex (en oSum [.pk 17])) (.ex (e2 dIx (.pk 15) (.pk 16)))) (e2 dNe (.pk 17) (.ex (eLc (iR1 (e2 dAdd (.pk 14) (.ex (eC (.int 1))))) (.n 18) none (eCall sem_count_both [eVar 14, eVar 18, eVar 16]) false [18] [])))) (sRet (eC (.bl false))) (skip)))) (skip)) (seq (sIf (eOr (e2 dNe (.ex (eCall sem__law_asked [eCallIO sem__law_draw 1 [eC (.int 2)], eVar 3, e2 dIx (.ex (eLst [e2 dAdd (.pk 3) (.ex (eC (.int 1))), e1 dNeg (.ex (eC (.int 1))), eC .non, eC (.bl true)])) (.ex (eCallIO sem__law_draw 1 [eC (.int 4)])), eC (.int 0)])) (.ex (eC (.str "puzzle")))) (e2 dNe (.ex (eCall sem__law_asked [eC (.int 1), eVar 3, eC (.int 1), e2 dIx (.ex (eLst [eVar 3, e1 dNeg (.ex (eC (.int 1))), eC .non, eC (.bl true)])) (.ex (eCallIO sem__law_draw 1 [eC (.int 4)]))])) (.ex (eC (.str "puzzle"))))) (sRet (eC (.bl false))) (skip)) (seq (sIf (e2 dNe (.ex (eCall sem__law_asked [e2 dIx (.ex (eLst [eC (.int 0), eC (.int 1), eC (.int 4)])) (.ex (eCallIO sem__law_draw 1 [eC (.int 3)])), e2 dIx (.ex (eLst [eC (.int 0), eC (.int 7), eC .non, eC (.bl true)])) (.ex (eCallIO sem__law_draw 1 [eC (.int 4)])), eC (.int 1), eC (.int 0)])) (.ex (eC (.str "puzzle")))) (sRet (eC (.bl false))) (skip)) (seq (sIf (e2 dNe (.ex (eCall sem__law_asked [e2 dAdd (.ex (eC (.int 2))) (.ex (eCallIO sem__law_draw 1 [eC (.int 2)])), e2 dIx (.ex (eLst [eC (.int 41), e1 dNeg (.ex (eC (.int 1))), eC .non, eC (.bl true)])) (.ex (eCallIO sem__law_draw 1 [eC (.int 4)])), eC (.int 1), eC (.int 1)])) (.ex (eC (.str "puzzle")))) (sRet (eC (.bl false))) (skip)) (sIf (eOr (e2 dNe (.ex (eCall sem__law_asked [e2 dAdd (.ex (eC (.int 2))) (.ex (eCallIO sem__law_draw 1 [eC (.int 2)])), eC (.int 5), e2 dIx (.ex (eLst [e1 dNeg (.ex (eC (.int 1))), eC .non, eC (.bl true)])) (.ex (eCallIO sem__law_draw 1 [eC (.int 3)])), eC (.int 1)])) (.ex (eC (.str "puzzle")))) (e2 dNe (.ex (eCall sem__law_asked [eC (.int 1), eVar 3, eC (.int 0), eC (.int 0)])) (.ex (eC (.str "puzzle"))))) (sRet (eC (.bl false))) (skip)))))))))))))))))))) [2, 3, 4, 5, 6, 7, 8, 9, 10, 11, 12, 13, 14, 15, 16, 17]) (sRet (eCall (sem__law_same 8) [eLst [eCall sem_count_both [eC (.int 0), eC (.int 0), eC (.int 0)], eCall sem_count_both [eC (.int 3), eC (.int 0), eC (.int 1)], eCall sem_seen [eTup []]], eLst [eC (.int 1), eC (.int 0), eC (.int 0)]])))
def sem_law : List D → FOut := fnS 19 1 body_law
def d__law_draws : He.DefD := ⟨("_law_draws", none), "_law_draws", "_law_draws", defArgs st__law_draws, defBody st__law_draws, defScope st__law_draws, [], []⟩
def d__law_same : He.DefD := ⟨("_law_same", none), "_law_same", "_law_same", defArgs st__law_same, defBody st__law_same, defScope st__law_same, [], []⟩
def d__law_rows : He.DefD := ⟨("_law_rows", none), "_law_rows", "_law_rows", defArgs st__law_rows, defBody st__law_rows, defScope st__law_rows, [], []⟩
def d__law_draw : He.DefD := ⟨("_law_draw", none), "_law_draw", "_law_draw", defArgs st__law_draw, defBody st__law_draw, defScope st__law_draw, [], []⟩
def d__law_counts : He.DefD := ⟨("_law_counts", none), "_law_counts", "_law_counts", defArgs st__law_counts, defBody st__law_counts, defScope st__law_counts, [], []⟩
def d_is_whole : He.DefD := ⟨("is_whole", none), "is_whole", "is_whole", defArgs st_is_whole, defBody st_is_whole, defScope st_is_whole, [], []⟩
def d_is_size : He.DefD := ⟨("is_size", none), "is_size", "is_size", defArgs st_is_size, defBody st_is_size, defScope st_is_size, [], []⟩
def d_look_at_seen : He.DefD := ⟨("look_at_seen", none), "look_at_seen", "look_at_seen", defArgs st_look_at_seen, defBody st_look_at_seen, defScope st_look_at_seen, [], []⟩
def d_all_rows : He.DefD := ⟨("all_rows", none), "all_rows", "all_rows", defArgs st_all_rows, defBody st_all_rows, defScope st_all_rows, [], []⟩
def d_seen : He.DefD := ⟨("seen", none), "seen", "seen", defArgs st_seen, defBody st_seen, defScope st_seen, [], []⟩
def d_rows_seen : He.DefD := ⟨("rows_seen", none), "rows_seen", "rows_seen", defArgs st_rows_seen, defBody st_rows_seen, defScope st_rows_seen, [], []⟩
def d_bounds_for : He.DefD := ⟨("bounds_for", none), "bounds_for", "bounds_for", defArgs st_bounds_for, defBody st_bounds_for, defScope st_bounds_for, [], []⟩
def d_look_at_count : He.DefD := ⟨("look_at_count", none), "look_at_count", "look_at_count", defArgs st_look_at_count, defBody st_look_at_count, defScope st_look_at_count, [], []⟩
def d_choose : He.DefD := ⟨("choose", none), "choose", "choose", defArgs st_choose, defBody st_choose, defScope st_choose, [], []⟩
def d_count_seen : He.DefD := ⟨("count_seen", none), "count_seen", "count_seen", defArgs st_count_seen, defBody st_count_seen, defScope st_count_seen, [], []⟩
def d_count_both : He.DefD := ⟨("count_both", none), "count_both", "count_both", defArgs st_count_both, defBody st_count_both, defScope st_count_both, [], []⟩
def d__law_asked : He.DefD := ⟨("_law_asked", none), "_law_asked", "_law_asked", defArgs st__law_asked, defBody st__law_asked, defScope st__law_asked, [], []⟩
def d__law_seen : He.DefD := ⟨("_law_seen", none), "_law_seen", "_law_seen", defArgs st__law_seen, defBody st__law_seen, defScope st__law_seen, [], []⟩
def d_law : He.DefD := ⟨("law", none), "law", "law", defArgs st_law, defBody st_law, defScope st_law, [], []⟩
def fn : List He.DefD := [d__law_draws, d__law_same, d__law_rows, d__law_draw, d__law_counts, d_is_whole, d_is_size, d_look_at_seen, d_all_rows, d_seen, d_rows_seen, d_bounds_for, d_look_at_count, d_choose, d_count_seen, d_count_both, d__law_asked, d__law_seen, d_law]
def fa : List He.Fa := [.free "list", .free "isinstance", .free "tuple", .free "len", .free "range", .glo "_law_same", .free "str", .free "bool", .free "int", .glo "is_whole", .int "MOST_SIZE" 6, .glo "is_size", .free "all", .glo "BadPuzzle", .glo "look_at_seen", .glo "all_rows", .glo "seen", .free "min", .glo "look_at_count", .glo "choose", .glo "count_seen", .glo "rows_seen", .glo "bounds_for", .glo "count_both", .glo "PencilError", .glo "_law_draws", .glo "_law_draw", .glo "_law_rows", .glo "_law_seen", .glo "_law_asked", .free "max", .glo "_law_counts", .free "sum", .glo "law", .exm "BadPuzzle" "PencilError" true]
def ex : List Str := ["BadPuzzle"]
def ck (K : PySem.W.Frag) : Bool := factsB fa ex K && decide (PySem.W.kitOne K (.ref (He.ga K "BadPuzzle")) (.ref (He.ga K "BadPuzzle")) = some true)
abbrev fns (K : PySem.W.Frag) : Fns := fun i => match i with
  | 11 => some (He.ga K "_law_draws")
  | 13 => some (He.ga K "_law_same")
  | 14 => some (He.ga K "_law_rows")
  | 12 => some (He.ga K "_law_draw")
  | 17 => some (He.ga K "_law_counts")
  | 0 => some (He.ga K "is_whole")
  | 1 => some (He.ga K "is_size")
  | 5 => some (He.ga K "look_at_seen")
  | 3 => some (He.ga K "all_rows")
  | 2 => some (He.ga K "seen")
  | 4 => some (He.ga K "rows_seen")
  | 10 => some (He.ga K "bounds_for")
  | 6 => some (He.ga K "look_at_count")
  | 8 => some (He.ga K "choose")
  | 7 => some (He.ga K "count_seen")
  | 9 => some (He.ga K "count_both")
  | 16 => some (He.ga K "_law_asked")
  | 15 => some (He.ga K "_law_seen")
  | 18 => some (He.ga K "law")
  | _ => none
abbrev cls (K : PySem.W.Frag) : Nat → Option Addr := fun i => match i with
  | 0 => some (He.ga K "BadPuzzle")
  | _ => none
section
variable {P : Program} {w : World} {K : PySem.W.Frag} {mg : Str → Option Value} {base h : Heap}
theorem ckF (c : SaysP ck fn K) : factsB fa ex K = true := by
  have z := c.chk
  unfold ck at z
  simp only [Bool.and_eq_true] at z
  exact z.1
theorem kit_BadPuzzle_BadPuzzle (c : SaysP ck fn K) : PySem.W.kitOne K (.ref (He.ga K "BadPuzzle")) (.ref (He.ga K "BadPuzzle")) = some true := by
  have z := c.chk
  unfold ck at z
  simp only [Bool.and_eq_true] at z
  exact of_decide_eq_true z.2
theorem sc__law_draws : FnScope ["script"] ["script"] (defScope st__law_draws) := ⟨by kernel_rfl, by kernel_rfl, by kernel_rfl, by decide +kernel, by kernel_rfl, by decide +kernel, by decide +kernel⟩
theorem okf__law_draws (KX : K.In h) (G : h.Ns mainGlobals mg) (c : SaysP ck fn K) {fd : FuncData} (Fd : FunD K "_law_draws" "_law_draws" (defArgs st__law_draws) (defBody st__law_draws) (defScope st__law_draws) [] [] (He.ga K "_law_draws") fd) : FnOk P w K mg base (L2.CX P w) 1 (He.ga K "_law_draws") fd ["script"] (spF ⟨K, w, fns K⟩ (cls K) 1 sem__law_draws) := by
  have bd : Binds K fd ["script"] [] := Fd.bindsN fun _ _ _ _ _ _ us hl => match us, hl with | [_], _ => rfl
  have b_list := He.free_ok KX G (factsB_fact (ckF c) 0 (f := .free "list") rfl)
  exact fn_ok (k := 0) Fd sc__law_draws (fns K) (cls K) (by decide) (fun cdv A outer s H E hr => by
    have hN := sc__law_draws.nd
    have hu := room65 hr
    have hp := passes_of (X := cxOf (L2.CX P w) P w K mg base ["script"] "_law_draws" (defScope st__law_draws) (He.ga K "_law_draws") cdv A outer s H E) rfl
    have tk : Takes (cxOf (L2.CX P w) P w K mg base ["script"] "_law_draws" (defScope st__law_draws) (He.ga K "_law_draws") cdv A outer s H E) (parE (fns K) (cls K) E).W := takes_of rfl rfl rfl rfl
    exact (sb_one (s_ret (s_lst (sl_cons (s_callT c_list (gl (by kernel_rfl)) b_list rfl (sa_cons (so_pk (by kernel_rfl) (vis (by kernel_rfl))) sa_nil)) (sl_cons s_int (sl_cons s_int (sl_cons s_int sl_nil))))))))
theorem ok__law_draws (KX : K.In h) (G : h.Ns mainGlobals mg) (c : SaysP ck fn K) : ∃ fd, (FnOk P w K mg base (L2.CX P w) 1 (He.ga K "_law_draws") fd ["script"] (spF ⟨K, w, fns K⟩ (cls K) 1 sem__law_draws)) ∧ Binds K fd ["script"] [] ∧ PySem.W.keepIn K (.ref (He.ga K "_law_draws")) = true := by
  obtain ⟨fd, Fd⟩ := c.def_ 0 (d := d__law_draws) rfl
  exact ⟨fd, okf__law_draws KX G c Fd, Fd.bindsN (fun _ _ _ _ _ _ us hl => match us, hl with | [_], _ => rfl), Fd.kp⟩
theorem sc__law_same : FnScope ["actual", "expected", "k"] ["actual", "expected"] (defScope st__law_same) := ⟨by kernel_rfl, by kernel_rfl, by kernel_rfl, by decide +kernel, by kernel_rfl, by decide +kernel, by decide +kernel⟩
theorem okf__law_same (KX : K.In h) (G : h.Ns mainGlobals mg) (c : SaysP ck fn K) {fd : FuncData} (Fd : FunD K "_law_same" "_law_same" (defArgs st__law_same) (defBody st__law_same) (defScope st__law_same) [] [] (He.ga K "_law_same") fd) : ∀ n, FnOk P w K mg base (L2.CX P w) (1 + n) (He.ga K "_law_same") fd ["actual", "expected"] (spF ⟨K, w, fns K⟩ (cls K) 2 (sem__law_same n)) := by
  have bd : Binds K fd ["actual", "expected"] [] := Fd.bindsN fun _ _ _ _ _ _ us hl => match us, hl with | [_, _], _ => rfl
  have b_isinstance := He.free_ok KX G (factsB_fact (ckF c) 1 (f := .free "isinstance") rfl)
  have b_tuple := He.free_ok KX G (factsB_fact (ckF c) 2 (f := .free "tuple") rfl)
  have b_list := He.free_ok KX G (factsB_fact (ckF c) 0 (f := .free "list") rfl)
  have b_len := He.free_ok KX G (factsB_fact (ckF c) 3 (f := .free "len") rfl)
  have b_range := He.free_ok KX G (factsB_fact (ckF c) 4 (f := .free "range") rfl)
  have g__law_same := He.glo_ok KX G (factsB_fact (ckF c) 5 (f := .glo "_law_same") rfl)
  have b_str := He.free_ok KX G (factsB_fact (ckF c) 6 (f := .free "str") rfl)
  have b_bool := He.free_ok KX G (factsB_fact (ckF c) 7 (f := .free "bool") rfl)
  have b_int := He.free_ok KX G (factsB_fact (ckF c) 8 (f := .free "int") rfl)
  intro n
  induction n with
  | zero =>
    have ih := And.intro (fn_bad (Pr := P) (w := w) (K := K) (mg := mg) (base := base) (k := 0) (f := He.ga K "_law_same") (fd := fd) (ps := ["actual", "expected"]) (c := ⟨K, w, fns K⟩) (cls := cls K)) (And.intro bd Fd.kp)
    exact (fn_ok (k := 0) Fd sc__law_same (fns K) (cls K) (by decide) (fun cdv A outer s H E hr => by
    have hN := sc__law_same.nd
    have hu := room65 hr
    have hp := passes_of (X := cxOf (L2.CX P w) P w K mg base ["actual", "expected", "k"] "_law_same" (defScope st__law_same) (He.ga K "_law_same") cdv A outer s H E) rfl
    have tk : Takes (cxOf (L2.CX P w) P w K mg base ["actual", "expected", "k"] "_law_same" (defScope st__law_same) (He.ga K "_law_same") cdv A outer s H E) (parE (fns K) (cls K) E).W := takes_of rfl rfl rfl rfl
    exact (sb_cons (s_ifS (SW.st (sw_or (st_val (s_isi (.inr (.inr (.inr (.inl rfl)))) rfl (gl (by kernel_rfl)) b_isinstance (gl (by kernel_rfl)) b_tuple rfl (so_pk (by kernel_rfl) (vis (by kernel_rfl))))) (sw_or1 (st_val (s_isi (.inr (.inr (.inr (.inr (rfl))))) rfl (gl (by kernel_rfl)) b_isinstance (gl (by kernel_rfl)) b_list rfl (so_pk (by kernel_rfl) (vis (by kernel_rfl)))))))) (sb_cons (s_ifS (SW.st (sw_or (st_cmp (o_ne hu) (so_ex (s_isi (.inr (.inr (.inr (.inl rfl)))) rfl (gl (by kernel_rfl)) b_isinstance (gl (by kernel_rfl)) b_tuple rfl (so_pk (by kernel_rfl) (vis (by kernel_rfl))))) (so_ex (s_isi (.inr (.inr (.inr (.inl rfl)))) rfl (gl (by kernel_rfl)) b_isinstance (gl (by kernel_rfl)) b_tuple rfl (so_pk (by kernel_rfl) (vis (by kernel_rfl))))) rfl) (sw_or1 (st_cmp (o_ne hu) (so_ex (s_isi (.inr (.inr (.inr (.inr (rfl))))) rfl (gl (by kernel_rfl)) b_isinstance (gl (by kernel_rfl)) b_list rfl (so_pk (by kernel_rfl) (vis (by kernel_rfl))))) (so_ex (s_isi (.inr (.inr (.inr (.inr (rfl))))) rfl (gl (by kernel_rfl)) b_isinstance (gl (by kernel_rfl)) b_list rfl (so_pk (by kernel_rfl) (vis (by kernel_rfl))))) rfl)))) (sb_one (s_ret s_bl)) sb_nil)
    (sb_cons (s_ifS (st_cmp (o_ne hu) (so_ex (s_callB c_len (gl (by kernel_rfl)) b_len rfl (sa_cons (so_pk (by kernel_rfl) (vis (by kernel_rfl))) sa_nil))) (so_ex (s_callB c_len (gl (by kernel_rfl)) b_len rfl (sa_cons (so_pk (by kernel_rfl) (vis (by kernel_rfl))) sa_nil))) rfl) (sb_one (s_ret s_bl)) sb_nil)
    (sb_one (s_ret (s_cmp (o_eq hu) (so_ex (s_callB c_len (gl (by kernel_rfl)) b_len rfl (sa_cons (so_ex (s_lc rfl hN (si_r1 (s_callB c_len (gl (by kernel_rfl)) b_len rfl (sa_cons (so_pk (by kernel_rfl) (vis (by kernel_rfl))) sa_nil)) (gl (by kernel_rfl)) b_range) (blkOk_by (own := [("k", 2)]) (by kernel_rfl)) rfl (inB (by kernel_rfl)) pv0 (fun _ _ _ _ _ => (sg_name hN (by kernel_rfl) (loc (by kernel_rfl)) np0 (hfn (by kernel_rfl)))) (fun _ _ _ _ _ => (sc_one (st_not (st_val (s_call (ih.1) (hr.mono (by omega)) calm0 (gl (by kernel_rfl)) g__law_same ih.2.2 ih.2.1 (sl_cons (s_ix x_ix (so_pk (by kernel_rfl) (vis (by kernel_rfl))) (so_pk (by kernel_rfl) (vis (by kernel_rfl))) (fun _ _ => rfl)) (sl_cons (s_ix x_ix (so_pk (by kernel_rfl) (vis (by kernel_rfl))) (so_pk (by kernel_rfl) (vis (by kernel_rfl))) (fun _ _ => rfl)) sl_nil))))))) (fun _ _ _ _ _ => (s_var (by kernel_rfl) (vis (by kernel_rfl)))))) sa_nil))) (so_ex s_int) rfl))))) sb_nil)
    (sb_cons (s_ifS (st_val (s_isi (.inr (.inr (.inl rfl))) rfl (gl (by kernel_rfl)) b_isinstance (gl (by kernel_rfl)) b_str rfl (so_pk (by kernel_rfl) (vis (by kernel_rfl))))) (sb_one (s_ret (s_and (s_isi (.inr (.inr (.inl rfl))) rfl (gl (by kernel_rfl)) b_isinstance (gl (by kernel_rfl)) b_str rfl (so_pk (by kernel_rfl) (vis (by kernel_rfl)))) (s_one (s_cmp (o_eq hu) (so_pk (by kernel_rfl) (vis (by kernel_rfl))) (so_pk (by kernel_rfl) (vis (by kernel_rfl))) rfl))))) sb_nil)
    (sb_cons (s_ifS (st_cmp o_is (so_pk (by kernel_rfl) (vis (by kernel_rfl))) (so_ex s_non) rfl) (sb_one (s_ret (s_cmp o_is (so_pk (by kernel_rfl) (vis (by kernel_rfl))) (so_ex s_non) rfl))) sb_nil)
    (sb_cons (s_ifS (SW.st (sw_or (st_val (s_isi (.inr (.inl rfl)) rfl (gl (by kernel_rfl)) b_isinstance (gl (by kernel_rfl)) b_bool rfl (so_pk (by kernel_rfl) (vis (by kernel_rfl))))) (sw_or1 (st_val (s_isi (.inr (.inl rfl)) rfl (gl (by kernel_rfl)) b_isinstance (gl (by kernel_rfl)) b_bool rfl (so_pk (by kernel_rfl) (vis (by kernel_rfl)))))))) (sb_one (s_ret (s_and (s_isi (.inr (.inl rfl)) rfl (gl (by kernel_rfl)) b_isinstance (gl (by kernel_rfl)) b_bool rfl (so_pk (by kernel_rfl) (vis (by kernel_rfl)))) (s_and (s_isi (.inr (.inl rfl)) rfl (gl (by kernel_rfl)) b_isinstance (gl (by kernel_rfl)) b_bool rfl (so_pk (by kernel_rfl) (vis (by kernel_rfl)))) (s_one (s_cmp (o_eq hu) (so_pk (by kernel_rfl) (vis (by kernel_rfl))) (so_pk (by kernel_rfl) (vis (by kernel_rfl))) rfl)))))) sb_nil)
    (sb_one (s_ret (s_and (s_isi (.inl rfl) rfl (gl (by kernel_rfl)) b_isinstance (gl (by kernel_rfl)) b_int rfl (so_pk (by kernel_rfl) (vis (by kernel_rfl)))) (s_and (s_isi (.inl rfl) rfl (gl (by kernel_rfl)) b_isinstance (gl (by kernel_rfl)) b_int rfl (so_pk (by kernel_rfl) (vis (by kernel_rfl)))) (s_one (s_cmp (o_eq hu) (so_pk (by kernel_rfl) (vis (by kernel_rfl))) (so_pk (by kernel_rfl) (vis (by kernel_rfl))) rfl)))))))))))).mono (by omega)
  | succ n ih =>
    have ih := And.intro ih (And.intro bd Fd.kp)
    exact (fn_ok (k := 1 + n) Fd sc__law_same (fns K) (cls K) (by decide) (fun cdv A outer s H E hr => by
    have hN := sc__law_same.nd
    have hu := room65 hr
    have hp := passes_of (X := cxOf (L2.CX P w) P w K mg base ["actual", "expected", "k"] "_law_same" (defScope st__law_same) (He.ga K "_law_same") cdv A outer s H E) rfl
    have tk : Takes (cxOf (L2.CX P w) P w K mg base ["actual", "expected", "k"] "_law_same" (defScope st__law_same) (He.ga K "_law_same") cdv A outer s H E) (parE (fns K) (cls K) E).W := takes_of rfl rfl rfl rfl
    exact (sb_cons (s_ifS (SW.st (sw_or (st_val (s_isi (.inr (.inr (.inr (.inl rfl)))) rfl (gl (by kernel_rfl)) b_isinstance (gl (by kernel_rfl)) b_tuple rfl (so_pk (by kernel_rfl) (vis (by kernel_rfl))))) (sw_or1 (st_val (s_isi (.inr (.inr (.inr (.inr (rfl))))) rfl (gl (by kernel_rfl)) b_isinstance (gl (by kernel_rfl)) b_list rfl (so_pk (by kernel_rfl) (vis (by kernel_rfl)))))))) (sb_cons (s_ifS (SW.st (sw_or (st_cmp (o_ne hu) (so_ex (s_isi (.inr (.inr (.inr (.inl rfl)))) rfl (gl (by kernel_rfl)) b_isinstance (gl (by kernel_rfl)) b_tuple rfl (so_pk (by kernel_rfl) (vis (by kernel_rfl))))) (so_ex (s_isi (.inr (.inr (.inr (.inl rfl)))) rfl (gl (by kernel_rfl)) b_isinstance (gl (by kernel_rfl)) b_tuple rfl (so_pk (by kernel_rfl) (vis (by kernel_rfl))))) rfl) (sw_or1 (st_cmp (o_ne hu) (so_ex (s_isi (.inr (.inr (.inr (.inr (rfl))))) rfl (gl (by kernel_rfl)) b_isinstance (gl (by kernel_rfl)) b_list rfl (so_pk (by kernel_rfl) (vis (by kernel_rfl))))) (so_ex (s_isi (.inr (.inr (.inr (.inr (rfl))))) rfl (gl (by kernel_rfl)) b_isinstance (gl (by kernel_rfl)) b_list rfl (so_pk (by kernel_rfl) (vis (by kernel_rfl))))) rfl)))) (sb_one (s_ret s_bl)) sb_nil)
    (sb_cons (s_ifS (st_cmp (o_ne hu) (so_ex (s_callB c_len (gl (by kernel_rfl)) b_len rfl (sa_cons (so_pk (by kernel_rfl) (vis (by kernel_rfl))) sa_nil))) (so_ex (s_callB c_len (gl (by kernel_rfl)) b_len rfl (sa_cons (so_pk (by kernel_rfl) (vis (by kernel_rfl))) sa_nil))) rfl) (sb_one (s_ret s_bl)) sb_nil)
    (sb_one (s_ret (s_cmp (o_eq hu) (so_ex (s_callB c_len (gl (by kernel_rfl)) b_len rfl (sa_cons (so_ex (s_lc rfl hN (si_r1 (s_callB c_len (gl (by kernel_rfl)) b_len rfl (sa_cons (so_pk (by kernel_rfl) (vis (by kernel_rfl))) sa_nil)) (gl (by kernel_rfl)) b_range) (blkOk_by (own := [("k", 2)]) (by kernel_rfl)) rfl (inB (by kernel_rfl)) pv0 (fun _ _ _ _ _ => (sg_name hN (by kernel_rfl) (loc (by kernel_rfl)) np0 (hfn (by kernel_rfl)))) (fun _ _ _ _ _ => (sc_one (st_not (st_val (s_call (ih.1) (hr.mono (by omega)) calm0 (gl (by kernel_rfl)) g__law_same ih.2.2 ih.2.1 (sl_cons (s_ix x_ix (so_pk (by kernel_rfl) (vis (by kernel_rfl))) (so_pk (by kernel_rfl) (vis (by kernel_rfl))) (fun _ _ => rfl)) (sl_cons (s_ix x_ix (so_pk (by kernel_rfl) (vis (by kernel_rfl))) (so_pk (by kernel_rfl) (vis (by kernel_rfl))) (fun _ _ => rfl)) sl_nil))))))) (fun _ _ _ _ _ => (s_var (by kernel_rfl) (vis (by kernel_rfl)))))) sa_nil))) (so_ex s_int) rfl))))) sb_nil)
    (sb_cons (s_ifS (st_val (s_isi (.inr (.inr (.inl rfl))) rfl (gl (by kernel_rfl)) b_isinstance (gl (by kernel_rfl)) b_str rfl (so_pk (by kernel_rfl) (vis (by kernel_rfl))))) (sb_one (s_ret (s_and (s_isi (.inr (.inr (.inl rfl))) rfl (gl (by kernel_rfl)) b_isinstance (gl (by kernel_rfl)) b_str rfl (so_pk (by kernel_rfl) (vis (by kernel_rfl)))) (s_one (s_cmp (o_eq hu) (so_pk (by kernel_rfl) (vis (by kernel_rfl))) (so_pk (by kernel_rfl) (vis (by kernel_rfl))) rfl))))) sb_nil)
    (sb_cons (s_ifS (st_cmp o_is (so_pk (by kernel_rfl) (vis (by kernel_rfl))) (so_ex s_non) rfl) (sb_one (s_ret (s_cmp o_is (so_pk (by kernel_rfl) (vis (by kernel_rfl))) (so_ex s_non) rfl))) sb_nil)
    (sb_cons (s_ifS (SW.st (sw_or (st_val (s_isi (.inr (.inl rfl)) rfl (gl (by kernel_rfl)) b_isinstance (gl (by kernel_rfl)) b_bool rfl (so_pk (by kernel_rfl) (vis (by kernel_rfl))))) (sw_or1 (st_val (s_isi (.inr (.inl rfl)) rfl (gl (by kernel_rfl)) b_isinstance (gl (by kernel_rfl)) b_bool rfl (so_pk (by kernel_rfl) (vis (by kernel_rfl)))))))) (sb_one (s_ret (s_and (s_isi (.inr (.inl rfl)) rfl (gl (by kernel_rfl)) b_isinstance (gl (by kernel_rfl)) b_bool rfl (so_pk (by kernel_rfl) (vis (by kernel_rfl)))) (s_and (s_isi (.inr (.inl rfl)) rfl (gl (by kernel_rfl)) b_isinstance (gl (by kernel_rfl)) b_bool rfl (so_pk (by kernel_rfl) (vis (by kernel_rfl)))) (s_one (s_cmp (o_eq hu) (so_pk (by kernel_rfl) (vis (by kernel_rfl))) (so_pk (by kernel_rfl) (vis (by kernel_rfl))) rfl)))))) sb_nil)
    (sb_one (s_ret (s_and (s_isi (.inl rfl) rfl (gl (by kernel_rfl)) b_isinstance (gl (by kernel_rfl)) b_int rfl (so_pk (by kernel_rfl) (vis (by kernel_rfl)))) (s_and (s_isi (.inl rfl) rfl (gl (by kernel_rfl)) b_isinstance (gl (by kernel_rfl)) b_int rfl (so_pk (by kernel_rfl) (vis (by kernel_rfl)))) (s_one (s_cmp (o_eq hu) (so_pk (by kernel_rfl) (vis (by kernel_rfl))) (so_pk (by kernel_rfl) (vis (by kernel_rfl))) rfl)))))))))))).mono (by omega)
theorem ok__law_same (KX : K.In h) (G : h.Ns mainGlobals mg) (c : SaysP ck fn K) : ∃ fd, (∀ n, FnOk P w K mg base (L2.CX P w) (1 + n) (He.ga K "_law_same") fd ["actual", "expected"] (spF ⟨K, w, fns K⟩ (cls K) 2 (sem__law_same n))) ∧ Binds K fd ["actual", "expected"] [] ∧ PySem.W.keepIn K (.ref (He.ga K "_law_same")) = true := by
  obtain ⟨fd, Fd⟩ := c.def_ 1 (d := d__law_same) rfl
  exact ⟨fd, okf__law_same KX G c Fd, Fd.bindsN (fun _ _ _ _ _ _ us hl => match us, hl with | [_, _], _ => rfl), Fd.kp⟩
theorem sc__law_rows : FnScope ["size", "rows", "k", "fresh", "row", "one"] ["size"] (defScope st__law_rows) := ⟨by kernel_rfl, by kernel_rfl, by kernel_rfl, by decide +kernel, by kernel_rfl, by decide +kernel, by decide +kernel⟩
theorem okf__law_rows (KX : K.In h) (G : h.Ns mainGlobals mg) (c : SaysP ck fn K) {fd : FuncData} (Fd : FunD K "_law_rows" "_law_rows" (defArgs st__law_rows) (defBody st__law_rows) (defScope st__law_rows) [] [] (He.ga K "_law_rows") fd) : FnOk P w K mg base (L2.CX P w) 1 (He.ga K "_law_rows") fd ["size"] (spF ⟨K, w, fns K⟩ (cls K) 1 sem__law_rows) := by
  have bd : Binds K fd ["size"] [] := Fd.bindsN fun _ _ _ _ _ _ us hl => match us, hl with | [_], _ => rfl
  have b_range := He.free_ok KX G (factsB_fact (ckF c) 4 (f := .free "range") rfl)
  exact fn_ok (k := 0) Fd sc__law_rows (fns K) (cls K) (by decide) (fun cdv A outer s H E hr => by
    have hN := sc__law_rows.nd
    have hu := room65 hr
    have hp := passes_of (X := cxOf (L2.CX P w) P w K mg base ["size", "rows", "k", "fresh", "row", "one"] "_law_rows" (defScope st__law_rows) (He.ga K "_law_rows") cdv A outer s H E) rfl
    have tk : Takes (cxOf (L2.CX P w) P w K mg base ["size", "rows", "k", "fresh", "row", "one"] "_law_rows" (defScope st__law_rows) (He.ga K "_law_rows") cdv A outer s H E) (parE (fns K) (cls K) E).W := takes_of rfl rfl rfl rfl
    exact (sb_cons (s_set hN (by kernel_rfl) (loc (by kernel_rfl)) (s_lst (sl_cons (s_tup sl_nil) sl_nil)) np0 (by rfl) (hfn (by kernel_rfl)))
    (sb_cons (s_for hp rfl (si_r1 (s_var (by kernel_rfl) (vis (by kernel_rfl))) (gl (by kernel_rfl)) b_range) (sg_name hN (by kernel_rfl) (loc (by kernel_rfl)) np0 (hfn (by kernel_rfl))) (sb_cons (s_set hN (by kernel_rfl) (loc (by kernel_rfl)) (s_lst sl_nil) np0 (by rfl) (hfn (by kernel_rfl)))
    (sb_cons (s_for hp rfl (si_v (s_var (by kernel_rfl) (vis (by kernel_rfl)))) (sg_name hN (by kernel_rfl) (loc (by kernel_rfl)) np0 (hfn (by kernel_rfl))) (sb_one (s_set hN (by kernel_rfl) (loc (by kernel_rfl)) (s_bin o_add (so_pk (by kernel_rfl) (vis (by kernel_rfl))) (so_ex (s_lc rfl hN (si_r2 s_int (s_bin o_add (so_pk (by kernel_rfl) (vis (by kernel_rfl))) (so_ex s_int)) (gl (by kernel_rfl)) b_range) (blkOk_by (own := [("one", 5)]) (by kernel_rfl)) rfl (inB (by kernel_rfl)) pv0 (fun _ _ _ _ _ => (sg_name hN (by kernel_rfl) (loc (by kernel_rfl)) np0 (hfn (by kernel_rfl)))) (fun _ _ _ _ _ => (sc_one (st_cmp (o_nin hu) (so_pk (by kernel_rfl) (vis (by kernel_rfl))) (so_pk (by kernel_rfl) (vis (by kernel_rfl))) rfl))) (fun _ _ _ _ _ => (s_bin o_add (so_pk (by kernel_rfl) (vis (by kernel_rfl))) (so_ex (s_tup (sl_cons (s_var (by kernel_rfl) (vis (by kernel_rfl))) sl_nil)))))))) np0 (by rfl) (hfn (by kernel_rfl)))))
    (sb_one (s_set hN (by kernel_rfl) (loc (by kernel_rfl)) (s_var (by kernel_rfl) (vis (by kernel_rfl))) np0 (by rfl) (hfn (by kernel_rfl)))))))
    (sb_one (s_ret (s_var (by kernel_rfl) (vis (by kernel_rfl))))))))
theorem ok__law_rows (KX : K.In h) (G : h.Ns mainGlobals mg) (c : SaysP ck fn K) : ∃ fd, (FnOk P w K mg base (L2.CX P w) 1 (He.ga K "_law_rows") fd ["size"] (spF ⟨K, w, fns K⟩ (cls K) 1 sem__law_rows)) ∧ Binds K fd ["size"] [] ∧ PySem.W.keepIn K (.ref (He.ga K "_law_rows")) = true := by
  obtain ⟨fd, Fd⟩ := c.def_ 2 (d := d__law_rows) rfl
  exact ⟨fd, okf__law_rows KX G c Fd, Fd.bindsN (fun _ _ _ _ _ _ us hl => match us, hl with | [_], _ => rfl), Fd.kp⟩
theorem sc__law_draw : FnScope ["draws", "limit", "cell", "value"] ["draws", "limit"] (defScope st__law_draw) := ⟨by kernel_rfl, by kernel_rfl, by kernel_rfl, by decide +kernel, by kernel_rfl, by decide +kernel, by decide +kernel⟩
theorem okf__law_draw (KX : K.In h) (G : h.Ns mainGlobals mg) (c : SaysP ck fn K) {fd : FuncData} (Fd : FunD K "_law_draw" "_law_draw" (defArgs st__law_draw) (defBody st__law_draw) (defScope st__law_draw) [] [] (He.ga K "_law_draw") fd) : FnOk P w K mg base (L2.CX P w) 1 (He.ga K "_law_draw") fd ["draws", "limit"] (spIO ⟨K, w, fns K⟩ (cls K) 1 sem__law_draw) := by
  have bd : Binds K fd ["draws", "limit"] [] := Fd.bindsN fun _ _ _ _ _ _ us hl => match us, hl with | [_, _], _ => rfl
  have b_len := He.free_ok KX G (factsB_fact (ckF c) 3 (f := .free "len") rfl)
  have b_int := He.free_ok KX G (factsB_fact (ckF c) 8 (f := .free "int") rfl)
  exact fn_okIO (k := 0) (m := 1) Fd sc__law_draw (fns K) (cls K) rfl (by decide) (fun cdv A outer s H E x0 hr => by
    have hN := sc__law_draw.nd
    have hu := room65 hr
    have hp := passes_of (X := cxOf (L2.CX P w) P w K mg base ["draws", "limit", "cell", "value"] "_law_draw" (defScope st__law_draw) (He.ga K "_law_draw") cdv A outer s H E) rfl
    have tk : Takes (cxOf (L2.CX P w) P w K mg base ["draws", "limit", "cell", "value"] "_law_draw" (defScope st__law_draw) (He.ga K "_law_draw") cdv A outer s H E) (parE (fns K) (cls K) E).W := takes_of rfl rfl rfl rfl
    exact (sb_cons (s_ifS (SW.st (sw_and (st_cmp (o_eq hu) (so_ex (s_ix x_ix (so_pk (by kernel_rfl) (vis (by kernel_rfl))) (so_ex s_int) (fun _ _ => rfl))) (so_ex s_int) rfl) (sw_and1 (st_cmp o_lt (so_ex (s_ix x_ix (so_pk (by kernel_rfl) (vis (by kernel_rfl))) (so_ex s_int) (fun _ _ => rfl))) (so_ex (s_callB c_len (gl (by kernel_rfl)) b_len rfl (sa_cons (so_ex (s_ix x_ix (so_pk (by kernel_rfl) (vis (by kernel_rfl))) (so_ex s_int) (fun _ _ => rfl))) sa_nil))) rfl)))) (sb_cons (s_set hN (by kernel_rfl) (loc (by kernel_rfl)) (s_ix x_ix (so_ex (s_ix x_ix (so_pk (by kernel_rfl) (vis (by kernel_rfl))) (so_ex s_int) (fun _ _ => rfl))) (so_ex (s_ix x_ix (so_pk (by kernel_rfl) (vis (by kernel_rfl))) (so_ex s_int) (fun _ _ => rfl))) (fun _ _ => rfl)) (np1 (by kernel_rfl)) (by rfl) (hfn (by kernel_rfl)))
    (sb_cons (s_setI (by kernel_rfl) (vis (by kernel_rfl)) s_int (s_bin o_add (so_ex (s_ix x_ix (so_pk (by kernel_rfl) (vis (by kernel_rfl))) (so_ex s_int) (fun _ _ => rfl))) (so_ex s_int)))
    (sb_cons (s_ifS (st_cmp o_ge (so_pk (by kernel_rfl) (vis (by kernel_rfl))) (so_ex (s_bin o_pow (so_ex s_int) (so_ex s_int))) rfl) (sb_one (s_setI (by kernel_rfl) (vis (by kernel_rfl)) s_int (s_var (by kernel_rfl) (vis (by kernel_rfl))))) sb_nil)
    (sb_one (s_setI (by kernel_rfl) (vis (by kernel_rfl)) s_int (s_bin o_mod (so_ex (s_callT c_int (gl (by kernel_rfl)) b_int rfl (sa_cons (so_ex (s_bin o_add (so_ex (s_bin o_add (so_ex (s_bin o_mul (so_ex (s_ix x_ix (so_pk (by kernel_rfl) (vis (by kernel_rfl))) (so_ex s_int) (fun _ _ => rfl))) (so_ex s_int))) (so_pk (by kernel_rfl) (vis (by kernel_rfl))))) (so_ex s_int))) sa_nil))) (so_ex s_int))))))) sb_nil)
    (sb_cons (s_ifS (st_cmp o_gt (so_ex (s_ix x_ix (so_pk (by kernel_rfl) (vis (by kernel_rfl))) (so_ex s_int) (fun _ _ => rfl))) (so_ex s_int) rfl) (sb_cons (s_set hN (by kernel_rfl) (loc (by kernel_rfl)) (s_bin o_mod (so_ex (s_callT c_int (gl (by kernel_rfl)) b_int rfl (sa_cons (so_ex (s_ix x_ix (so_pk (by kernel_rfl) (vis (by kernel_rfl))) (so_ex s_int) (fun _ _ => rfl))) sa_nil))) (so_pk (by kernel_rfl) (vis (by kernel_rfl)))) (np1 (by kernel_rfl)) (by rfl) (hfn (by kernel_rfl)))
    (sb_cons (s_setI (by kernel_rfl) (vis (by kernel_rfl)) s_int (s_bin o_div (so_ex (s_ix x_ix (so_pk (by kernel_rfl) (vis (by kernel_rfl))) (so_ex s_int) (fun _ _ => rfl))) (so_pk (by kernel_rfl) (vis (by kernel_rfl)))))
    (sb_one (s_ret (s_var (by kernel_rfl) (vis (by kernel_rfl))))))) sb_nil)
    (sb_cons (s_setI (by kernel_rfl) (vis (by kernel_rfl)) s_int (s_bin o_mod (so_ex (s_callT c_int (gl (by kernel_rfl)) b_int rfl (sa_cons (so_ex (s_bin o_add (so_ex (s_bin o_mul (so_ex (s_ix x_ix (so_pk (by kernel_rfl) (vis (by kernel_rfl))) (so_ex s_int) (fun _ _ => rfl))) (so_ex s_int))) (so_ex s_int))) sa_nil))) (so_ex s_int)))
    (sb_one (s_ret (s_bin o_mod (so_ex (s_callT c_int (gl (by kernel_rfl)) b_int rfl (sa_cons (so_ex (s_bin o_div (so_ex (s_ix x_ix (so_pk (by kernel_rfl) (vis (by kernel_rfl))) (so_ex s_int) (fun _ _ => rfl))) (so_ex s_int))) sa_nil))) (so_pk (by kernel_rfl) (vis (by kernel_rfl))))))))))
theorem ok__law_draw (KX : K.In h) (G : h.Ns mainGlobals mg) (c : SaysP ck fn K) : ∃ fd, (FnOk P w K mg base (L2.CX P w) 1 (He.ga K "_law_draw") fd ["draws", "limit"] (spIO ⟨K, w, fns K⟩ (cls K) 1 sem__law_draw)) ∧ Binds K fd ["draws", "limit"] [] ∧ PySem.W.keepIn K (.ref (He.ga K "_law_draw")) = true := by
  obtain ⟨fd, Fd⟩ := c.def_ 3 (d := d__law_draw) rfl
  exact ⟨fd, okf__law_draw KX G c Fd, Fd.bindsN (fun _ _ _ _ _ _ us hl => match us, hl with | [_, _], _ => rfl), Fd.kp⟩
theorem sc__law_counts : FnScope ["size", "row", "many", "fresh", "k"] ["size"] (defScope st__law_counts) := ⟨by kernel_rfl, by kernel_rfl, by kernel_rfl, by decide +kernel, by kernel_rfl, by decide +kernel, by decide +kernel⟩
theorem okf__law_counts (KX : K.In h) (G : h.Ns mainGlobals mg) (c : SaysP ck fn K) {fd : FuncData} (Fd : FunD K "_law_counts" "_law_counts" (defArgs st__law_counts) (defBody st__law_counts) (defScope st__law_counts) [] [] (He.ga K "_law_counts") fd) : FnOk P w K mg base (L2.CX P w) 1 (He.ga K "_law_counts") fd ["size"] (spF ⟨K, w, fns K⟩ (cls K) 1 sem__law_counts) := by
  have bd : Binds K fd ["size"] [] := Fd.bindsN fun _ _ _ _ _ _ us hl => match us, hl with | [_], _ => rfl
  have b_range := He.free_ok KX G (factsB_fact (ckF c) 4 (f := .free "range") rfl)
  have b_len := He.free_ok KX G (factsB_fact (ckF c) 3 (f := .free "len") rfl)
  exact fn_ok (k := 0) Fd sc__law_counts (fns K) (cls K) (by decide) (fun cdv A outer s H E hr => by
    have hN := sc__law_counts.nd
    have hu := room65 hr
    have hp := passes_of (X := cxOf (L2.CX P w) P w K mg base ["size", "row", "many", "fresh", "k"] "_law_counts" (defScope st__law_counts) (He.ga K "_law_counts") cdv A outer s H E) rfl
    have tk : Takes (cxOf (L2.CX P w) P w K mg base ["size", "row", "many", "fresh", "k"] "_law_counts" (defScope st__law_counts) (He.ga K "_law_counts") cdv A outer s H E) (parE (fns K) (cls K) E).W := takes_of rfl rfl rfl rfl
    exact (sb_cons (s_set hN (by kernel_rfl) (loc (by kernel_rfl)) (s_lst (sl_cons s_int sl_nil)) np0 (by rfl) (hfn (by kernel_rfl)))
    (sb_cons (s_for hp rfl (si_r1 (s_var (by kernel_rfl) (vis (by kernel_rfl))) (gl (by kernel_rfl)) b_range) (sg_name hN (by kernel_rfl) (loc (by kernel_rfl)) np0 (hfn (by kernel_rfl))) (sb_cons (s_set hN (by kernel_rfl) (loc (by kernel_rfl)) (s_bin o_mul (so_ex (s_lst (sl_cons s_int sl_nil))) (so_ex (s_bin o_add (so_ex (s_callB c_len (gl (by kernel_rfl)) b_len rfl (sa_cons (so_pk (by kernel_rfl) (vis (by kernel_rfl))) sa_nil))) (so_ex s_int)))) np0 (by rfl) (hfn (by kernel_rfl)))
    (sb_cons (s_for hp rfl (si_r1 (s_callB c_len (gl (by kernel_rfl)) b_len rfl (sa_cons (so_pk (by kernel_rfl) (vis (by kernel_rfl))) sa_nil)) (gl (by kernel_rfl)) b_range) (sg_name hN (by kernel_rfl) (loc (by kernel_rfl)) np0 (hfn (by kernel_rfl))) (sb_cons (s_setI (by kernel_rfl) (vis (by kernel_rfl)) (s_bin o_add (so_pk (by kernel_rfl) (vis (by kernel_rfl))) (so_ex s_int)) (s_bin o_add (so_ex (s_ix x_ix (so_pk (by kernel_rfl) (vis (by kernel_rfl))) (so_ex (s_bin o_add (so_pk (by kernel_rfl) (vis (by kernel_rfl))) (so_ex s_int))) (fun _ _ => rfl))) (so_ex (s_ix x_ix (so_pk (by kernel_rfl) (vis (by kernel_rfl))) (so_pk (by kernel_rfl) (vis (by kernel_rfl))) (fun _ _ => rfl)))))
    (sb_one (s_setI (by kernel_rfl) (vis (by kernel_rfl)) (s_var (by kernel_rfl) (vis (by kernel_rfl))) (s_bin o_add (so_ex (s_ix x_ix (so_pk (by kernel_rfl) (vis (by kernel_rfl))) (so_pk (by kernel_rfl) (vis (by kernel_rfl))) (fun _ _ => rfl))) (so_ex (s_bin o_mul (so_pk (by kernel_rfl) (vis (by kernel_rfl))) (so_ex (s_ix x_ix (so_pk (by kernel_rfl) (vis (by kernel_rfl))) (so_pk (by kernel_rfl) (vis (by kernel_rfl))) (fun _ _ => rfl))))))))))
    (sb_one (s_set hN (by kernel_rfl) (loc (by kernel_rfl)) (s_var (by kernel_rfl) (vis (by kernel_rfl))) np0 (by rfl) (hfn (by kernel_rfl)))))))
    (sb_one (s_ret (s_var (by kernel_rfl) (vis (by kernel_rfl))))))))
theorem ok__law_counts (KX : K.In h) (G : h.Ns mainGlobals mg) (c : SaysP ck fn K) : ∃ fd, (FnOk P w K mg base (L2.CX P w) 1 (He.ga K "_law_counts") fd ["size"] (spF ⟨K, w, fns K⟩ (cls K) 1 sem__law_counts)) ∧ Binds K fd ["size"] [] ∧ PySem.W.keepIn K (.ref (He.ga K "_law_counts")) = true := by
  obtain ⟨fd, Fd⟩ := c.def_ 4 (d := d__law_counts) rfl
  exact ⟨fd, okf__law_counts KX G c Fd, Fd.bindsN (fun _ _ _ _ _ _ us hl => match us, hl with | [_], _ => rfl), Fd.kp⟩
theorem sc_is_whole : FnScope ["value"] ["value"] (defScope st_is_whole) := ⟨by kernel_rfl, by kernel_rfl, by kernel_rfl, by decide +kernel, by kernel_rfl, by decide +kernel, by decide +kernel⟩
theorem okf_is_whole (KX : K.In h) (G : h.Ns mainGlobals mg) (c : SaysP ck fn K) {fd : FuncData} (Fd : FunD K "is_whole" "is_whole" (defArgs st_is_whole) (defBody st_is_whole) (defScope st_is_whole) [] [] (He.ga K "is_whole") fd) : FnOk P w K mg base (L2.CX P w) 1 (He.ga K "is_whole") fd ["value"] (spF ⟨K, w, fns K⟩ (cls K) 1 sem_is_whole) := by
  have bd : Binds K fd ["value"] [] := Fd.bindsN fun _ _ _ _ _ _ us hl => match us, hl with | [_], _ => rfl
  have b_isinstance := He.free_ok KX G (factsB_fact (ckF c) 1 (f := .free "isinstance") rfl)
  have b_int := He.free_ok KX G (factsB_fact (ckF c) 8 (f := .free "int") rfl)
  have b_bool := He.free_ok KX G (factsB_fact (ckF c) 7 (f := .free "bool") rfl)
  exact fn_ok (k := 0) Fd sc_is_whole (fns K) (cls K) (by decide) (fun cdv A outer s H E hr => by
    have hN := sc_is_whole.nd
    have hu := room65 hr
    have hp := passes_of (X := cxOf (L2.CX P w) P w K mg base ["value"] "is_whole" (defScope st_is_whole) (He.ga K "is_whole") cdv A outer s H E) rfl
    have tk : Takes (cxOf (L2.CX P w) P w K mg base ["value"] "is_whole" (defScope st_is_whole) (He.ga K "is_whole") cdv A outer s H E) (parE (fns K) (cls K) E).W := takes_of rfl rfl rfl rfl
    exact (sb_one (s_ret (s_and (s_isi (.inl rfl) rfl (gl (by kernel_rfl)) b_isinstance (gl (by kernel_rfl)) b_int rfl (so_pk (by kernel_rfl) (vis (by kernel_rfl)))) (s_one (s_not (s_isi (.inr (.inl rfl)) rfl (gl (by kernel_rfl)) b_isinstance (gl (by kernel_rfl)) b_bool rfl (so_pk (by kernel_rfl) (vis (by kernel_rfl))))))))))
theorem ok_is_whole (KX : K.In h) (G : h.Ns mainGlobals mg) (c : SaysP ck fn K) : ∃ fd, (FnOk P w K mg base (L2.CX P w) 1 (He.ga K "is_whole") fd ["value"] (spF ⟨K, w, fns K⟩ (cls K) 1 sem_is_whole)) ∧ Binds K fd ["value"] [] ∧ PySem.W.keepIn K (.ref (He.ga K "is_whole")) = true := by
  obtain ⟨fd, Fd⟩ := c.def_ 5 (d := d_is_whole) rfl
  exact ⟨fd, okf_is_whole KX G c Fd, Fd.bindsN (fun _ _ _ _ _ _ us hl => match us, hl with | [_], _ => rfl), Fd.kp⟩
theorem sc_is_size : FnScope ["value"] ["value"] (defScope st_is_size) := ⟨by kernel_rfl, by kernel_rfl, by kernel_rfl, by decide +kernel, by kernel_rfl, by decide +kernel, by decide +kernel⟩
theorem okf_is_size (KX : K.In h) (G : h.Ns mainGlobals mg) (c : SaysP ck fn K) {fd : FuncData} (Fd : FunD K "is_size" "is_size" (defArgs st_is_size) (defBody st_is_size) (defScope st_is_size) [] [] (He.ga K "is_size") fd) : FnOk P w K mg base (L2.CX P w) 2 (He.ga K "is_size") fd ["value"] (spF ⟨K, w, fns K⟩ (cls K) 1 sem_is_size) := by
  have bd : Binds K fd ["value"] [] := Fd.bindsN fun _ _ _ _ _ _ us hl => match us, hl with | [_], _ => rfl
  obtain ⟨_, k_is_whole⟩ := ok_is_whole (P := P) (w := w) (base := base) KX G c
  have g_is_whole := He.glo_ok KX G (factsB_fact (ckF c) 9 (f := .glo "is_whole") rfl)
  obtain ⟨_, c_MOST_SIZE⟩ := He.int_ok KX G (factsB_fact (ckF c) 10 (f := .int "MOST_SIZE" 6) rfl)
  exact fn_ok (k := 1) Fd sc_is_size (fns K) (cls K) (by decide) (fun cdv A outer s H E hr => by
    have hN := sc_is_size.nd
    have hu := room65 hr
    have hp := passes_of (X := cxOf (L2.CX P w) P w K mg base ["value"] "is_size" (defScope st_is_size) (He.ga K "is_size") cdv A outer s H E) rfl
    have tk : Takes (cxOf (L2.CX P w) P w K mg base ["value"] "is_size" (defScope st_is_size) (He.ga K "is_size") cdv A outer s H E) (parE (fns K) (cls K) E).W := takes_of rfl rfl rfl rfl
    exact (sb_one (s_ret (s_and (s_call (k_is_whole.1) (hr.mono (by decide)) tk (gl (by kernel_rfl)) g_is_whole k_is_whole.2.2 k_is_whole.2.1 (sl_cons (s_var (by kernel_rfl) (vis (by kernel_rfl))) sl_nil)) (s_one (s_chain o_le o_le (so_ex s_int) (so_pk (by kernel_rfl) (vis (by kernel_rfl))) (so_ex (s_gint (gl (by kernel_rfl)) c_MOST_SIZE))))))))
theorem ok_is_size (KX : K.In h) (G : h.Ns mainGlobals mg) (c : SaysP ck fn K) : ∃ fd, (FnOk P w K mg base (L2.CX P w) 2 (He.ga K "is_size") fd ["value"] (spF ⟨K, w, fns K⟩ (cls K) 1 sem_is_size)) ∧ Binds K fd ["value"] [] ∧ PySem.W.keepIn K (.ref (He.ga K "is_size")) = true := by
  obtain ⟨fd, Fd⟩ := c.def_ 6 (d := d_is_size) rfl
  exact ⟨fd, okf_is_size KX G c Fd, Fd.bindsN (fun _ _ _ _ _ _ us hl => match us, hl with | [_], _ => rfl), Fd.kp⟩
theorem sc_look_at_seen : FnScope ["size", "first", "last", "one"] ["size", "first", "last"] (defScope st_look_at_seen) := ⟨by kernel_rfl, by kernel_rfl, by kernel_rfl, by decide +kernel, by kernel_rfl, by decide +kernel, by decide +kernel⟩
theorem okf_look_at_seen (KX : K.In h) (G : h.Ns mainGlobals mg) (c : SaysP ck fn K) {fd : FuncData} (Fd : FunD K "look_at_seen" "look_at_seen" (defArgs st_look_at_seen) (defBody st_look_at_seen) (defScope st_look_at_seen) [] [] (He.ga K "look_at_seen") fd) : FnOk P w K mg base (L2.CX P w) 3 (He.ga K "look_at_seen") fd ["size", "first", "last"] (spF ⟨K, w, fns K⟩ (cls K) 3 sem_look_at_seen) := by
  have bd : Binds K fd ["size", "first", "last"] [] := Fd.bindsN fun _ _ _ _ _ _ us hl => match us, hl with | [_, _, _], _ => rfl
  obtain ⟨_, k_is_size⟩ := ok_is_size (P := P) (w := w) (base := base) KX G c
  obtain ⟨_, k_is_whole⟩ := ok_is_whole (P := P) (w := w) (base := base) KX G c
  have g_is_size := He.glo_ok KX G (factsB_fact (ckF c) 11 (f := .glo "is_size") rfl)
  have g_is_whole := He.glo_ok KX G (factsB_fact (ckF c) 9 (f := .glo "is_whole") rfl)
  have b_all := He.free_ok KX G (factsB_fact (ckF c) 12 (f := .free "all") rfl)
  have g_BadPuzzle := He.glo_ok KX G (factsB_fact (ckF c) 13 (f := .glo "BadPuzzle") rfl)
  have x_BadPuzzle := He.exc_ok (factsB_exc (ckF c) 0 (f := "BadPuzzle") rfl).1
  exact fn_ok (k := 2) Fd sc_look_at_seen (fns K) (cls K) (by decide) (fun cdv A outer s H E hr => by
    have hN := sc_look_at_seen.nd
    have hu := room65 hr
    have hp := passes_of (X := cxOf (L2.CX P w) P w K mg base ["size", "first", "last", "one"] "look_at_seen" (defScope st_look_at_seen) (He.ga K "look_at_seen") cdv A outer s H E) rfl
    have tk : Takes (cxOf (L2.CX P w) P w K mg base ["size", "first", "last", "one"] "look_at_seen" (defScope st_look_at_seen) (He.ga K "look_at_seen") cdv A outer s H E) (parE (fns K) (cls K) E).W := takes_of rfl rfl rfl rfl
    exact (sb_one (s_ifS (SW.st (sw_or (st_not (st_val (s_call (k_is_size.1) (hr.mono (by decide)) tk (gl (by kernel_rfl)) g_is_size k_is_size.2.2 k_is_size.2.1 (sl_cons (s_var (by kernel_rfl) (vis (by kernel_rfl))) sl_nil)))) (sw_or1 (st_not (st_val (s_callB (c_all rfl) (gl (by kernel_rfl)) b_all rfl (sa_cons (so_ex (s_lc rfl hN (si_v (s_tup (sl_cons (s_var (by kernel_rfl) (vis (by kernel_rfl))) (sl_cons (s_var (by kernel_rfl) (vis (by kernel_rfl))) sl_nil)))) (blkOk_by (own := [("one", 3)]) (by kernel_rfl)) rfl (inB (by kernel_rfl)) pv0 (fun _ _ _ _ _ => (sg_name hN (by kernel_rfl) (loc (by kernel_rfl)) np0 (hfn (by kernel_rfl)))) (fun _ _ _ _ _ => sc_nil) (fun _ _ _ _ _ => (s_and (s_call (k_is_whole.1) (hr.mono (by decide)) calm0 (gl (by kernel_rfl)) g_is_whole k_is_whole.2.2 k_is_whole.2.1 (sl_cons (s_var (by kernel_rfl) (vis (by kernel_rfl))) sl_nil)) (s_one (s_chain o_le o_le (so_ex s_int) (so_pk (by kernel_rfl) (vis (by kernel_rfl))) (so_pk (by kernel_rfl) (vis (by kernel_rfl))))))))) sa_nil))))))) (sb_one (s_raise rfl tk PySem.F.excBase_ValueError x_BadPuzzle.1 g_BadPuzzle x_BadPuzzle.2.1 (raises_own x_BadPuzzle.2.2.1 x_BadPuzzle.2.2.2) (by decide) rfl (gl (by kernel_rfl)))) sb_nil)))
theorem ok_look_at_seen (KX : K.In h) (G : h.Ns mainGlobals mg) (c : SaysP ck fn K) : ∃ fd, (FnOk P w K mg base (L2.CX P w) 3 (He.ga K "look_at_seen") fd ["size", "first", "last"] (spF ⟨K, w, fns K⟩ (cls K) 3 sem_look_at_seen)) ∧ Binds K fd ["size", "first", "last"] [] ∧ PySem.W.keepIn K (.ref (He.ga K "look_at_seen")) = true := by
  obtain ⟨fd, Fd⟩ := c.def_ 7 (d := d_look_at_seen) rfl
  exact ⟨fd, okf_look_at_seen KX G c Fd, Fd.bindsN (fun _ _ _ _ _ _ us hl => match us, hl with | [_, _, _], _ => rfl), Fd.kp⟩
theorem sc_all_rows : FnScope ["size", "rows", "_", "row", "one"] ["size"] (defScope st_all_rows) := ⟨by kernel_rfl, by kernel_rfl, by kernel_rfl, by decide +kernel, by kernel_rfl, by decide +kernel, by decide +kernel⟩
theorem okf_all_rows (KX : K.In h) (G : h.Ns mainGlobals mg) (c : SaysP ck fn K) {fd : FuncData} (Fd : FunD K "all_rows" "all_rows" (defArgs st_all_rows) (defBody st_all_rows) (defScope st_all_rows) [] [] (He.ga K "all_rows") fd) : FnOk P w K mg base (L2.CX P w) 3 (He.ga K "all_rows") fd ["size"] (spF ⟨K, w, fns K⟩ (cls K) 1 sem_all_rows) := by
  have bd : Binds K fd ["size"] [] := Fd.bindsN fun _ _ _ _ _ _ us hl => match us, hl with | [_], _ => rfl
  obtain ⟨_, k_is_size⟩ := ok_is_size (P := P) (w := w) (base := base) KX G c
  have g_is_size := He.glo_ok KX G (factsB_fact (ckF c) 11 (f := .glo "is_size") rfl)
  have g_BadPuzzle := He.glo_ok KX G (factsB_fact (ckF c) 13 (f := .glo "BadPuzzle") rfl)
  have b_range := He.free_ok KX G (factsB_fact (ckF c) 4 (f := .free "range") rfl)
  have b_tuple := He.free_ok KX G (factsB_fact (ckF c) 2 (f := .free "tuple") rfl)
  have x_BadPuzzle := He.exc_ok (factsB_exc (ckF c) 0 (f := "BadPuzzle") rfl).1
  exact fn_ok (k := 2) Fd sc_all_rows (fns K) (cls K) (by decide) (fun cdv A outer s H E hr => by
    have hN := sc_all_rows.nd
    have hu := room65 hr
    have hp := passes_of (X := cxOf (L2.CX P w) P w K mg base ["size", "rows", "_", "row", "one"] "all_rows" (defScope st_all_rows) (He.ga K "all_rows") cdv A outer s H E) rfl
    have tk : Takes (cxOf (L2.CX P w) P w K mg base ["size", "rows", "_", "row", "one"] "all_rows" (defScope st_all_rows) (He.ga K "all_rows") cdv A outer s H E) (parE (fns K) (cls K) E).W := takes_of rfl rfl rfl rfl
    exact (sb_cons (s_ifS (st_not (st_val (s_call (k_is_size.1) (hr.mono (by decide)) tk (gl (by kernel_rfl)) g_is_size k_is_size.2.2 k_is_size.2.1 (sl_cons (s_var (by kernel_rfl) (vis (by kernel_rfl))) sl_nil)))) (sb_one (s_raise rfl tk PySem.F.excBase_ValueError x_BadPuzzle.1 g_BadPuzzle x_BadPuzzle.2.1 (raises_own x_BadPuzzle.2.2.1 x_BadPuzzle.2.2.2) (by decide) rfl (gl (by kernel_rfl)))) sb_nil)
    (sb_cons (s_set hN (by kernel_rfl) (loc (by kernel_rfl)) (s_lst (sl_cons (s_tup sl_nil) sl_nil)) np0 (by rfl) (hfn (by kernel_rfl)))
    (sb_cons (s_for hp rfl (si_r1 (s_var (by kernel_rfl) (vis (by kernel_rfl))) (gl (by kernel_rfl)) b_range) (sg_name hN (by kernel_rfl) (loc (by kernel_rfl)) np0 (hfn (by kernel_rfl))) (sb_one (s_setLc2 rfl hN (by kernel_rfl) (by kernel_rfl) (sw_true rfl (by kernel_rfl) rfl (by kernel_rfl)) np0 (si_v (s_var (by kernel_rfl) (vis (by kernel_rfl)))) (blkOk_by (own := [("row", 3), ("one", 4)]) (by kernel_rfl)) rfl (inB (by kernel_rfl)) (inB (by kernel_rfl)) (inB (by kernel_rfl)) pv0 (fun _ _ _ _ _ => (sg_name hN (by kernel_rfl) (loc (by kernel_rfl)) np0 (hfn (by kernel_rfl)))) (fun _ _ _ _ _ => sc_nil) (fun _ _ _ _ _ => (si_r2 s_int (s_bin o_add (so_pk (by kernel_rfl) (vis (by kernel_rfl))) (so_ex s_int)) (gl (by kernel_rfl)) b_range)) (fun _ _ _ _ _ => (sg_name hN (by kernel_rfl) (loc (by kernel_rfl)) np0 (hfn (by kernel_rfl)))) (fun _ _ _ _ _ => (sc_one (st_cmp (o_nin hu) (so_pk (by kernel_rfl) (vis (by kernel_rfl))) (so_pk (by kernel_rfl) (vis (by kernel_rfl))) rfl))) (fun _ _ _ _ _ => (s_bin o_add (so_pk (by kernel_rfl) (vis (by kernel_rfl))) (so_ex (s_tup (sl_cons (s_var (by kernel_rfl) (vis (by kernel_rfl))) sl_nil))))))))
    (sb_one (s_ret (s_callT c_tuple (gl (by kernel_rfl)) b_tuple rfl (sa_cons (so_pk (by kernel_rfl) (vis (by kernel_rfl))) sa_nil))))))))
theorem ok_all_rows (KX : K.In h) (G : h.Ns mainGlobals mg) (c : SaysP ck fn K) : ∃ fd, (FnOk P w K mg base (L2.CX P w) 3 (He.ga K "all_rows") fd ["size"] (spF ⟨K, w, fns K⟩ (cls K) 1 sem_all_rows)) ∧ Binds K fd ["size"] [] ∧ PySem.W.keepIn K (.ref (He.ga K "all_rows")) = true := by
  obtain ⟨fd, Fd⟩ := c.def_ 8 (d := d_all_rows) rfl
  exact ⟨fd, okf_all_rows KX G c Fd, Fd.bindsN (fun _ _ _ _ _ _ us hl => match us, hl with | [_], _ => rfl), Fd.kp⟩
theorem sc_seen : FnScope ["row", "most", "found", "one"] ["row"] (defScope st_seen) := ⟨by kernel_rfl, by kernel_rfl, by kernel_rfl, by decide +kernel, by kernel_rfl, by decide +kernel, by decide +kernel⟩
theorem okf_seen (KX : K.In h) (G : h.Ns mainGlobals mg) (c : SaysP ck fn K) {fd : FuncData} (Fd : FunD K "seen" "seen" (defArgs st_seen) (defBody st_seen) (defScope st_seen) [] [] (He.ga K "seen") fd) : FnOk P w K mg base (L2.CX P w) 1 (He.ga K "seen") fd ["row"] (spF ⟨K, w, fns K⟩ (cls K) 1 sem_seen) := by
  have bd : Binds K fd ["row"] [] := Fd.bindsN fun _ _ _ _ _ _ us hl => match us, hl with | [_], _ => rfl
  exact fn_ok (k := 0) Fd sc_seen (fns K) (cls K) (by decide) (fun cdv A outer s H E hr => by
    have hN := sc_seen.nd
    have hu := room65 hr
    have hp := passes_of (X := cxOf (L2.CX P w) P w K mg base ["row", "most", "found", "one"] "seen" (defScope st_seen) (He.ga K "seen") cdv A outer s H E) rfl
    have tk : Takes (cxOf (L2.CX P w) P w K mg base ["row", "most", "found", "one"] "seen" (defScope st_seen) (He.ga K "seen") cdv A outer s H E) (parE (fns K) (cls K) E).W := takes_of rfl rfl rfl rfl
    exact (sb_cons (s_asg (s_tup (sl_cons s_int (sl_cons s_int sl_nil))) (sg_tup rfl (sgs_cons (sg_name hN (by kernel_rfl) (loc (by kernel_rfl)) np0 (hfn (by kernel_rfl))) (sgs_cons (sg_name hN (by kernel_rfl) (loc (by kernel_rfl)) np0 (hfn (by kernel_rfl))) sgs_nil))))
    (sb_cons (s_for hp rfl (si_v (s_var (by kernel_rfl) (vis (by kernel_rfl)))) (sg_name hN (by kernel_rfl) (loc (by kernel_rfl)) np0 (hfn (by kernel_rfl))) (sb_one (s_ifS (st_cmp o_gt (so_pk (by kernel_rfl) (vis (by kernel_rfl))) (so_pk (by kernel_rfl) (vis (by kernel_rfl))) rfl) (sb_one (s_par2 rfl hN (by kernel_rfl) (by kernel_rfl) (neB (by kernel_rfl)) (by kernel_rfl) (by kernel_rfl) (sl_cons (s_var (by kernel_rfl) (vis (by kernel_rfl))) (sl_cons (s_bin o_add (so_pk (by kernel_rfl) (vis (by kernel_rfl))) (so_ex s_int)) sl_nil)) np0 np0 (by rfl))) sb_nil)))
    (sb_one (s_ret (s_var (by kernel_rfl) (vis (by kernel_rfl))))))))
theorem ok_seen (KX : K.In h) (G : h.Ns mainGlobals mg) (c : SaysP ck fn K) : ∃ fd, (FnOk P w K mg base (L2.CX P w) 1 (He.ga K "seen") fd ["row"] (spF ⟨K, w, fns K⟩ (cls K) 1 sem_seen)) ∧ Binds K fd ["row"] [] ∧ PySem.W.keepIn K (.ref (He.ga K "seen")) = true := by
  obtain ⟨fd, Fd⟩ := c.def_ 9 (d := d_seen) rfl
  exact ⟨fd, okf_seen KX G c Fd, Fd.bindsN (fun _ _ _ _ _ _ us hl => match us, hl with | [_], _ => rfl), Fd.kp⟩
theorem sc_rows_seen : FnScope ["size", "first", "last", "row"] ["size", "first", "last"] (defScope st_rows_seen) := ⟨by kernel_rfl, by kernel_rfl, by kernel_rfl, by decide +kernel, by kernel_rfl, by decide +kernel, by decide +kernel⟩
theorem okf_rows_seen (KX : K.In h) (G : h.Ns mainGlobals mg) (c : SaysP ck fn K) {fd : FuncData} (Fd : FunD K "rows_seen" "rows_seen" (defArgs st_rows_seen) (defBody st_rows_seen) (defScope st_rows_seen) [] [] (He.ga K "rows_seen") fd) : FnOk P w K mg base (L2.CX P w) 4 (He.ga K "rows_seen") fd ["size", "first", "last"] (spF ⟨K, w, fns K⟩ (cls K) 3 sem_rows_seen) := by
  have bd : Binds K fd ["size", "first", "last"] [] := Fd.bindsN fun _ _ _ _ _ _ us hl => match us, hl with | [_, _, _], _ => rfl
  obtain ⟨_, k_all_rows⟩ := ok_all_rows (P := P) (w := w) (base := base) KX G c
  obtain ⟨_, k_look_at_seen⟩ := ok_look_at_seen (P := P) (w := w) (base := base) KX G c
  obtain ⟨_, k_seen⟩ := ok_seen (P := P) (w := w) (base := base) KX G c
  have g_look_at_seen := He.glo_ok KX G (factsB_fact (ckF c) 14 (f := .glo "look_at_seen") rfl)
  have g_all_rows := He.glo_ok KX G (factsB_fact (ckF c) 15 (f := .glo "all_rows") rfl)
  have g_seen := He.glo_ok KX G (factsB_fact (ckF c) 16 (f := .glo "seen") rfl)
  have b_tuple := He.free_ok KX G (factsB_fact (ckF c) 2 (f := .free "tuple") rfl)
  exact fn_ok (k := 3) Fd sc_rows_seen (fns K) (cls K) (by decide) (fun cdv A outer s H E hr => by
    have hN := sc_rows_seen.nd
    have hu := room65 hr
    have hp := passes_of (X := cxOf (L2.CX P w) P w K mg base ["size", "first", "last", "row"] "rows_seen" (defScope st_rows_seen) (He.ga K "rows_seen") cdv A outer s H E) rfl
    have tk : Takes (cxOf (L2.CX P w) P w K mg base ["size", "first", "last", "row"] "rows_seen" (defScope st_rows_seen) (He.ga K "rows_seen") cdv A outer s H E) (parE (fns K) (cls K) E).W := takes_of rfl rfl rfl rfl
    exact (sb_cons (s_expr (s_call (k_look_at_seen.1) (hr.mono (by decide)) tk (gl (by kernel_rfl)) g_look_at_seen k_look_at_seen.2.2 k_look_at_seen.2.1 (sl_cons (s_var (by kernel_rfl) (vis (by kernel_rfl))) (sl_cons (s_var (by kernel_rfl) (vis (by kernel_rfl))) (sl_cons (s_var (by kernel_rfl) (vis (by kernel_rfl))) sl_nil)))))
    (sb_one (s_ret (s_callT c_tuple (gl (by kernel_rfl)) b_tuple rfl (sa_cons (so_ex (s_lc rfl hN (si_v (s_call (k_all_rows.1) (hr.mono (by decide)) tk (gl (by kernel_rfl)) g_all_rows k_all_rows.2.2 k_all_rows.2.1 (sl_cons (s_var (by kernel_rfl) (vis (by kernel_rfl))) sl_nil))) (blkOk_by (own := [("row", 3)]) (by kernel_rfl)) rfl (inB (by kernel_rfl)) pv0 (fun _ _ _ _ _ => (sg_name hN (by kernel_rfl) (loc (by kernel_rfl)) np0 (hfn (by kernel_rfl)))) (fun _ _ _ _ _ => (sc_one (SW.st (sw_and (st_cmp (o_in hu) (so_pk (by kernel_rfl) (vis (by kernel_rfl))) (so_ex (s_tup (sl_cons s_int (sl_cons (s_call (k_seen.1) (hr.mono (by decide)) calm0 (gl (by kernel_rfl)) g_seen k_seen.2.2 k_seen.2.1 (sl_cons (s_var (by kernel_rfl) (vis (by kernel_rfl))) sl_nil)) sl_nil)))) rfl) (sw_and1 (st_cmp (o_in hu) (so_pk (by kernel_rfl) (vis (by kernel_rfl))) (so_ex (s_tup (sl_cons s_int (sl_cons (s_call (k_seen.1) (hr.mono (by decide)) calm0 (gl (by kernel_rfl)) g_seen k_seen.2.2 k_seen.2.1 (sl_cons (s_rev (so_pk (by kernel_rfl) (vis (by kernel_rfl)))) sl_nil)) sl_nil)))) rfl)))))) (fun _ _ _ _ _ => (s_var (by kernel_rfl) (vis (by kernel_rfl)))))) sa_nil))))))
theorem ok_rows_seen (KX : K.In h) (G : h.Ns mainGlobals mg) (c : SaysP ck fn K) : ∃ fd, (FnOk P w K mg base (L2.CX P w) 4 (He.ga K "rows_seen") fd ["size", "first", "last"] (spF ⟨K, w, fns K⟩ (cls K) 3 sem_rows_seen)) ∧ Binds K fd ["size", "first", "last"] [] ∧ PySem.W.keepIn K (.ref (He.ga K "rows_seen")) = true := by
  obtain ⟨fd, Fd⟩ := c.def_ 10 (d := d_rows_seen) rfl
  exact ⟨fd, okf_rows_seen KX G c Fd, Fd.bindsN (fun _ _ _ _ _ _ us hl => match us, hl with | [_, _, _], _ => rfl), Fd.kp⟩
theorem sc_bounds_for : FnScope ["size", "first", "place"] ["size", "first", "place"] (defScope st_bounds_for) := ⟨by kernel_rfl, by kernel_rfl, by kernel_rfl, by decide +kernel, by kernel_rfl, by decide +kernel, by decide +kernel⟩
theorem okf_bounds_for (KX : K.In h) (G : h.Ns mainGlobals mg) (c : SaysP ck fn K) {fd : FuncData} (Fd : FunD K "bounds_for" "bounds_for" (defArgs st_bounds_for) (defBody st_bounds_for) (defScope st_bounds_for) [] [] (He.ga K "bounds_for") fd) : FnOk P w K mg base (L2.CX P w) 4 (He.ga K "bounds_for") fd ["size", "first", "place"] (spF ⟨K, w, fns K⟩ (cls K) 3 sem_bounds_for) := by
  have bd : Binds K fd ["size", "first", "place"] [] := Fd.bindsN fun _ _ _ _ _ _ us hl => match us, hl with | [_, _, _], _ => rfl
  obtain ⟨_, k_is_whole⟩ := ok_is_whole (P := P) (w := w) (base := base) KX G c
  obtain ⟨_, k_look_at_seen⟩ := ok_look_at_seen (P := P) (w := w) (base := base) KX G c
  have g_look_at_seen := He.glo_ok KX G (factsB_fact (ckF c) 14 (f := .glo "look_at_seen") rfl)
  have g_is_whole := He.glo_ok KX G (factsB_fact (ckF c) 9 (f := .glo "is_whole") rfl)
  have g_BadPuzzle := He.glo_ok KX G (factsB_fact (ckF c) 13 (f := .glo "BadPuzzle") rfl)
  have b_min := He.free_ok KX G (factsB_fact (ckF c) 17 (f := .free "min") rfl)
  have x_BadPuzzle := He.exc_ok (factsB_exc (ckF c) 0 (f := "BadPuzzle") rfl).1
  exact fn_ok (k := 3) Fd sc_bounds_for (fns K) (cls K) (by decide) (fun cdv A outer s H E hr => by
    have hN := sc_bounds_for.nd
    have hu := room65 hr
    have hp := passes_of (X := cxOf (L2.CX P w) P w K mg base ["size", "first", "place"] "bounds_for" (defScope st_bounds_for) (He.ga K "bounds_for") cdv A outer s H E) rfl
    have tk : Takes (cxOf (L2.CX P w) P w K mg base ["size", "first", "place"] "bounds_for" (defScope st_bounds_for) (He.ga K "bounds_for") cdv A outer s H E) (parE (fns K) (cls K) E).W := takes_of rfl rfl rfl rfl
    exact (sb_cons (s_expr (s_call (k_look_at_seen.1) (hr.mono (by decide)) tk (gl (by kernel_rfl)) g_look_at_seen k_look_at_seen.2.2 k_look_at_seen.2.1 (sl_cons (s_var (by kernel_rfl) (vis (by kernel_rfl))) (sl_cons (s_var (by kernel_rfl) (vis (by kernel_rfl))) (sl_cons s_int sl_nil)))))
    (sb_cons (s_ifS (SW.st (sw_or (st_not (st_val (s_call (k_is_whole.1) (hr.mono (by decide)) tk (gl (by kernel_rfl)) g_is_whole k_is_whole.2.2 k_is_whole.2.1 (sl_cons (s_var (by kernel_rfl) (vis (by kernel_rfl))) sl_nil)))) (sw_or (st_not (st_chain o_le o_lt (so_ex s_int) (so_pk (by kernel_rfl) (vis (by kernel_rfl))) (so_pk (by kernel_rfl) (vis (by kernel_rfl))))) (sw_or1 (st_cmp (o_eq hu) (so_pk (by kernel_rfl) (vis (by kernel_rfl))) (so_ex s_int) rfl))))) (sb_one (s_raise rfl tk PySem.F.excBase_ValueError x_BadPuzzle.1 g_BadPuzzle x_BadPuzzle.2.1 (raises_own x_BadPuzzle.2.2.1 x_BadPuzzle.2.2.2) (by decide) rfl (gl (by kernel_rfl)))) sb_nil)
    (sb_cons (s_ifS (SW.st (sw_and (st_cmp (o_eq hu) (so_pk (by kernel_rfl) (vis (by kernel_rfl))) (so_ex s_int) rfl) (sw_and1 (st_cmp o_gt (so_pk (by kernel_rfl) (vis (by kernel_rfl))) (so_ex s_int) rfl)))) (sb_one (s_ret (s_bin o_sub (so_pk (by kernel_rfl) (vis (by kernel_rfl))) (so_ex s_int)))) sb_nil)
    (sb_one (s_ret (s_callB (c_min rfl) (gl (by kernel_rfl)) b_min rfl (sa_cons (so_pk (by kernel_rfl) (vis (by kernel_rfl))) (sa_cons (so_ex (s_bin o_add (so_ex (s_bin o_add (so_ex (s_bin o_sub (so_pk (by kernel_rfl) (vis (by kernel_rfl))) (so_pk (by kernel_rfl) (vis (by kernel_rfl))))) (so_ex s_int))) (so_pk (by kernel_rfl) (vis (by kernel_rfl))))) sa_nil)))))))))
theorem ok_bounds_for (KX : K.In h) (G : h.Ns mainGlobals mg) (c : SaysP ck fn K) : ∃ fd, (FnOk P w K mg base (L2.CX P w) 4 (He.ga K "bounds_for") fd ["size", "first", "place"] (spF ⟨K, w, fns K⟩ (cls K) 3 sem_bounds_for)) ∧ Binds K fd ["size", "first", "place"] [] ∧ PySem.W.keepIn K (.ref (He.ga K "bounds_for")) = true := by
  obtain ⟨fd, Fd⟩ := c.def_ 11 (d := d_bounds_for) rfl
  exact ⟨fd, okf_bounds_for KX G c Fd, Fd.bindsN (fun _ _ _ _ _ _ us hl => match us, hl with | [_, _, _], _ => rfl), Fd.kp⟩
theorem sc_look_at_count : FnScope ["size", "many"] ["size", "many"] (defScope st_look_at_count) := ⟨by kernel_rfl, by kernel_rfl, by kernel_rfl, by decide +kernel, by kernel_rfl, by decide +kernel, by decide +kernel⟩
theorem okf_look_at_count (KX : K.In h) (G : h.Ns mainGlobals mg) (c : SaysP ck fn K) {fd : FuncData} (Fd : FunD K "look_at_count" "look_at_count" (defArgs st_look_at_count) (defBody st_look_at_count) (defScope st_look_at_count) [] [] (He.ga K "look_at_count") fd) : FnOk P w K mg base (L2.CX P w) 2 (He.ga K "look_at_count") fd ["size", "many"] (spF ⟨K, w, fns K⟩ (cls K) 2 sem_look_at_count) := by
  have bd : Binds K fd ["size", "many"] [] := Fd.bindsN fun _ _ _ _ _ _ us hl => match us, hl with | [_, _], _ => rfl
  obtain ⟨_, k_is_whole⟩ := ok_is_whole (P := P) (w := w) (base := base) KX G c
  have g_is_whole := He.glo_ok KX G (factsB_fact (ckF c) 9 (f := .glo "is_whole") rfl)
  have g_BadPuzzle := He.glo_ok KX G (factsB_fact (ckF c) 13 (f := .glo "BadPuzzle") rfl)
  have x_BadPuzzle := He.exc_ok (factsB_exc (ckF c) 0 (f := "BadPuzzle") rfl).1
  exact fn_ok (k := 1) Fd sc_look_at_count (fns K) (cls K) (by decide) (fun cdv A outer s H E hr => by
    have hN := sc_look_at_count.nd
    have hu := room65 hr
    have hp := passes_of (X := cxOf (L2.CX P w) P w K mg base ["size", "many"] "look_at_count" (defScope st_look_at_count) (He.ga K "look_at_count") cdv A outer s H E) rfl
    have tk : Takes (cxOf (L2.CX P w) P w K mg base ["size", "many"] "look_at_count" (defScope st_look_at_count) (He.ga K "look_at_count") cdv A outer s H E) (parE (fns K) (cls K) E).W := takes_of rfl rfl rfl rfl
    exact (sb_one (s_ifS (SW.st (sw_or (st_not (st_val (s_call (k_is_whole.1) (hr.mono (by decide)) tk (gl (by kernel_rfl)) g_is_whole k_is_whole.2.2 k_is_whole.2.1 (sl_cons (s_var (by kernel_rfl) (vis (by kernel_rfl))) sl_nil)))) (sw_or (st_not (st_chain o_le o_le (so_ex s_int) (so_pk (by kernel_rfl) (vis (by kernel_rfl))) (so_ex s_int))) (sw_or (st_not (st_val (s_call (k_is_whole.1) (hr.mono (by decide)) tk (gl (by kernel_rfl)) g_is_whole k_is_whole.2.2 k_is_whole.2.1 (sl_cons (s_var (by kernel_rfl) (vis (by kernel_rfl))) sl_nil)))) (sw_or1 (st_cmp o_lt (so_pk (by kernel_rfl) (vis (by kernel_rfl))) (so_ex s_int) rfl)))))) (sb_one (s_raise rfl tk PySem.F.excBase_ValueError x_BadPuzzle.1 g_BadPuzzle x_BadPuzzle.2.1 (raises_own x_BadPuzzle.2.2.1 x_BadPuzzle.2.2.2) (by decide) rfl (gl (by kernel_rfl)))) sb_nil)))
theorem ok_look_at_count (KX : K.In h) (G : h.Ns mainGlobals mg) (c : SaysP ck fn K) : ∃ fd, (FnOk P w K mg base (L2.CX P w) 2 (He.ga K "look_at_count") fd ["size", "many"] (spF ⟨K, w, fns K⟩ (cls K) 2 sem_look_at_count)) ∧ Binds K fd ["size", "many"] [] ∧ PySem.W.keepIn K (.ref (He.ga K "look_at_count")) = true := by
  obtain ⟨fd, Fd⟩ := c.def_ 12 (d := d_look_at_count) rfl
  exact ⟨fd, okf_look_at_count KX G c Fd, Fd.bindsN (fun _ _ _ _ _ _ us hl => match us, hl with | [_, _], _ => rfl), Fd.kp⟩
theorem sc_choose : FnScope ["many", "some", "found", "at"] ["many", "some"] (defScope st_choose) := ⟨by kernel_rfl, by kernel_rfl, by kernel_rfl, by decide +kernel, by kernel_rfl, by decide +kernel, by decide +kernel⟩
theorem okf_choose (KX : K.In h) (G : h.Ns mainGlobals mg) (c : SaysP ck fn K) {fd : FuncData} (Fd : FunD K "choose" "choose" (defArgs st_choose) (defBody st_choose) (defScope st_choose) [] [] (He.ga K "choose") fd) : FnOk P w K mg base (L2.CX P w) 1 (He.ga K "choose") fd ["many", "some"] (spF ⟨K, w, fns K⟩ (cls K) 2 sem_choose) := by
  have bd : Binds K fd ["many", "some"] [] := Fd.bindsN fun _ _ _ _ _ _ us hl => match us, hl with | [_, _], _ => rfl
  have b_range := He.free_ok KX G (factsB_fact (ckF c) 4 (f := .free "range") rfl)
  exact fn_ok (k := 0) Fd sc_choose (fns K) (cls K) (by decide) (fun cdv A outer s H E hr => by
    have hN := sc_choose.nd
    have hu := room65 hr
    have hp := passes_of (X := cxOf (L2.CX P w) P w K mg base ["many", "some", "found", "at"] "choose" (defScope st_choose) (He.ga K "choose") cdv A outer s H E) rfl
    have tk : Takes (cxOf (L2.CX P w) P w K mg base ["many", "some", "found", "at"] "choose" (defScope st_choose) (He.ga K "choose") cdv A outer s H E) (parE (fns K) (cls K) E).W := takes_of rfl rfl rfl rfl
    exact (sb_cons (s_ifS (st_not (st_chain o_le o_le (so_ex s_int) (so_pk (by kernel_rfl) (vis (by kernel_rfl))) (so_pk (by kernel_rfl) (vis (by kernel_rfl))))) (sb_one (s_ret s_int)) sb_nil)
    (sb_cons (s_set hN (by kernel_rfl) (loc (by kernel_rfl)) s_int np0 (by rfl) (hfn (by kernel_rfl)))
    (sb_cons (s_for hp rfl (si_r1 (s_var (by kernel_rfl) (vis (by kernel_rfl))) (gl (by kernel_rfl)) b_range) (sg_name hN (by kernel_rfl) (loc (by kernel_rfl)) np0 (hfn (by kernel_rfl))) (sb_one (s_set hN (by kernel_rfl) (loc (by kernel_rfl)) (s_bin o_div (so_ex (s_bin o_mul (so_pk (by kernel_rfl) (vis (by kernel_rfl))) (so_ex (s_bin o_sub (so_pk (by kernel_rfl) (vis (by kernel_rfl))) (so_pk (by kernel_rfl) (vis (by kernel_rfl))))))) (so_ex (s_bin o_add (so_pk (by kernel_rfl) (vis (by kernel_rfl))) (so_ex s_int)))) np0 (by rfl) (hfn (by kernel_rfl)))))
    (sb_one (s_ret (s_var (by kernel_rfl) (vis (by kernel_rfl)))))))))
theorem ok_choose (KX : K.In h) (G : h.Ns mainGlobals mg) (c : SaysP ck fn K) : ∃ fd, (FnOk P w K mg base (L2.CX P w) 1 (He.ga K "choose") fd ["many", "some"] (spF ⟨K, w, fns K⟩ (cls K) 2 sem_choose)) ∧ Binds K fd ["many", "some"] [] ∧ PySem.W.keepIn K (.ref (He.ga K "choose")) = true := by
  obtain ⟨fd, Fd⟩ := c.def_ 13 (d := d_choose) rfl
  exact ⟨fd, okf_choose KX G c Fd, Fd.bindsN (fun _ _ _ _ _ _ us hl => match us, hl with | [_, _], _ => rfl), Fd.kp⟩
theorem sc_count_seen : FnScope ["size", "many", "row", "at", "k"] ["size", "many"] (defScope st_count_seen) := ⟨by kernel_rfl, by kernel_rfl, by kernel_rfl, by decide +kernel, by kernel_rfl, by decide +kernel, by decide +kernel⟩
theorem okf_count_seen (KX : K.In h) (G : h.Ns mainGlobals mg) (c : SaysP ck fn K) {fd : FuncData} (Fd : FunD K "count_seen" "count_seen" (defArgs st_count_seen) (defBody st_count_seen) (defScope st_count_seen) [] [] (He.ga K "count_seen") fd) : FnOk P w K mg base (L2.CX P w) 3 (He.ga K "count_seen") fd ["size", "many"] (spF ⟨K, w, fns K⟩ (cls K) 2 sem_count_seen) := by
  have bd : Binds K fd ["size", "many"] [] := Fd.bindsN fun _ _ _ _ _ _ us hl => match us, hl with | [_, _], _ => rfl
  obtain ⟨_, k_look_at_count⟩ := ok_look_at_count (P := P) (w := w) (base := base) KX G c
  have g_look_at_count := He.glo_ok KX G (factsB_fact (ckF c) 18 (f := .glo "look_at_count") rfl)
  have b_range := He.free_ok KX G (factsB_fact (ckF c) 4 (f := .free "range") rfl)
  have b_len := He.free_ok KX G (factsB_fact (ckF c) 3 (f := .free "len") rfl)
  exact fn_ok (k := 2) Fd sc_count_seen (fns K) (cls K) (by decide) (fun cdv A outer s H E hr => by
    have hN := sc_count_seen.nd
    have hu := room65 hr
    have hp := passes_of (X := cxOf (L2.CX P w) P w K mg base ["size", "many", "row", "at", "k"] "count_seen" (defScope st_count_seen) (He.ga K "count_seen") cdv A outer s H E) rfl
    have tk : Takes (cxOf (L2.CX P w) P w K mg base ["size", "many", "row", "at", "k"] "count_seen" (defScope st_count_seen) (He.ga K "count_seen") cdv A outer s H E) (parE (fns K) (cls K) E).W := takes_of rfl rfl rfl rfl
    exact (sb_cons (s_expr (s_call (k_look_at_count.1) (hr.mono (by decide)) tk (gl (by kernel_rfl)) g_look_at_count k_look_at_count.2.2 k_look_at_count.2.1 (sl_cons (s_var (by kernel_rfl) (vis (by kernel_rfl))) (sl_cons (s_var (by kernel_rfl) (vis (by kernel_rfl))) sl_nil))))
    (sb_cons (s_set hN (by kernel_rfl) (loc (by kernel_rfl)) (s_lst (sl_cons s_int sl_nil)) np0 (by rfl) (hfn (by kernel_rfl)))
    (sb_cons (s_for hp rfl (si_r1 (s_var (by kernel_rfl) (vis (by kernel_rfl))) (gl (by kernel_rfl)) b_range) (sg_name hN (by kernel_rfl) (loc (by kernel_rfl)) np0 (hfn (by kernel_rfl))) (sb_one (s_set hN (by kernel_rfl) (loc (by kernel_rfl)) (s_lc rfl hN (si_r1 (s_bin o_add (so_ex (s_callB c_len (gl (by kernel_rfl)) b_len rfl (sa_cons (so_pk (by kernel_rfl) (vis (by kernel_rfl))) sa_nil))) (so_ex s_int)) (gl (by kernel_rfl)) b_range) (blkOk_by (own := [("k", 4)]) (by kernel_rfl)) rfl (inB (by kernel_rfl)) pv0 (fun _ _ _ _ _ => (sg_name hN (by kernel_rfl) (loc (by kernel_rfl)) np0 (hfn (by kernel_rfl)))) (fun _ _ _ _ _ => sc_nil) (fun _ _ _ _ _ => (s_bin o_add (so_ex (s_bin o_mul (so_pk (by kernel_rfl) (vis (by kernel_rfl))) (so_ex (s_if (st_cmp o_lt (so_pk (by kernel_rfl) (vis (by kernel_rfl))) (so_ex (s_callB c_len (gl (by kernel_rfl)) b_len rfl (sa_cons (so_pk (by kernel_rfl) (vis (by kernel_rfl))) sa_nil))) rfl) (s_ix x_ix (so_pk (by kernel_rfl) (vis (by kernel_rfl))) (so_pk (by kernel_rfl) (vis (by kernel_rfl))) (fun _ _ => rfl)) s_int)))) (so_ex (s_if (st_cmp o_gt (so_pk (by kernel_rfl) (vis (by kernel_rfl))) (so_ex s_int) rfl) (s_ix x_ix (so_pk (by kernel_rfl) (vis (by kernel_rfl))) (so_ex (s_bin o_sub (so_pk (by kernel_rfl) (vis (by kernel_rfl))) (so_ex s_int))) (fun _ _ => rfl)) s_int))))) np0 (by rfl) (hfn (by kernel_rfl)))))
    (sb_one (s_ret (s_if (st_cmp o_lt (so_pk (by kernel_rfl) (vis (by kernel_rfl))) (so_ex (s_callB c_len (gl (by kernel_rfl)) b_len rfl (sa_cons (so_pk (by kernel_rfl) (vis (by kernel_rfl))) sa_nil))) rfl) (s_ix x_ix (so_pk (by kernel_rfl) (vis (by kernel_rfl))) (so_pk (by kernel_rfl) (vis (by kernel_rfl))) (fun _ _ => rfl)) s_int)))))))
theorem ok_count_seen (KX : K.In h) (G : h.Ns mainGlobals mg) (c : SaysP ck fn K) : ∃ fd, (FnOk P w K mg base (L2.CX P w) 3 (He.ga K "count_seen") fd ["size", "many"] (spF ⟨K, w, fns K⟩ (cls K) 2 sem_count_seen)) ∧ Binds K fd ["size", "many"] [] ∧ PySem.W.keepIn K (.ref (He.ga K "count_seen")) = true := by
  obtain ⟨fd, Fd⟩ := c.def_ 14 (d := d_count_seen) rfl
  exact ⟨fd, okf_count_seen KX G c Fd, Fd.bindsN (fun _ _ _ _ _ _ us hl => match us, hl with | [_, _], _ => rfl), Fd.kp⟩
theorem sc_count_both : FnScope ["size", "first", "last"] ["size", "first", "last"] (defScope st_count_both) := ⟨by kernel_rfl, by kernel_rfl, by kernel_rfl, by decide +kernel, by kernel_rfl, by decide +kernel, by decide +kernel⟩
theorem okf_count_both (KX : K.In h) (G : h.Ns mainGlobals mg) (c : SaysP ck fn K) {fd : FuncData} (Fd : FunD K "count_both" "count_both" (defArgs st_count_both) (defBody st_count_both) (defScope st_count_both) [] [] (He.ga K "count_both") fd) : FnOk P w K mg base (L2.CX P w) 4 (He.ga K "count_both") fd ["size", "first", "last"] (spF ⟨K, w, fns K⟩ (cls K) 3 sem_count_both) := by
  have bd : Binds K fd ["size", "first", "last"] [] := Fd.bindsN fun _ _ _ _ _ _ us hl => match us, hl with | [_, _, _], _ => rfl
  obtain ⟨_, k_choose⟩ := ok_choose (P := P) (w := w) (base := base) KX G c
  obtain ⟨_, k_count_seen⟩ := ok_count_seen (P := P) (w := w) (base := base) KX G c
  obtain ⟨_, k_look_at_count⟩ := ok_look_at_count (P := P) (w := w) (base := base) KX G c
  have g_look_at_count := He.glo_ok KX G (factsB_fact (ckF c) 18 (f := .glo "look_at_count") rfl)
  have b_int := He.free_ok KX G (factsB_fact (ckF c) 8 (f := .free "int") rfl)
  have g_choose := He.glo_ok KX G (factsB_fact (ckF c) 19 (f := .glo "choose") rfl)
  have g_count_seen := He.glo_ok KX G (factsB_fact (ckF c) 20 (f := .glo "count_seen") rfl)
  exact fn_ok (k := 3) Fd sc_count_both (fns K) (cls K) (by decide) (fun cdv A outer s H E hr => by
    have hN := sc_count_both.nd
    have hu := room65 hr
    have hp := passes_of (X := cxOf (L2.CX P w) P w K mg base ["size", "first", "last"] "count_both" (defScope st_count_both) (He.ga K "count_both") cdv A outer s H E) rfl
    have tk : Takes (cxOf (L2.CX P w) P w K mg base ["size", "first", "last"] "count_both" (defScope st_count_both) (He.ga K "count_both") cdv A outer s H E) (parE (fns K) (cls K) E).W := takes_of rfl rfl rfl rfl
    exact (sb_cons (s_expr (s_call (k_look_at_count.1) (hr.mono (by decide)) tk (gl (by kernel_rfl)) g_look_at_count k_look_at_count.2.2 k_look_at_count.2.1 (sl_cons (s_var (by kernel_rfl) (vis (by kernel_rfl))) (sl_cons (s_var (by kernel_rfl) (vis (by kernel_rfl))) sl_nil))))
    (sb_cons (s_expr (s_call (k_look_at_count.1) (hr.mono (by decide)) tk (gl (by kernel_rfl)) g_look_at_count k_look_at_count.2.2 k_look_at_count.2.1 (sl_cons (s_var (by kernel_rfl) (vis (by kernel_rfl))) (sl_cons (s_var (by kernel_rfl) (vis (by kernel_rfl))) sl_nil))))
    (sb_cons (s_ifS (SW.st (sw_or (st_cmp (o_eq hu) (so_pk (by kernel_rfl) (vis (by kernel_rfl))) (so_ex s_int) rfl) (sw_or (st_cmp (o_eq hu) (so_pk (by kernel_rfl) (vis (by kernel_rfl))) (so_ex s_int) rfl) (sw_or1 (st_cmp (o_eq hu) (so_pk (by kernel_rfl) (vis (by kernel_rfl))) (so_ex s_int) rfl))))) (sb_one (s_ret (s_callT c_int (gl (by kernel_rfl)) b_int rfl (sa_cons (so_ex (s_and (s_cmp (o_eq hu) (so_pk (by kernel_rfl) (vis (by kernel_rfl))) (so_ex s_int) rfl) (s_and (s_cmp (o_eq hu) (so_pk (by kernel_rfl) (vis (by kernel_rfl))) (so_ex s_int) rfl) (s_one (s_cmp (o_eq hu) (so_pk (by kernel_rfl) (vis (by kernel_rfl))) (so_ex s_int) rfl))))) sa_nil)))) sb_nil)
    (sb_one (s_ret (s_bin o_mul (so_ex (s_call (k_choose.1) (hr.mono (by decide)) tk (gl (by kernel_rfl)) g_choose k_choose.2.2 k_choose.2.1 (sl_cons (s_bin o_sub (so_ex (s_bin o_add (so_pk (by kernel_rfl) (vis (by kernel_rfl))) (so_pk (by kernel_rfl) (vis (by kernel_rfl))))) (so_ex s_int)) (sl_cons (s_bin o_sub (so_pk (by kernel_rfl) (vis (by kernel_rfl))) (so_ex s_int)) sl_nil)))) (so_ex (s_call (k_count_seen.1) (hr.mono (by decide)) tk (gl (by kernel_rfl)) g_count_seen k_count_seen.2.2 k_count_seen.2.1 (sl_cons (s_bin o_sub (so_pk (by kernel_rfl) (vis (by kernel_rfl))) (so_ex s_int)) (sl_cons (s_bin o_sub (so_ex (s_bin o_add (so_pk (by kernel_rfl) (vis (by kernel_rfl))) (so_pk (by kernel_rfl) (vis (by kernel_rfl))))) (so_ex s_int)) sl_nil)))))))))))
theorem ok_count_both (KX : K.In h) (G : h.Ns mainGlobals mg) (c : SaysP ck fn K) : ∃ fd, (FnOk P w K mg base (L2.CX P w) 4 (He.ga K "count_both") fd ["size", "first", "last"] (spF ⟨K, w, fns K⟩ (cls K) 3 sem_count_both)) ∧ Binds K fd ["size", "first", "last"] [] ∧ PySem.W.keepIn K (.ref (He.ga K "count_both")) = true := by
  obtain ⟨fd, Fd⟩ := c.def_ 15 (d := d_count_both) rfl
  exact ⟨fd, okf_count_both KX G c Fd, Fd.bindsN (fun _ _ _ _ _ _ us hl => match us, hl with | [_, _, _], _ => rfl), Fd.kp⟩
theorem sc__law_asked : FnScope ["k", "one", "two", "three", "e"] ["k", "one", "two", "three"] (defScope st__law_asked) := ⟨by kernel_rfl, by kernel_rfl, by kernel_rfl, by decide +kernel, by kernel_rfl, by decide +kernel, by decide +kernel⟩
theorem okf__law_asked (KX : K.In h) (G : h.Ns mainGlobals mg) (c : SaysP ck fn K) {fd : FuncData} (Fd : FunD K "_law_asked" "_law_asked" (defArgs st__law_asked) (defBody st__law_asked) (defScope st__law_asked) [] [] (He.ga K "_law_asked") fd) : FnOk P w K mg base (L2.CX P w) 5 (He.ga K "_law_asked") fd ["k", "one", "two", "three"] (spF ⟨K, w, fns K⟩ (cls K) 4 sem__law_asked) := by
  have bd : Binds K fd ["k", "one", "two", "three"] [] := Fd.bindsN fun _ _ _ _ _ _ us hl => match us, hl with | [_, _, _, _], _ => rfl
  obtain ⟨_, k_all_rows⟩ := ok_all_rows (P := P) (w := w) (base := base) KX G c
  obtain ⟨_, k_bounds_for⟩ := ok_bounds_for (P := P) (w := w) (base := base) KX G c
  obtain ⟨_, k_count_both⟩ := ok_count_both (P := P) (w := w) (base := base) KX G c
  obtain ⟨_, k_count_seen⟩ := ok_count_seen (P := P) (w := w) (base := base) KX G c
  obtain ⟨_, k_rows_seen⟩ := ok_rows_seen (P := P) (w := w) (base := base) KX G c
  have g_rows_seen := He.glo_ok KX G (factsB_fact (ckF c) 21 (f := .glo "rows_seen") rfl)
  have g_bounds_for := He.glo_ok KX G (factsB_fact (ckF c) 22 (f := .glo "bounds_for") rfl)
  have g_count_both := He.glo_ok KX G (factsB_fact (ckF c) 23 (f := .glo "count_both") rfl)
  have g_count_seen := He.glo_ok KX G (factsB_fact (ckF c) 20 (f := .glo "count_seen") rfl)
  have g_all_rows := He.glo_ok KX G (factsB_fact (ckF c) 15 (f := .glo "all_rows") rfl)
  have b_isinstance := He.free_ok KX G (factsB_fact (ckF c) 1 (f := .free "isinstance") rfl)
  have g_BadPuzzle := He.glo_ok KX G (factsB_fact (ckF c) 13 (f := .glo "BadPuzzle") rfl)
  have g_PencilError := He.glo_ok KX G (factsB_fact (ckF c) 24 (f := .glo "PencilError") rfl)
  have exC : ExcC K (He.ga K "BadPuzzle") := (factsB_exc (ckF c) 0 (f := "BadPuzzle") rfl).2
  have kE_BadPuzzle := kit_BadPuzzle_BadPuzzle c
  have hE0 : ∀ {e : Exc} {cl : Value} {d : Option Addr}, ExC (cls K) e cl d → cl = .ref (He.ga K "BadPuzzle") ∧ d = none := fun {e cl d} ⟨C, h1, h2, h3⟩ => by
    unfold cls at h1
    split at h1
    · rename_i hc
      cases h1
      exact ⟨h2, h3 (by rw [hc]; decide)⟩
    · cases h1
  have em_PencilError := He.exm_ok (factsB_fact (ckF c) 34 (f := .exm "BadPuzzle" "PencilError" true) rfl)
  have hcat_PencilError : ∀ (e : Exc) (cl : Value) (d : Option Addr), ExC (cls K) e cl d → PySem.W.exmOne K cl (.ref (He.ga K "PencilError")) = some (catP e.c) := fun e cl d z => by
    obtain ⟨h1, _⟩ := hE0 z
    rw [h1]
    exact em_PencilError
  exact fn_ok (k := 4) Fd sc__law_asked (fns K) (cls K) (by decide) (fun cdv A outer s H E hr => by
    have hN := sc__law_asked.nd
    have hu := room65 hr
    have hp := passes_of (X := cxOf (L2.CX P w) P w K mg base ["k", "one", "two", "three", "e"] "_law_asked" (defScope st__law_asked) (He.ga K "_law_asked") cdv A outer s H E) rfl
    have tk : Takes (cxOf (L2.CX P w) P w K mg base ["k", "one", "two", "three", "e"] "_law_asked" (defScope st__law_asked) (He.ga K "_law_asked") cdv A outer s H E) (parE (fns K) (cls K) E).W := takes_of rfl rfl rfl rfl
    exact (sb_one (s_try rfl rfl hN (by kernel_rfl) (by kernel_rfl) ⟨(gl (by kernel_rfl)), by decide, .inl g_PencilError⟩ tk np0 hcat_PencilError (fun W pn xe tk hp => (sb_cons (s_ifS (st_cmp (o_eq hu) (so_pk (by kernel_rfl) (vis (by kernel_rfl))) (so_ex s_int) rfl) (sb_one (s_ret (s_call (k_rows_seen.1) (hr.mono (by decide)) tk (gl (by kernel_rfl)) g_rows_seen k_rows_seen.2.2 k_rows_seen.2.1 (sl_cons (s_var (by kernel_rfl) (vis (by kernel_rfl))) (sl_cons (s_var (by kernel_rfl) (vis (by kernel_rfl))) (sl_cons (s_var (by kernel_rfl) (vis (by kernel_rfl))) sl_nil)))))) sb_nil)
    (sb_one (s_ret (s_if (st_cmp (o_eq hu) (so_pk (by kernel_rfl) (vis (by kernel_rfl))) (so_ex s_int) rfl) (s_call (k_bounds_for.1) (hr.mono (by decide)) tk (gl (by kernel_rfl)) g_bounds_for k_bounds_for.2.2 k_bounds_for.2.1 (sl_cons (s_var (by kernel_rfl) (vis (by kernel_rfl))) (sl_cons (s_var (by kernel_rfl) (vis (by kernel_rfl))) (sl_cons (s_var (by kernel_rfl) (vis (by kernel_rfl))) sl_nil)))) (s_if (st_cmp (o_eq hu) (so_pk (by kernel_rfl) (vis (by kernel_rfl))) (so_ex s_int) rfl) (s_call (k_count_both.1) (hr.mono (by decide)) tk (gl (by kernel_rfl)) g_count_both k_count_both.2.2 k_count_both.2.1 (sl_cons (s_var (by kernel_rfl) (vis (by kernel_rfl))) (sl_cons (s_var (by kernel_rfl) (vis (by kernel_rfl))) (sl_cons (s_var (by kernel_rfl) (vis (by kernel_rfl))) sl_nil)))) (s_if (st_cmp (o_eq hu) (so_pk (by kernel_rfl) (vis (by kernel_rfl))) (so_ex s_int) rfl) (s_call (k_count_seen.1) (hr.mono (by decide)) tk (gl (by kernel_rfl)) g_count_seen k_count_seen.2.2 k_count_seen.2.1 (sl_cons (s_var (by kernel_rfl) (vis (by kernel_rfl))) (sl_cons (s_var (by kernel_rfl) (vis (by kernel_rfl))) sl_nil))) (s_call (k_all_rows.1) (hr.mono (by decide)) tk (gl (by kernel_rfl)) g_all_rows k_all_rows.2.2 k_all_rows.2.1 (sl_cons (s_var (by kernel_rfl) (vis (by kernel_rfl))) sl_nil))))))))) (fun a oe cls d pn e hz hf hE hc => by
      obtain ⟨rfl, rfl⟩ := hE0 hE
      exact (sb_one (s_ret (s_if (st_val (s_isE exC hz hf kE_BadPuzzle rfl (gl (by kernel_rfl)) b_isinstance (by kernel_rfl) (vis (by kernel_rfl)) (gl (by kernel_rfl)) g_BadPuzzle)) s_str s_str)))))))
theorem ok__law_asked (KX : K.In h) (G : h.Ns mainGlobals mg) (c : SaysP ck fn K) : ∃ fd, (FnOk P w K mg base (L2.CX P w) 5 (He.ga K "_law_asked") fd ["k", "one", "two", "three"] (spF ⟨K, w, fns K⟩ (cls K) 4 sem__law_asked)) ∧ Binds K fd ["k", "one", "two", "three"] [] ∧ PySem.W.keepIn K (.ref (He.ga K "_law_asked")) = true := by
  obtain ⟨fd, Fd⟩ := c.def_ 16 (d := d__law_asked) rfl
  exact ⟨fd, okf__law_asked KX G c Fd, Fd.bindsN (fun _ _ _ _ _ _ us hl => match us, hl with | [_, _, _, _], _ => rfl), Fd.kp⟩
theorem sc__law_seen : FnScope ["row", "k", "one"] ["row"] (defScope st__law_seen) := ⟨by kernel_rfl, by kernel_rfl, by kernel_rfl, by decide +kernel, by kernel_rfl, by decide +kernel, by decide +kernel⟩
theorem okf__law_seen (KX : K.In h) (G : h.Ns mainGlobals mg) (c : SaysP ck fn K) {fd : FuncData} (Fd : FunD K "_law_seen" "_law_seen" (defArgs st__law_seen) (defBody st__law_seen) (defScope st__law_seen) [] [] (He.ga K "_law_seen") fd) : FnOk P w K mg base (L2.CX P w) 1 (He.ga K "_law_seen") fd ["row"] (spF ⟨K, w, fns K⟩ (cls K) 1 sem__law_seen) := by
  have bd : Binds K fd ["row"] [] := Fd.bindsN fun _ _ _ _ _ _ us hl => match us, hl with | [_], _ => rfl
  have b_len := He.free_ok KX G (factsB_fact (ckF c) 3 (f := .free "len") rfl)
  have b_range := He.free_ok KX G (factsB_fact (ckF c) 4 (f := .free "range") rfl)
  have b_all := He.free_ok KX G (factsB_fact (ckF c) 12 (f := .free "all") rfl)
  exact fn_ok (k := 0) Fd sc__law_seen (fns K) (cls K) (by decide) (fun cdv A outer s H E hr => by
    have hN := sc__law_seen.nd
    have hu := room65 hr
    have hp := passes_of (X := cxOf (L2.CX P w) P w K mg base ["row", "k", "one"] "_law_seen" (defScope st__law_seen) (He.ga K "_law_seen") cdv A outer s H E) rfl
    have tk : Takes (cxOf (L2.CX P w) P w K mg base ["row", "k", "one"] "_law_seen" (defScope st__law_seen) (He.ga K "_law_seen") cdv A outer s H E) (parE (fns K) (cls K) E).W := takes_of rfl rfl rfl rfl
    exact (sb_one (s_ret (s_callB c_len (gl (by kernel_rfl)) b_len rfl (sa_cons (so_ex (s_lc rfl hN (si_r1 (s_callB c_len (gl (by kernel_rfl)) b_len rfl (sa_cons (so_pk (by kernel_rfl) (vis (by kernel_rfl))) sa_nil)) (gl (by kernel_rfl)) b_range) (blkOk_by (own := [("k", 1)]) (by kernel_rfl)) rfl (inB (by kernel_rfl)) pv0 (fun _ _ _ _ _ => (sg_name hN (by kernel_rfl) (loc (by kernel_rfl)) np0 (hfn (by kernel_rfl)))) (fun _ _ _ _ _ => (sc_one (st_val (s_callB (c_all rfl) (gl (by kernel_rfl)) b_all rfl (sa_cons (so_ex (s_lc rfl hN (si_v (s_slHi (so_pk (by kernel_rfl) (vis (by kernel_rfl))) (so_pk (by kernel_rfl) (vis (by kernel_rfl))))) (blkOk_by (own := [("one", 2)]) (by kernel_rfl)) rfl (inB (by kernel_rfl)) pv0 (fun _ _ _ _ _ => (sg_name hN (by kernel_rfl) (loc (by kernel_rfl)) np0 (hfn (by kernel_rfl)))) (fun _ _ _ _ _ => sc_nil) (fun _ _ _ _ _ => (s_cmp o_lt (so_pk (by kernel_rfl) (vis (by kernel_rfl))) (so_ex (s_ix x_ix (so_pk (by kernel_rfl) (vis (by kernel_rfl))) (so_pk (by kernel_rfl) (vis (by kernel_rfl))) (fun _ _ => rfl))) rfl)))) sa_nil))))) (fun _ _ _ _ _ => (s_var (by kernel_rfl) (vis (by kernel_rfl)))))) sa_nil)))))
theorem ok__law_seen (KX : K.In h) (G : h.Ns mainGlobals mg) (c : SaysP ck fn K) : ∃ fd, (FnOk P w K mg base (L2.CX P w) 1 (He.ga K "_law_seen") fd ["row"] (spF ⟨K, w, fns K⟩ (cls K) 1 sem__law_seen)) ∧ Binds K fd ["row"] [] ∧ PySem.W.keepIn K (.ref (He.ga K "_law_seen")) = true := by
  obtain ⟨fd, Fd⟩ := c.def_ 17 (d := d__law_seen) rfl
  exact ⟨fd, okf__law_seen KX G c Fd, Fd.bindsN (fun _ _ _ _ _ _ us hl => match us, hl with | [_], _ => rfl), Fd.kp⟩
theorem sc_law : FnScope ["script", "draws", "turn", "size", "rows", "first", "last", "good", "again", "row", "one", "two", "due", "place", "wide", "counts", "k", "both", "j"] ["script"] (defScope st_law) := ⟨by kernel_rfl, by kernel_rfl, by kernel_rfl, by decide +kernel, by kernel_rfl, by decide +kernel, by decide +kernel⟩
theorem okf_law (KX : K.In h) (G : h.Ns mainGlobals mg) (c : SaysP ck fn K) {fd : FuncData} (Fd : FunD K "law" "law" (defArgs st_law) (defBody st_law) (defScope st_law) [] [] (He.ga K "law") fd) : FnOk P w K mg base (L2.CX P w) 10 (He.ga K "law") fd ["script"] (spF ⟨K, w, fns K⟩ (cls K) 1 sem_law) := by
  have bd : Binds K fd ["script"] [] := Fd.bindsN fun _ _ _ _ _ _ us hl => match us, hl with | [_], _ => rfl
  obtain ⟨_, k__law_asked⟩ := ok__law_asked (P := P) (w := w) (base := base) KX G c
  obtain ⟨_, k__law_counts⟩ := ok__law_counts (P := P) (w := w) (base := base) KX G c
  obtain ⟨_, k__law_draw⟩ := ok__law_draw (P := P) (w := w) (base := base) KX G c
  obtain ⟨_, k__law_draws⟩ := ok__law_draws (P := P) (w := w) (base := base) KX G c
  obtain ⟨_, k__law_rows⟩ := ok__law_rows (P := P) (w := w) (base := base) KX G c
  obtain ⟨_, k__law_same⟩ := ok__law_same (P := P) (w := w) (base := base) KX G c
  have k__law_same := And.intro (k__law_same.1 8) k__law_same.2
  obtain ⟨_, k__law_seen⟩ := ok__law_seen (P := P) (w := w) (base := base) KX G c
  obtain ⟨_, k_count_both⟩ := ok_count_both (P := P) (w := w) (base := base) KX G c
  obtain ⟨_, k_seen⟩ := ok_seen (P := P) (w := w) (base := base) KX G c
  have g__law_draws := He.glo_ok KX G (factsB_fact (ckF c) 25 (f := .glo "_law_draws") rfl)
  have b_range := He.free_ok KX G (factsB_fact (ckF c) 4 (f := .free "range") rfl)
  have g__law_draw := He.glo_ok KX G (factsB_fact (ckF c) 26 (f := .glo "_law_draw") rfl)
  have g__law_rows := He.glo_ok KX G (factsB_fact (ckF c) 27 (f := .glo "_law_rows") rfl)
  have g__law_seen := He.glo_ok KX G (factsB_fact (ckF c) 28 (f := .glo "_law_seen") rfl)
  have b_tuple := He.free_ok KX G (factsB_fact (ckF c) 2 (f := .free "tuple") rfl)
  have g__law_same := He.glo_ok KX G (factsB_fact (ckF c) 5 (f := .glo "_law_same") rfl)
  have g__law_asked := He.glo_ok KX G (factsB_fact (ckF c) 29 (f := .glo "_law_asked") rfl)
  have b_len := He.free_ok KX G (factsB_fact (ckF c) 3 (f := .free "len") rfl)
  have g_seen := He.glo_ok KX G (factsB_fact (ckF c) 16 (f := .glo "seen") rfl)
  have b_max := He.free_ok KX G (factsB_fact (ckF c) 30 (f := .free "max") rfl)
  have g__law_counts := He.glo_ok KX G (factsB_fact (ckF c) 31 (f := .glo "_law_counts") rfl)
  have g_count_both := He.glo_ok KX G (factsB_fact (ckF c) 23 (f := .glo "count_both") rfl)
  have b_sum := He.free_ok KX G (factsB_fact (ckF c) 32 (f := .free "sum") rfl)
  exact fn_ok (k := 9) Fd sc_law (fns K) (cls K) (by decide) (fun cdv A outer s H E hr => by
    have hN := sc_law.nd
    have hu := room65 hr
    have hp := passes_of (X := cxOf (L2.CX P w) P w K mg base ["script", "draws", "turn", "size", "rows", "first", "last", "good", "again", "row", "one", "two", "due", "place", "wide", "counts", "k", "both", "j"] "law" (defScope st_law) (He.ga K "law") cdv A outer s H E) rfl
    have tk : Takes (cxOf (L2.CX P w) P w K mg base ["script", "draws", "turn", "size", "rows", "first", "last", "good", "again", "row", "one", "two", "due", "place", "wide", "counts", "k", "both", "j"] "law" (defScope st_law) (He.ga K "law") cdv A outer s H E) (parE (fns K) (cls K) E).W := takes_of rfl rfl rfl rfl
    exact (sb_cons (s_set hN (by kernel_rfl) (loc (by kernel_rfl)) (s_call (k__law_draws.1) (hr.mono (by decide)) tk (gl (by kernel_rfl)) g__law_draws k__law_draws.2.2 k__law_draws.2.1 (sl_cons (s_var (by kernel_rfl) (vis (by kernel_rfl))) sl_nil)) np0 (by rfl) (hfn (by kernel_rfl)))
    (sb_cons (s_for hp rfl (si_r1 s_int (gl (by kernel_rfl)) b_range) (sg_name hN (by kernel_rfl) (loc (by kernel_rfl)) np0 (hfn (by kernel_rfl))) (sb_cons (s_set hN (by kernel_rfl) (loc (by kernel_rfl)) (s_bin o_add (so_ex s_int) (so_ex (s_callIO (k__law_draw.1) (hr.mono (by decide)) tk (gl (by kernel_rfl)) g__law_draw k__law_draw.2.2 k__law_draw.2.1 (by kernel_rfl) (vis (by kernel_rfl)) (sl_cons s_int sl_nil)))) np0 (by rfl) (hfn (by kernel_rfl)))
    (sb_cons (s_set hN (by kernel_rfl) (loc (by kernel_rfl)) (s_call (k__law_rows.1) (hr.mono (by decide)) tk (gl (by kernel_rfl)) g__law_rows k__law_rows.2.2 k__law_rows.2.1 (sl_cons (s_var (by kernel_rfl) (vis (by kernel_rfl))) sl_nil)) np0 (by rfl) (hfn (by kernel_rfl)))
    (sb_cons (s_asg (s_tup (sl_cons (s_callIO (k__law_draw.1) (hr.mono (by decide)) tk (gl (by kernel_rfl)) g__law_draw k__law_draw.2.2 k__law_draw.2.1 (by kernel_rfl) (vis (by kernel_rfl)) (sl_cons (s_bin o_add (so_pk (by kernel_rfl) (vis (by kernel_rfl))) (so_ex s_int)) sl_nil)) (sl_cons (s_callIO (k__law_draw.1) (hr.mono (by decide)) tk (gl (by kernel_rfl)) g__law_draw k__law_draw.2.2 k__law_draw.2.1 (by kernel_rfl) (vis (by kernel_rfl)) (sl_cons (s_bin o_add (so_pk (by kernel_rfl) (vis (by kernel_rfl))) (so_ex s_int)) sl_nil)) sl_nil))) (sg_tup rfl (sgs_cons (sg_name hN (by kernel_rfl) (loc (by kernel_rfl)) np0 (hfn (by kernel_rfl))) (sgs_cons (sg_name hN (by kernel_rfl) (loc (by kernel_rfl)) np0 (hfn (by kernel_rfl))) sgs_nil))))
    (sb_cons (s_set hN (by kernel_rfl) (loc (by kernel_rfl)) (s_callT c_tuple (gl (by kernel_rfl)) b_tuple rfl (sa_cons (so_ex (s_lc rfl hN (si_v (s_var (by kernel_rfl) (vis (by kernel_rfl)))) (blkOk_by (own := [("row", 9)]) (by kernel_rfl)) rfl (inB (by kernel_rfl)) pv0 (fun _ _ _ _ _ => (sg_name hN (by kernel_rfl) (loc (by kernel_rfl)) np0 (hfn (by kernel_rfl)))) (fun _ _ _ _ _ => (sc_one (SW.st (sw_and (st_cmp (o_in hu) (so_pk (by kernel_rfl) (vis (by kernel_rfl))) (so_ex (s_tup (sl_cons s_int (sl_cons (s_call (k__law_seen.1) (hr.mono (by decide)) calm0 (gl (by kernel_rfl)) g__law_seen k__law_seen.2.2 k__law_seen.2.1 (sl_cons (s_var (by kernel_rfl) (vis (by kernel_rfl))) sl_nil)) sl_nil)))) rfl) (sw_and1 (st_cmp (o_in hu) (so_pk (by kernel_rfl) (vis (by kernel_rfl))) (so_ex (s_tup (sl_cons s_int (sl_cons (s_call (k__law_seen.1) (hr.mono (by decide)) calm0 (gl (by kernel_rfl)) g__law_seen k__law_seen.2.2 k__law_seen.2.1 (sl_cons (s_rev (so_pk (by kernel_rfl) (vis (by kernel_rfl)))) sl_nil)) sl_nil)))) rfl)))))) (fun _ _ _ _ _ => (s_var (by kernel_rfl) (vis (by kernel_rfl)))))) sa_nil)) np0 (by rfl) (hfn (by kernel_rfl)))
    (sb_cons (s_for hp rfl (si_r1 s_int (gl (by kernel_rfl)) b_range) (sg_name hN (by kernel_rfl) (loc (by kernel_rfl)) np0 (hfn (by kernel_rfl))) (sb_one (s_ifS (st_not (st_val (s_call (k__law_same.1) (hr.mono (by decide)) tk (gl (by kernel_rfl)) g__law_same k__law_same.2.2 k__law_same.2.1 (sl_cons (s_lst (sl_cons (s_call (k__law_asked.1) (hr.mono (by decide)) tk (gl (by kernel_rfl)) g__law_asked k__law_asked.2.2 k__law_asked.2.1 (sl_cons s_int (sl_cons (s_var (by kernel_rfl) (vis (by kernel_rfl))) (sl_cons (s_var (by kernel_rfl) (vis (by kernel_rfl))) (sl_cons (s_var (by kernel_rfl) (vis (by kernel_rfl))) sl_nil))))) (sl_cons (s_call (k__law_asked.1) (hr.mono (by decide)) tk (gl (by kernel_rfl)) g__law_asked k__law_asked.2.2 k__law_asked.2.1 (sl_cons s_int (sl_cons (s_var (by kernel_rfl) (vis (by kernel_rfl))) (sl_cons s_non (sl_cons s_non sl_nil))))) sl_nil))) (sl_cons (s_lst (sl_cons (s_var (by kernel_rfl) (vis (by kernel_rfl))) (sl_cons (s_callT c_tuple (gl (by kernel_rfl)) b_tuple rfl (sa_cons (so_pk (by kernel_rfl) (vis (by kernel_rfl))) sa_nil)) sl_nil))) sl_nil))))) (sb_one (s_ret s_bl)) sb_nil)))
    (sb_cons (s_set hN (by kernel_rfl) (loc (by kernel_rfl)) (s_ix x_ix (so_pk (by kernel_rfl) (vis (by kernel_rfl))) (so_ex (s_callIO (k__law_draw.1) (hr.mono (by decide)) tk (gl (by kernel_rfl)) g__law_draw k__law_draw.2.2 k__law_draw.2.1 (by kernel_rfl) (vis (by kernel_rfl)) (sl_cons (s_callB c_len (gl (by kernel_rfl)) b_len rfl (sa_cons (so_pk (by kernel_rfl) (vis (by kernel_rfl))) sa_nil)) sl_nil))) (fun _ _ => rfl)) np0 (by rfl) (hfn (by kernel_rfl)))
    (sb_cons (s_ifS (SW.st (sw_or (st_not (st_val (s_call (k__law_same.1) (hr.mono (by decide)) tk (gl (by kernel_rfl)) g__law_same k__law_same.2.2 k__law_same.2.1 (sl_cons (s_call (k_seen.1) (hr.mono (by decide)) tk (gl (by kernel_rfl)) g_seen k_seen.2.2 k_seen.2.1 (sl_cons (s_var (by kernel_rfl) (vis (by kernel_rfl))) sl_nil)) (sl_cons (s_call (k__law_seen.1) (hr.mono (by decide)) tk (gl (by kernel_rfl)) g__law_seen k__law_seen.2.2 k__law_seen.2.1 (sl_cons (s_var (by kernel_rfl) (vis (by kernel_rfl))) sl_nil)) sl_nil))))) (sw_or1 (st_not (st_val (s_call (k__law_same.1) (hr.mono (by decide)) tk (gl (by kernel_rfl)) g__law_same k__law_same.2.2 k__law_same.2.1 (sl_cons (s_call (k_seen.1) (hr.mono (by decide)) tk (gl (by kernel_rfl)) g_seen k_seen.2.2 k_seen.2.1 (sl_cons (s_bin o_add (so_pk (by kernel_rfl) (vis (by kernel_rfl))) (so_pk (by kernel_rfl) (vis (by kernel_rfl)))) sl_nil)) (sl_cons (s_call (k__law_seen.1) (hr.mono (by decide)) tk (gl (by kernel_rfl)) g__law_seen k__law_seen.2.2 k__law_seen.2.1 (sl_cons (s_var (by kernel_rfl) (vis (by kernel_rfl))) sl_nil)) sl_nil)))))))) (sb_one (s_ret s_bl)) sb_nil)
    (sb_cons (s_asg (s_tup (sl_cons (s_callIO (k__law_draw.1) (hr.mono (by decide)) tk (gl (by kernel_rfl)) g__law_draw k__law_draw.2.2 k__law_draw.2.1 (by kernel_rfl) (vis (by kernel_rfl)) (sl_cons (s_bin o_add (so_pk (by kernel_rfl) (vis (by kernel_rfl))) (so_ex s_int)) sl_nil)) (sl_cons (s_callIO (k__law_draw.1) (hr.mono (by decide)) tk (gl (by kernel_rfl)) g__law_draw k__law_draw.2.2 k__law_draw.2.1 (by kernel_rfl) (vis (by kernel_rfl)) (sl_cons (s_bin o_add (so_pk (by kernel_rfl) (vis (by kernel_rfl))) (so_ex s_int)) sl_nil)) sl_nil))) (sg_tup rfl (sgs_cons (sg_name hN (by kernel_rfl) (loc (by kernel_rfl)) np0 (hfn (by kernel_rfl))) (sgs_cons (sg_name hN (by kernel_rfl) (loc (by kernel_rfl)) np0 (hfn (by kernel_rfl))) sgs_nil))))
    (sb_cons (s_set hN (by kernel_rfl) (loc (by kernel_rfl)) (s_callB c_len (gl (by kernel_rfl)) b_len rfl (sa_cons (so_ex (s_lc rfl hN (si_v (s_var (by kernel_rfl) (vis (by kernel_rfl)))) (blkOk_by (own := [("row", 9)]) (by kernel_rfl)) rfl (inB (by kernel_rfl)) pv0 (fun _ _ _ _ _ => (sg_name hN (by kernel_rfl) (loc (by kernel_rfl)) np0 (hfn (by kernel_rfl)))) (fun _ _ _ _ _ => (sc_one (SW.st (sw_and (st_cmp (o_eq hu) (so_ex (s_call (k__law_seen.1) (hr.mono (by decide)) calm0 (gl (by kernel_rfl)) g__law_seen k__law_seen.2.2 k__law_seen.2.1 (sl_cons (s_var (by kernel_rfl) (vis (by kernel_rfl))) sl_nil))) (so_pk (by kernel_rfl) (vis (by kernel_rfl))) rfl) (sw_and1 (st_cmp (o_eq hu) (so_ex (s_call (k__law_seen.1) (hr.mono (by decide)) calm0 (gl (by kernel_rfl)) g__law_seen k__law_seen.2.2 k__law_seen.2.1 (sl_cons (s_rev (so_pk (by kernel_rfl) (vis (by kernel_rfl)))) sl_nil))) (so_pk (by kernel_rfl) (vis (by kernel_rfl))) rfl)))))) (fun _ _ _ _ _ => (s_var (by kernel_rfl) (vis (by kernel_rfl)))))) sa_nil)) np0 (by rfl) (hfn (by kernel_rfl)))
    (sb_cons (s_ifS (st_not (st_val (s_call (k__law_same.1) (hr.mono (by decide)) tk (gl (by kernel_rfl)) g__law_same k__law_same.2.2 k__law_same.2.1 (sl_cons (s_lst (sl_cons (s_call (k__law_asked.1) (hr.mono (by decide)) tk (gl (by kernel_rfl)) g__law_asked k__law_asked.2.2 k__law_asked.2.1 (sl_cons s_int (sl_cons (s_var (by kernel_rfl) (vis (by kernel_rfl))) (sl_cons (s_var (by kernel_rfl) (vis (by kernel_rfl))) (sl_cons (s_var (by kernel_rfl) (vis (by kernel_rfl))) sl_nil))))) (sl_cons (s_call (k__law_asked.1) (hr.mono (by decide)) tk (gl (by kernel_rfl)) g__law_asked k__law_asked.2.2 k__law_asked.2.1 (sl_cons s_int (sl_cons (s_var (by kernel_rfl) (vis (by kernel_rfl))) (sl_cons (s_var (by kernel_rfl) (vis (by kernel_rfl))) (sl_cons s_non sl_nil))))) sl_nil))) (sl_cons (s_lst (sl_cons (s_var (by kernel_rfl) (vis (by kernel_rfl))) (sl_cons (s_callB c_len (gl (by kernel_rfl)) b_len rfl (sa_cons (so_ex (s_lc rfl hN (si_v (s_var (by kernel_rfl) (vis (by kernel_rfl)))) (blkOk_by (own := [("row", 9)]) (by kernel_rfl)) rfl (inB (by kernel_rfl)) pv0 (fun _ _ _ _ _ => (sg_name hN (by kernel_rfl) (loc (by kernel_rfl)) np0 (hfn (by kernel_rfl)))) (fun _ _ _ _ _ => (sc_one (st_cmp (o_eq hu) (so_ex (s_call (k__law_seen.1) (hr.mono (by decide)) calm0 (gl (by kernel_rfl)) g__law_seen k__law_seen.2.2 k__law_seen.2.1 (sl_cons (s_var (by kernel_rfl) (vis (by kernel_rfl))) sl_nil))) (so_pk (by kernel_rfl) (vis (by kernel_rfl))) rfl))) (fun _ _ _ _ _ => (s_var (by kernel_rfl) (vis (by kernel_rfl)))))) sa_nil)) sl_nil))) sl_nil))))) (sb_one (s_ret s_bl)) sb_nil)
    (sb_cons (s_ifS (st_cmp o_gt (so_pk (by kernel_rfl) (vis (by kernel_rfl))) (so_ex s_int) rfl) (sb_cons (s_set hN (by kernel_rfl) (loc (by kernel_rfl)) (s_callIO (k__law_draw.1) (hr.mono (by decide)) tk (gl (by kernel_rfl)) g__law_draw k__law_draw.2.2 k__law_draw.2.1 (by kernel_rfl) (vis (by kernel_rfl)) (sl_cons (s_var (by kernel_rfl) (vis (by kernel_rfl))) sl_nil)) np0 (by rfl) (hfn (by kernel_rfl)))
    (sb_one (s_ifS (st_not (st_val (s_call (k__law_same.1) (hr.mono (by decide)) tk (gl (by kernel_rfl)) g__law_same k__law_same.2.2 k__law_same.2.1 (sl_cons (s_call (k__law_asked.1) (hr.mono (by decide)) tk (gl (by kernel_rfl)) g__law_asked k__law_asked.2.2 k__law_asked.2.1 (sl_cons s_int (sl_cons (s_var (by kernel_rfl) (vis (by kernel_rfl))) (sl_cons (s_var (by kernel_rfl) (vis (by kernel_rfl))) (sl_cons (s_var (by kernel_rfl) (vis (by kernel_rfl))) sl_nil))))) (sl_cons (s_callB (c_max rfl) (gl (by kernel_rfl)) b_max rfl (sa_cons (so_ex (s_lc rfl hN (si_v (s_var (by kernel_rfl) (vis (by kernel_rfl)))) (blkOk_by (own := [("row", 9)]) (by kernel_rfl)) rfl (inB (by kernel_rfl)) pv0 (fun _ _ _ _ _ => (sg_name hN (by kernel_rfl) (loc (by kernel_rfl)) np0 (hfn (by kernel_rfl)))) (fun _ _ _ _ _ => (sc_one (st_cmp (o_eq hu) (so_ex (s_call (k__law_seen.1) (hr.mono (by decide)) calm0 (gl (by kernel_rfl)) g__law_seen k__law_seen.2.2 k__law_seen.2.1 (sl_cons (s_var (by kernel_rfl) (vis (by kernel_rfl))) sl_nil))) (so_pk (by kernel_rfl) (vis (by kernel_rfl))) rfl))) (fun _ _ _ _ _ => (s_ix x_ix (so_pk (by kernel_rfl) (vis (by kernel_rfl))) (so_pk (by kernel_rfl) (vis (by kernel_rfl))) (fun _ _ => rfl))))) sa_nil)) sl_nil))))) (sb_one (s_ret s_bl)) sb_nil))) sb_nil)
    (sb_cons (s_set hN (by kernel_rfl) (loc (by kernel_rfl)) (s_callIO (k__law_draw.1) (hr.mono (by decide)) tk (gl (by kernel_rfl)) g__law_draw k__law_draw.2.2 k__law_draw.2.1 (by kernel_rfl) (vis (by kernel_rfl)) (sl_cons s_int sl_nil)) np0 (by rfl) (hfn (by kernel_rfl)))
    (sb_cons (s_set hN (by kernel_rfl) (loc (by kernel_rfl)) (s_call (k__law_counts.1) (hr.mono (by decide)) tk (gl (by kernel_rfl)) g__law_counts k__law_counts.2.2 k__law_counts.2.1 (sl_cons (s_var (by kernel_rfl) (vis (by kernel_rfl))) sl_nil)) np0 (by rfl) (hfn (by kernel_rfl)))
    (sb_cons (s_ifS (st_not (st_val (s_call (k__law_same.1) (hr.mono (by decide)) tk (gl (by kernel_rfl)) g__law_same k__law_same.2.2 k__law_same.2.1 (sl_cons (s_lc rfl hN (si_r1 (s_bin o_add (so_pk (by kernel_rfl) (vis (by kernel_rfl))) (so_ex s_int)) (gl (by kernel_rfl)) b_range) (blkOk_by (own := [("k", 16)]) (by kernel_rfl)) rfl (inB (by kernel_rfl)) pv0 (fun _ _ _ _ _ => (sg_name hN (by kernel_rfl) (loc (by kernel_rfl)) np0 (hfn (by kernel_rfl)))) (fun _ _ _ _ _ => sc_nil) (fun _ _ _ _ _ => (s_call (k__law_asked.1) (hr.mono (by decide)) calm0 (gl (by kernel_rfl)) g__law_asked k__law_asked.2.2 k__law_asked.2.1 (sl_cons s_int (sl_cons (s_var (by kernel_rfl) (vis (by kernel_rfl))) (sl_cons (s_var (by kernel_rfl) (vis (by kernel_rfl))) (sl_cons s_non sl_nil))))))) (sl_cons (s_bin o_add (so_pk (by kernel_rfl) (vis (by kernel_rfl))) (so_ex (s_lst (sl_cons s_int sl_nil)))) sl_nil))))) (sb_one (s_ret s_bl)) sb_nil)
    (sb_cons (s_ifS (st_cmp o_gt (so_pk (by kernel_rfl) (vis (by kernel_rfl))) (so_ex s_int) rfl) (sb_cons (s_set hN (by kernel_rfl) (loc (by kernel_rfl)) (s_bin o_add (so_ex s_int) (so_ex (s_callIO (k__law_draw.1) (hr.mono (by decide)) tk (gl (by kernel_rfl)) g__law_draw k__law_draw.2.2 k__law_draw.2.1 (by kernel_rfl) (vis (by kernel_rfl)) (sl_cons (s_var (by kernel_rfl) (vis (by kernel_rfl))) sl_nil)))) np0 (by rfl) (hfn (by kernel_rfl)))
    (sb_cons (s_setLc rfl hN (by kernel_rfl) (by kernel_rfl) (sw_true rfl (by kernel_rfl) rfl (by kernel_rfl)) np0 (si_r1 (s_bin o_add (so_pk (by kernel_rfl) (vis (by kernel_rfl))) (so_ex s_int)) (gl (by kernel_rfl)) b_range) (blkOk_by (own := [("j", 18)]) (by kernel_rfl)) rfl (inB (by kernel_rfl)) pv0 (fun _ _ _ _ _ => (sg_name hN (by kernel_rfl) (loc (by kernel_rfl)) np0 (hfn (by kernel_rfl)))) (fun _ _ _ _ _ => sc_nil) (fun _ _ _ _ _ => (s_call (k_count_both.1) (hr.mono (by decide)) calm0 (gl (by kernel_rfl)) g_count_both k_count_both.2.2 k_count_both.2.1 (sl_cons (s_var (by kernel_rfl) (vis (by kernel_rfl))) (sl_cons (s_var (by kernel_rfl) (vis (by kernel_rfl))) (sl_cons (s_var (by kernel_rfl) (vis (by kernel_rfl))) sl_nil))))))
    (sb_one (s_ifS (SW.st (sw_or (st_cmp (o_ne hu) (so_ex (s_callB (c_sum rfl) (gl (by kernel_rfl)) b_sum rfl (sa_cons (so_pk (by kernel_rfl) (vis (by kernel_rfl))) sa_nil))) (so_ex (s_ix x_ix (so_pk (by kernel_rfl) (vis (by kernel_rfl))) (so_pk (by kernel_rfl) (vis (by kernel_rfl))) (fun _ _ => rfl))) rfl) (sw_or1 (st_cmp (o_ne hu) (so_pk (by kernel_rfl) (vis (by kernel_rfl))) (so_ex (s_lc rfl hN (si_r1 (s_bin o_add (so_pk (by kernel_rfl) (vis (by kernel_rfl))) (so_ex s_int)) (gl (by kernel_rfl)) b_range) (blkOk_by (own := [("j", 18)]) (by kernel_rfl)) rfl (inB (by kernel_rfl)) pv0 (fun _ _ _ _ _ => (sg_name hN (by kernel_rfl) (loc (by kernel_rfl)) np0 (hfn (by kernel_rfl)))) (fun _ _ _ _ _ => sc_nil) (fun _ _ _ _ _ => (s_call (k_count_both.1) (hr.mono (by decide)) calm0 (gl (by kernel_rfl)) g_count_both k_count_both.2.2 k_count_both.2.1 (sl_cons (s_var (by kernel_rfl) (vis (by kernel_rfl))) (sl_cons (s_var (by kernel_rfl) (vis (by kernel_rfl))) (sl_cons (s_var (by kernel_rfl) (vis (by kernel_rfl))) sl_nil))))))) rfl)))) (sb_one (s_ret s_bl)) sb_nil)))) sb_nil)
    (sb_cons (s_ifS (SW.st (sw_or (st_cmp (o_ne hu) (so_ex (s_call (k__law_asked.1) (hr.mono (by decide)) tk (gl (by kernel_rfl)) g__law_asked k__law_asked.2.2 k__law_asked.2.1 (sl_cons (s_callIO (k__law_draw.1) (hr.mono (by decide)) tk (gl (by kernel_rfl)) g__law_draw k__law_draw.2.2 k__law_draw.2.1 (by kernel_rfl) (vis (by kernel_rfl)) (sl_cons s_int sl_nil)) (sl_cons (s_var (by kernel_rfl) (vis (by kernel_rfl))) (sl_cons (s_ix x_ix (so_ex (s_lst (sl_cons (s_bin o_add (so_pk (by kernel_rfl) (vis (by kernel_rfl))) (so_ex s_int)) (sl_cons (s_un o_neg (so_ex s_int)) (sl_cons s_non (sl_cons s_bl sl_nil)))))) (so_ex (s_callIO (k__law_draw.1) (hr.mono (by decide)) tk (gl (by kernel_rfl)) g__law_draw k__law_draw.2.2 k__law_draw.2.1 (by kernel_rfl) (vis (by kernel_rfl)) (sl_cons s_int sl_nil))) (fun _ _ => rfl)) (sl_cons s_int sl_nil)))))) (so_ex s_str) rfl) (sw_or1 (st_cmp (o_ne hu) (so_ex (s_call (k__law_asked.1) (hr.mono (by decide)) tk (gl (by kernel_rfl)) g__law_asked k__law_asked.2.2 k__law_asked.2.1 (sl_cons s_int (sl_cons (s_var (by kernel_rfl) (vis (by kernel_rfl))) (sl_cons s_int (sl_cons (s_ix x_ix (so_ex (s_lst (sl_cons (s_var (by kernel_rfl) (vis (by kernel_rfl))) (sl_cons (s_un o_neg (so_ex s_int)) (sl_cons s_non (sl_cons s_bl sl_nil)))))) (so_ex (s_callIO (k__law_draw.1) (hr.mono (by decide)) tk (gl (by kernel_rfl)) g__law_draw k__law_draw.2.2 k__law_draw.2.1 (by kernel_rfl) (vis (by kernel_rfl)) (sl_cons s_int sl_nil))) (fun _ _ => rfl)) sl_nil)))))) (so_ex s_str) rfl)))) (sb_one (s_ret s_bl)) sb_nil)
    (sb_cons (s_ifS (st_cmp (o_ne hu) (so_ex (s_call (k__law_asked.1) (hr.mono (by decide)) tk (gl (by kernel_rfl)) g__law_asked k__law_asked.2.2 k__law_asked.2.1 (sl_cons (s_ix x_ix (so_ex (s_lst (sl_cons s_int (sl_cons s_int (sl_cons s_int sl_nil))))) (so_ex (s_callIO (k__law_draw.1) (hr.mono (by decide)) tk (gl (by kernel_rfl)) g__law_draw k__law_draw.2.2 k__law_draw.2.1 (by kernel_rfl) (vis (by kernel_rfl)) (sl_cons s_int sl_nil))) (fun _ _ => rfl)) (sl_cons (s_ix x_ix (so_ex (s_lst (sl_cons s_int (sl_cons s_int (sl_cons s_non (sl_cons s_bl sl_nil)))))) (so_ex (s_callIO (k__law_draw.1) (hr.mono (by decide)) tk (gl (by kernel_rfl)) g__law_draw k__law_draw.2.2 k__law_draw.2.1 (by kernel_rfl) (vis (by kernel_rfl)) (sl_cons s_int sl_nil))) (fun _ _ => rfl)) (sl_cons s_int (sl_cons s_int sl_nil)))))) (so_ex s_str) rfl) (sb_one (s_ret s_bl)) sb_nil)
    (sb_cons (s_ifS (st_cmp (o_ne hu) (so_ex (s_call (k__law_asked.1) (hr.mono (by decide)) tk (gl (by kernel_rfl)) g__law_asked k__law_asked.2.2 k__law_asked.2.1 (sl_cons (s_bin o_add (so_ex s_int) (so_ex (s_callIO (k__law_draw.1) (hr.mono (by decide)) tk (gl (by kernel_rfl)) g__law_draw k__law_draw.2.2 k__law_draw.2.1 (by kernel_rfl) (vis (by kernel_rfl)) (sl_cons s_int sl_nil)))) (sl_cons (s_ix x_ix (so_ex (s_lst (sl_cons s_int (sl_cons (s_un o_neg (so_ex s_int)) (sl_cons s_non (sl_cons s_bl sl_nil)))))) (so_ex (s_callIO (k__law_draw.1) (hr.mono (by decide)) tk (gl (by kernel_rfl)) g__law_draw k__law_draw.2.2 k__law_draw.2.1 (by kernel_rfl) (vis (by kernel_rfl)) (sl_cons s_int sl_nil))) (fun _ _ => rfl)) (sl_cons s_int (sl_cons s_int sl_nil)))))) (so_ex s_str) rfl) (sb_one (s_ret s_bl)) sb_nil)
    (sb_one (s_ifS (SW.st (sw_or (st_cmp (o_ne hu) (so_ex (s_call (k__law_asked.1) (hr.mono (by decide)) tk (gl (by kernel_rfl)) g__law_asked k__law_asked.2.2 k__law_asked.2.1 (sl_cons (s_bin o_add (so_ex s_int) (so_ex (s_callIO (k__law_draw.1) (hr.mono (by decide)) tk (gl (by kernel_rfl)) g__law_draw k__law_draw.2.2 k__law_draw.2.1 (by kernel_rfl) (vis (by kernel_rfl)) (sl_cons s_int sl_nil)))) (sl_cons s_int (sl_cons (s_ix x_ix (so_ex (s_lst (sl_cons (s_un o_neg (so_ex s_int)) (sl_cons s_non (sl_cons s_bl sl_nil))))) (so_ex (s_callIO (k__law_draw.1) (hr.mono (by decide)) tk (gl (by kernel_rfl)) g__law_draw k__law_draw.2.2 k__law_draw.2.1 (by kernel_rfl) (vis (by kernel_rfl)) (sl_cons s_int sl_nil))) (fun _ _ => rfl)) (sl_cons s_int sl_nil)))))) (so_ex s_str) rfl) (sw_or1 (st_cmp (o_ne hu) (so_ex (s_call (k__law_asked.1) (hr.mono (by decide)) tk (gl (by kernel_rfl)) g__law_asked k__law_asked.2.2 k__law_asked.2.1 (sl_cons s_int (sl_cons (s_var (by kernel_rfl) (vis (by kernel_rfl))) (sl_cons s_int (sl_cons s_int sl_nil)))))) (so_ex s_str) rfl)))) (sb_one (s_ret s_bl)) sb_nil)))))))))))))))))))))
    (sb_one (s_ret (s_call (k__law_same.1) (hr.mono (by decide)) tk (gl (by kernel_rfl)) g__law_same k__law_same.2.2 k__law_same.2.1 (sl_cons (s_lst (sl_cons (s_call (k_count_both.1) (hr.mono (by decide)) tk (gl (by kernel_rfl)) g_count_both k_count_both.2.2 k_count_both.2.1 (sl_cons s_int (sl_cons s_int (sl_cons s_int sl_nil)))) (sl_cons (s_call (k_count_both.1) (hr.mono (by decide)) tk (gl (by kernel_rfl)) g_count_both k_count_both.2.2 k_count_both.2.1 (sl_cons s_int (sl_cons s_int (sl_cons s_int sl_nil)))) (sl_cons (s_call (k_seen.1) (hr.mono (by decide)) tk (gl (by kernel_rfl)) g_seen k_seen.2.2 k_seen.2.1 (sl_cons (s_tup sl_nil) sl_nil)) sl_nil)))) (sl_cons (s_lst (sl_cons s_int (sl_cons s_int (sl_cons s_int sl_nil)))) sl_nil))))))))
theorem ok_law (KX : K.In h) (G : h.Ns mainGlobals mg) (c : SaysP ck fn K) : ∃ fd, (FnOk P w K mg base (L2.CX P w) 10 (He.ga K "law") fd ["script"] (spF ⟨K, w, fns K⟩ (cls K) 1 sem_law)) ∧ Binds K fd ["script"] [] ∧ PySem.W.keepIn K (.ref (He.ga K "law")) = true := by
  obtain ⟨fd, Fd⟩ := c.def_ 18 (d := d_law) rfl
  exact ⟨fd, okf_law KX G c Fd, Fd.bindsN (fun _ _ _ _ _ _ us hl => match us, hl with | [_], _ => rfl), Fd.kp⟩
end
end Law

namespace Law
open PySem (Str PyData)
open PL
def rowD (r : List Int) : D := .tup (r.map .int)
theorem okDs_ints : ∀ (n : Nat) (r : List Int), okDs n (r.map .int) = true
  | _, [] => by cases ‹Nat› <;> rfl
  | n, a :: r => by
    rw [List.map_cons, okDs, okDs_ints n r]
    cases n <;> rfl
theorem okD_int (n : Nat) (i : Int) : okD n (.int i) = true := by cases n <;> rfl
theorem memD_ints (a : Int) : ∀ r : List Int, memD (.int a) (r.map .int) = r.contains a
  | [] => rfl
  | b :: r => by
    rw [List.map_cons, memD, memD_ints a r, List.contains_cons]
    show ((b == a) || _) = _
    rw [show (b == a) = (a == b) from Bool.eq_iff_iff.mpr (by simp only [beq_iff_eq]; exact ⟨Eq.symm, Eq.symm⟩)]
theorem in_row (a : Int) (r : List Int) : dIn (.int a) (rowD r) = vB (r.contains a) := by
  unfold dIn rowD
  simp only [itemsOf]
  rw [okD_int, okDs_ints, memD_ints]
  rfl
theorem nin_row (a : Int) (r : List Int) : dNin (.int a) (rowD r) = vB (!r.contains a) := by
  unfold dNin rowD
  simp only [itemsOf]
  rw [okD_int, okDs_ints, memD_ints]
  rfl
theorem forL_range {t : Tg} {a : Sx} {ks : List Nat} (env : Nat → Env) (lo : Int) : ∀ (m : Nat), (∀ i < m, fo1 t a ks (.int (lo + (i : Int))) (env i) = .nx (env (i + 1))) → forL t a ks (rngD lo m) (env 0) = .nx (env m) := by
  have key : ∀ (m k : Nat), (∀ i < m, fo1 t a ks (.int (lo + ((k + i : Nat) : Int))) (env (k + i)) = .nx (env (k + i + 1))) → forL t a ks ((List.range' k m).map fun (i : Nat) => D.int (lo + (i : Int))) (env k) = .nx (env (k + m)) := by
    intro m
    induction m with
    | zero => intro k h; rfl
    | succ m ih =>
      intro k h
      rw [List.range'_succ, List.map_cons]
      have h0 := h 0 (by omega)
      rw [forL_nx (by simpa using h0)]
      have q := ih (k + 1) fun i hi => by
        have := h (i + 1) (by omega)
        rw [show k + 1 + i = k + (i + 1) by omega]
        exact this
      rw [show k + 1 + m = k + (m + 1) by omega] at q
      exact q
  intro m h
  have := key m 0 (by simpa using h)
  unfold rngD
  rw [List.range_eq_range']
  simpa using this

/-! ### seen -/
def seenL : Int → Int → List Int → Int
  | _, f, [] => f
  | m, f, a :: l => if m < a then seenL a (f + 1) l else seenL m f l
theorem s_seen (r : List Int) : sem_seen [rowD r] = .ok ⟨.int (seenL 0 0 r), 0⟩ := by
  have loop : ∀ (l : List Int) (m f : Int), ∃ m', forL (.n 3) (sIf (e2 dGt (.pk 3) (.pk 1)) (sPar [(1, false), (2, false)] [eVar 3, e2 dAdd (.pk 2) (.ex (eC (.int 1)))]) (skip)) [3] (l.map .int) [some ⟨rowD r, 0⟩, some ⟨.int m, 0⟩, some ⟨.int f, 0⟩, none] = .nx [some ⟨rowD r, 0⟩, some ⟨.int m', 0⟩, some ⟨.int (seenL m f l), 0⟩, none] := by
    intro l
    induction l with
    | nil => intro m f; exact ⟨m, rfl⟩
    | cons a l ih =>
      intro m f
      by_cases h : m < a
      · obtain ⟨m', e⟩ := ih a (f + 1)
        refine ⟨m', ?_⟩
        rw [List.map_cons, forL_nx (g2 := [some ⟨rowD r, 0⟩, some ⟨.int a, 0⟩, some ⟨.int (f + 1), 0⟩, none]), e, seenL, if_pos h]
        simp [fo1_ap, go_pk, slot1_ap, eVar_ap, h]
      · obtain ⟨m', e⟩ := ih m f
        refine ⟨m', ?_⟩
        rw [List.map_cons, forL_nx (g2 := [some ⟨rowD r, 0⟩, some ⟨.int m, 0⟩, some ⟨.int f, 0⟩, none]), e, seenL, if_neg h]
        simp [fo1_ap, go_pk, slot1_ap, eVar_ap, h]
  obtain ⟨m', e⟩ := loop r 0 0
  show fnS 4 1 body_seen [rowD r] = _
  rw [fnS1]
  have e2 := e
  unfold rowD at e2
  simp [body_seen, eVar_ap, rowD, e2]
/-- the count by prefixes -/
def lawR (p : List Int) : List Int → Int
  | [] => 0
  | a :: l => (if p.all (· < a) then 1 else 0) + lawR (p ++ [a]) l
theorem seen_law : ∀ (l : List Int) (p : List Int) (m f : Int), (∀ b, 0 < b → p.all (· < b) = decide (m < b)) → (∀ a ∈ l, 0 < a) → seenL m f l = f + lawR p l
  | [], p, m, f, _, _ => by simp [seenL, lawR]
  | a :: l, p, m, f, hp, hl => by
    have ha := hp a (hl a List.mem_cons_self)
    have hl' : ∀ a ∈ l, 0 < a := fun b hb => hl b (List.mem_cons_of_mem _ hb)
    rw [seenL, lawR, ha]
    by_cases h : m < a
    · rw [if_pos h, if_pos (decide_eq_true h), seen_law l (p ++ [a]) a (f + 1) (fun b hb => ?_) hl']
      · omega
      · rw [List.all_append, hp b hb]
        simp
        omega
    · rw [if_neg h, if_neg (by simpa using h), seen_law l (p ++ [a]) m f (fun b hb => ?_) hl']
      · omega
      · rw [List.all_append, hp b hb]
        simp
        omega
end Law

namespace Law
open PySem (Str PyData)
open PL
theorem filterMap_ints {α : Type} (l : List α) (f : α → Bool) (h : α → D) : (l.filterMap fun a => if f a = true then some (h a) else none) = (l.filter f).map h := by
  induction l with
  | nil => rfl
  | cons a l ih =>
    rw [List.filterMap_cons, List.filter_cons]
    by_cases q : f a = true
    · simp [q, ih]
    · simp [q, ih]
theorem allB_map {α : Type} (l : List α) (f : α → Bool) : allB (l.map fun a => .bl (f a)) = some (l.map f) := by
  induction l with
  | nil => rfl
  | cons a l ih => simp [allB, ih]
theorem cut_hi (ds : List D) (i : Nat) (h : i ≤ ds.length) : cutD ds none (some (i : Int)) = ds.take i := by
  unfold cutD
  rw [HT.sIx_none, HT.sIx_nat, Nat.min_eq_left h]
  simp
theorem cut_lo (ds : List D) (i : Nat) (h : i ≤ ds.length) : cutD ds (some (i : Int)) none = ds.drop i := by
  unfold cutD
  rw [HT.sIx_none, HT.sIx_nat, Nat.min_eq_left h, List.take_of_length_le (by simp)]
def rAt (r : List Int) (i : Nat) : Int := r.getD i 0
theorem ix_row (r : List Int) (i : Nat) (h : i < r.length) : dIx (rowD r) (.int (i : Int)) = some ⟨.int (rAt r i), 0⟩ := by
  unfold rowD
  unfold dIx
  simp only [atI_nat (xs := r.map D.int) (i := i) (by simpa using h)]
  simp [rAt, h]
/-- the law's count -/
def lawS (r : List Int) : Int := lawR [] r
theorem lawR_range (r : List Int) : ∀ (l p : List Int), r = p ++ l → (((List.range' p.length l.length).filter fun i => (r.take i).all fun b => decide (b < rAt r i)).length : Int) = lawR p l
  | [], p, _ => by simp [lawR]
  | a :: l, p, e => by
    have ih := lawR_range r l (p ++ [a]) (by rw [e]; simp)
    rw [List.length_append, List.length_singleton] at ih
    rw [List.length_cons, List.range'_succ, List.filter_cons, lawR, ← ih]
    have e1 : r.take p.length = p := by rw [e]; simp
    have e2 : rAt r p.length = a := by unfold rAt; rw [e]; simp
    rw [e1, e2]
    split
    · rw [List.length_cons]
      omega
    · omega
theorem s_lseen (r : List Int) (hl : r.length ≤ big) : sem__law_seen [rowD r] = .ok ⟨.int (lawS r), 0⟩ := by
  have inner : ∀ (i : Nat) (hi : i < r.length), lcL (.n 2) none (e2 dLt (.pk 2) (.ex (e2 dIx (.pk 0) (.pk 1)))) false [2] ((r.take i).map .int) [some ⟨rowD r, 0⟩, some ⟨.int (i : Int), 0⟩, none] = .ok ((r.take i).map fun b => .bl (decide (b < rAt r i))) [some ⟨rowD r, 0⟩, some ⟨.int (i : Int), 0⟩, none] := by
    intro i hi
    rw [lcL_map (h := fun d => match d with
      | .int b => .bl (decide (b < rAt r i))
      | _ => .non)]
    · rw [List.map_map]
      rfl
    · intro d hd
      obtain ⟨b, _, rfl⟩ := List.mem_map.mp hd
      simp [lc1, go_pk, slot1_ap, ix_row r i hi, hi]
  have outer : lcL (.n 1) (some (en oAll [.ex (eLc (iV (en (oSl false true) [.pk 0, .pk 1])) (.n 2) none (e2 dLt (.pk 2) (.ex (e2 dIx (.pk 0) (.pk 1)))) false [2] [])])) (eVar 1) false [1] (rngD 0 r.length) [some ⟨rowD r, 0⟩, none, none] = .ok (((List.range r.length).filter fun i => (r.take i).all fun b => decide (b < rAt r i)).map fun (i : Nat) => .int (i : Int)) [some ⟨rowD r, 0⟩, none, none] := by
    rw [lcL_pure (h := fun d => match d with
      | .int k => if ((r.take k.toNat).all fun b => decide (b < rAt r k.toNat)) = true then some (.int k) else none
      | _ => none)]
    · unfold rngD
      rw [List.filterMap_map, ← filterMap_ints]
      simp only [Function.comp_def, Int.zero_add, Int.toNat_natCast]
    · intro d hd
      obtain ⟨i, hi, rfl⟩ := rngD_mem hd
      have hs : oSl false true [rowD r, .int (i : Int)] = some ⟨.tup ((r.take i).map .int), 0⟩ := by
        simp [oSl, dSl, rowD, cut_hi (r.map D.int) i (by simp; omega), List.map_take]
      have k := inner i hi
      have ka : oAll [.lst ((r.take i).map fun b => .bl (decide (b < rAt r i)))] = vB ((r.take i).all fun b => decide (b < rAt r i)) := by
        unfold oAll
        simp only [allB_map]
        rw [List.all_map]
        rfl
      by_cases q : ((r.take i).all fun b => decide (b < rAt r i)) = true
      · simp [-List.map_take, lc1, go_pk, slot1_ap, hs, k, ka, q, eVar_ap, restG]
      · simp [-List.map_take, lc1, go_pk, slot1_ap, hs, k, ka, q, eVar_ap, restG]
  show fnS 3 1 body__law_seen [rowD r] = _
  rw [fnS1]
  have hlen : oLen [rowD r] = vI (r.length : Int) := by simp [rowD]
  have e := lawR_range r r [] rfl
  simp [body__law_seen, go_pk, slot1_ap, hlen, rng1_ap hl, outer, restG]
  unfold lawS
  rw [← e, List.range_eq_range']
  rfl
end Law

namespace Law
open PySem (Str PyData)
open PL
/-! ### rows -/
def isI (d : D) : Bool := match d with
  | .int _ => true
  | _ => false
theorem s_whole_int (i : Int) : sem_is_whole [.int i] = .ok ⟨.bl true, 0⟩ := rfl
theorem s_whole_bl (b : Bool) : sem_is_whole [.bl b] = .ok ⟨.bl false, 0⟩ := rfl
theorem s_whole_non : sem_is_whole [.non] = .ok ⟨.bl false, 0⟩ := rfl
theorem s_size (i : Int) : sem_is_size [.int i] = .ok ⟨.bl (decide (1 ≤ i ∧ i ≤ 6)), 0⟩ := by
  show fnS 1 1 body_is_size [.int i] = _
  rw [fnS1]
  by_cases h1 : 1 ≤ i
  · by_cases h2 : i ≤ 6 <;> simp [body_is_size, eVar_ap, s_whole_int, go_pk, slot1_ap, h1, h2]
  · simp [body_is_size, eVar_ap, s_whole_int, go_pk, slot1_ap, h1]
theorem s_size_bl (b : Bool) : sem_is_size [.bl b] = .ok ⟨.bl false, 0⟩ := by
  show fnS 1 1 body_is_size [.bl b] = _
  rw [fnS1]
  simp [body_is_size, eVar_ap, s_whole_bl]
theorem s_size_non : sem_is_size [.non] = .ok ⟨.bl false, 0⟩ := by
  show fnS 1 1 body_is_size [.non] = _
  rw [fnS1]
  simp [body_is_size, eVar_ap, s_whole_non]
def oneTo (n : Nat) : List Int := (List.range n).map fun (i : Nat) => 1 + (i : Int)
def stepZ (n : Nat) (r : List Int) : List (List Int) := ((oneTo n).filter fun a => !r.contains a).map fun a => r ++ [a]
def rowsZ (n : Nat) : Nat → List (List Int)
  | 0 => [[]]
  | k + 1 => (rowsZ n k).flatMap (stepZ n)
theorem rng1to (n : Nat) : rngD 1 n = (oneTo n).map .int := by
  unfold rngD oneTo
  simp
theorem rows_small : ∀ n < 7, ∀ k < 7, (rowsZ n k).length ≤ 720 ∧ ((rowsZ n k).all fun r => r.length == k && r.all fun a => decide (0 < a)) = true := by decide +kernel
theorem cat_rows (r s : List Int) (h : r.length + s.length ≤ big) : dAdd (rowD r) (rowD s) = some ⟨rowD (r ++ s), 0⟩ := by
  unfold rowD
  unfold dAdd
  simp only
  rw [if_pos (by simpa using h), List.map_append]
theorem rngO_1 {g : Env} {n : Nat} (h : n ≤ 1000) : rngO (.int 1) (.int ((n : Int) + 1)) g = .ok ((oneTo n).map .int) g := by
  have hb : (big : Int) = 16777216 := rfl
  unfold rngO
  simp only
  rw [if_pos (by omega), ← rng1to]
  congr 2
  omega
theorem allI_map : ∀ r : List Int, allI (r.map .int) = some r
  | [] => rfl
  | a :: r => by simp [allI, allI_map r]
theorem step_lc (n : Nat) (r : List Int) (hr : r.length < 100) (i j : Nat) (env : Int → Env) (hij : ∀ a, (env a)[i]? = some (some ⟨rowD r, 0⟩) ∧ (env a)[j]? = some (some ⟨.int a, 0⟩)) (g : Env) (hset : ∀ a, g.set j (some ⟨.int a, 0⟩) = env a) (hk : ∀ a, (env a).set j none = g) :
    lcL (.n j) (some (e2 dNin (.pk j) (.pk i))) (e2 dAdd (.pk i) (.ex (eTup [eVar j]))) false [j] ((oneTo n).map .int) g = .ok ((stepZ n r).map rowD) g := by
  rw [lcL_pure (h := fun d => match d with
    | .int a => if (!r.contains a) = true then some (rowD (r ++ [a])) else none
    | _ => none)]
  · unfold stepZ
    rw [List.filterMap_map, List.map_map, ← filterMap_ints]
    rfl
  · intro d hd
    obtain ⟨a, _, rfl⟩ := List.mem_map.mp hd
    obtain ⟨h1, h2⟩ := hij a
    have hc : dAdd (rowD r) (.tup [.int a]) = some ⟨rowD (r ++ [a]), 0⟩ := cat_rows r [a] (by simp; have : big = 16777216 := rfl; omega)
    by_cases q : r.contains a = true
    · simp only [lc1, asg_n, Option.bind_some, hset, testO_some, e2_ap, go_pk h2, go_pk h1, slot1_ap h1, slot1_ap h2, fin2_ap, nin_row, vB_ap, tst_ok, q, Bool.not_true, Bool.false_eq_true, if_false, killG_cons, killG_nil, hk]
    · rw [Bool.not_eq_true] at q
      simp only [lc1, asg_n, Option.bind_some, hset, testO_some, e2_ap, go_pk h2, go_pk h1, slot1_ap h1, slot1_ap h2, fin2_ap, nin_row, vB_ap, tst_ok, q, Bool.not_false, if_true, go_ex, eTup_ap, goE_cons, goE_nil, eVar_ap h2, bindO_ok, hc, finV_some, got_ok, killG_cons, killG_nil, hk]

theorem rows_pos : ∀ n < 7, ∀ k < 7, 1 ≤ n → k < n → (rowsZ n k).length ≠ 0 := by decide +kernel
theorem rows_M (n k : Nat) (h1 : 1 ≤ n) (h6 : n ≤ 6) (hk : k < n) : n ≤ big / (rowsZ n k).length := by
  have hl := (rows_small n (by omega) k (by omega)).1
  have z : 0 < (rowsZ n k).length := Nat.pos_of_ne_zero (rows_pos n (by omega) k (by omega) h1 hk)
  refine (Nat.le_div_iff_mul_le z).mpr (Nat.le_trans (Nat.mul_le_mul h6 hl) ?_)
  show 4320 ≤ 16777216
  omega
def envR (n k : Nat) (t : Option Val) : Env := [some ⟨.int (n : Int), 0⟩, some ⟨.lst ((rowsZ n k).map rowD), 0⟩, t, none, none]

theorem src_one (n : Nat) (h : n ≤ 1000) (a b c d : Option Val) : iR2 (eC (.int 1)) (e2 dAdd (.pk 0) (.ex (eC (.int 1)))) [some ⟨.int (n : Int), 0⟩, a, b, c, d] = .ok ((oneTo n).map .int) [some ⟨.int (n : Int), 0⟩, a, b, c, d] := by
  have e : e2 dAdd (.pk 0) (.ex (eC (.int 1))) [some ⟨.int (n : Int), 0⟩, a, b, c, d] = .ok ⟨.int ((n : Int) + 1), 0⟩ [some ⟨.int (n : Int), 0⟩, a, b, c, d] := by simp [go_pk, slot1_ap]
  rw [iR2_ap (f := eC (.int 1)) (g1 := [some ⟨.int (n : Int), 0⟩, a, b, c, d]) (n := 0) (i := 1) rfl, e, iOf_ok]
  exact rngO_1 h
theorem rows_outer (n k : Nat) (h1 : 1 ≤ n) (h6 : n ≤ 6) (hk : k < n) (M : Nat) (hM : n ≤ M) (t : Option Val) : lcO M (.n 3) none (iR2 (eC (.int 1)) (e2 dAdd (.pk 0) (.ex (eC (.int 1))))) (.n 4) (some (e2 dNin (.pk 4) (.pk 3))) (e2 dAdd (.pk 3) (.ex (eTup [eVar 4]))) false [3, 4] [4] ((rowsZ n k).map rowD) (envR n k t) = .ok ((rowsZ n (k + 1)).map rowD) (envR n k t) := by
  obtain ⟨hl, hr⟩ := rows_small n (by omega) k (by omega)
  rw [lcO_pure (h := fun d => match d with
    | .tup ds => match allI ds with
      | some r => (stepZ n r).map rowD
      | none => []
    | _ => [])]
  · congr 1
    rw [List.flatMap_map, rowsZ, List.map_flatMap]
    congr 1
    funext r
    simp only [rowD, allI_map]
  · intro d hd
    obtain ⟨r, hm, rfl⟩ := List.mem_map.mp hd
    have hrl := List.all_eq_true.mp hr r hm
    simp only [Bool.and_eq_true, beq_iff_eq] at hrl
    have inner := step_lc n r (by omega) 3 4 (fun a => [some ⟨.int (n : Int), 0⟩, some ⟨.lst ((rowsZ n k).map rowD), 0⟩, t, some ⟨rowD r, 0⟩, some ⟨.int a, 0⟩]) (fun a => ⟨rfl, rfl⟩) [some ⟨.int (n : Int), 0⟩, some ⟨.lst ((rowsZ n k).map rowD), 0⟩, t, some ⟨rowD r, 0⟩, none] (fun a => rfl) (fun a => rfl)
    have hlen : ((oneTo n).map D.int).length ≤ M := by simpa [oneTo] using hM
    have src := src_one n (Nat.le_trans h6 (by decide)) (some ⟨.lst ((rowsZ n k).map rowD), 0⟩) t (some ⟨rowD r, 0⟩) none
    rw [lo1_ap, envR, asg_n, Option.bind_some, testO_none, Option.bind_some, if_pos rfl]
    simp only [List.set_cons_succ, List.set_cons_zero]
    rw [src, lo2_ok hlen]
    simp only [killG_cons, killG_nil, List.set_cons_succ, List.set_cons_zero]
    rw [inner, lo3_ok]
    simp only [killG_cons, killG_nil, List.set_cons_succ, List.set_cons_zero, rowD, allI_map]
theorem rows_loop (n : Nat) (h1 : 1 ≤ n) (h6 : n ≤ 6) : forL (.n 2) (sSet 1 false (eLc2 (iV (eVar 1)) (.n 3) none (iR2 (eC (.int 1)) (e2 dAdd (.pk 0) (.ex (eC (.int 1))))) (.n 4) (some (e2 dNin (.pk 4) (.pk 3))) (e2 dAdd (.pk 3) (.ex (eTup [eVar 4]))) false [3, 4] [4] [])) [2] (rngD 0 n) (envR n 0 none) = .nx (envR n n none) := by
  refine forL_range (env := fun k => envR n k none) (lo := 0) n fun k hk => ?_
  have o := rows_outer n k h1 h6 hk _ (rows_M n k h1 h6 hk) (some ⟨.int (k : Int), 0⟩)
  rw [Int.zero_add]
  unfold envR at o
  simp [fo1_ap, eVar_ap, restG, envR, o]
theorem s_rows (n : Nat) (h1 : 1 ≤ n) (h6 : n ≤ 6) : sem_all_rows [.int (n : Int)] = .ok ⟨.tup ((rowsZ n n).map rowD), 0⟩ := by
  have loop := rows_loop n h1 h6
  show fnS 5 1 body_all_rows [.int (n : Int)] = _
  rw [fnS1]
  have hs : decide (1 ≤ (n : Int) ∧ (n : Int) ≤ 6) = true := decide_eq_true ⟨by omega, by omega⟩
  have hb : n ≤ big := by have : big = 16777216 := rfl; omega
  have e0 : envR n 0 none = [some ⟨.int (n : Int), 0⟩, some ⟨.lst [.tup []], 0⟩, none, none, none] := rfl
  rw [e0] at loop
  simp [body_all_rows, eVar_ap, s_size, hs, rng1_ap hb, go_pk, slot1_ap, loop, envR]
end Law

namespace Law
open PySem (Str PyData)
open PL
theorem s_rows_bad (d : D) (h : sem_is_size [d] = .ok ⟨.bl false, 0⟩) : sem_all_rows [d] = .exc ⟨0, noW⟩ := by
  show fnS 5 1 body_all_rows [d] = _
  rw [fnS1]
  simp [body_all_rows, eVar_ap, h]
/-! ### _law_rows -/
def envL (n : Nat) (rows : List (List Int)) (k f r : Option Val) : Env := [some ⟨.int (n : Int), 0⟩, some ⟨.lst (rows.map rowD), 0⟩, k, f, r, none]
theorem lrow_step (n : Nat) (hn : n ≤ 6) (rows fresh : List (List Int)) (k : Option Val) (r : List Int) (hr : r.length < 100) (hf : fresh.length + 6 ≤ big) : fo1 (.n 4) (sSet 3 false (e2 dAdd (.pk 3) (.ex (eLc (iR2 (eC (.int 1)) (e2 dAdd (.pk 0) (.ex (eC (.int 1))))) (.n 5) (some (e2 dNin (.pk 5) (.pk 4))) (e2 dAdd (.pk 4) (.ex (eTup [eVar 5]))) false [5] [])))) [4] (rowD r) (envL n rows k (some ⟨.lst (fresh.map rowD), 0⟩) none) = .nx (envL n rows k (some ⟨.lst ((fresh ++ stepZ n r).map rowD), 0⟩) none) := by
  have src : iR2 (eC (.int 1)) (e2 dAdd (.pk 0) (.ex (eC (.int 1)))) [some ⟨.int (n : Int), 0⟩, some ⟨.lst (rows.map rowD), 0⟩, k, some ⟨.lst (fresh.map rowD), 0⟩, some ⟨rowD r, 0⟩, none] = .ok ((oneTo n).map .int) [some ⟨.int (n : Int), 0⟩, some ⟨.lst (rows.map rowD), 0⟩, k, some ⟨.lst (fresh.map rowD), 0⟩, some ⟨rowD r, 0⟩, none] := by
    have e : e2 dAdd (.pk 0) (.ex (eC (.int 1))) [some ⟨.int (n : Int), 0⟩, some ⟨.lst (rows.map rowD), 0⟩, k, some ⟨.lst (fresh.map rowD), 0⟩, some ⟨rowD r, 0⟩, none] = .ok ⟨.int ((n : Int) + 1), 0⟩ [some ⟨.int (n : Int), 0⟩, some ⟨.lst (rows.map rowD), 0⟩, k, some ⟨.lst (fresh.map rowD), 0⟩, some ⟨rowD r, 0⟩, none] := by simp [go_pk, slot1_ap]
    rw [iR2_ap (f := eC (.int 1)) (g1 := [some ⟨.int (n : Int), 0⟩, some ⟨.lst (rows.map rowD), 0⟩, k, some ⟨.lst (fresh.map rowD), 0⟩, some ⟨rowD r, 0⟩, none]) (n := 0) (i := 1) rfl, e, iOf_ok]
    exact rngO_1 (Nat.le_trans hn (by decide))
  have inner := step_lc n r hr 4 5 (fun a => [some ⟨.int (n : Int), 0⟩, some ⟨.lst (rows.map rowD), 0⟩, k, some ⟨.lst (fresh.map rowD), 0⟩, some ⟨rowD r, 0⟩, some ⟨.int a, 0⟩]) (fun a => ⟨rfl, rfl⟩) [some ⟨.int (n : Int), 0⟩, some ⟨.lst (rows.map rowD), 0⟩, k, some ⟨.lst (fresh.map rowD), 0⟩, some ⟨rowD r, 0⟩, none] (fun a => rfl) (fun a => rfl)
  have ha : dAdd (.lst (fresh.map rowD)) (.lst ((stepZ n r).map rowD)) = some ⟨.lst ((fresh ++ stepZ n r).map rowD), 1⟩ := by
    have hl : (stepZ n r).length ≤ 6 := by
      unfold stepZ
      rw [List.length_map]
      refine Nat.le_trans (List.length_filter_le _ _) ?_
      simpa [oneTo] using hn
    unfold dAdd
    simp only
    rw [if_pos (by simp only [List.length_map]; omega), List.map_append]
  have comp : eLc (iR2 (eC (.int 1)) (e2 dAdd (.pk 0) (.ex (eC (.int 1))))) (.n 5) (some (e2 dNin (.pk 5) (.pk 4))) (e2 dAdd (.pk 4) (.ex (eTup [eVar 5]))) false [5] [] [some ⟨.int (n : Int), 0⟩, some ⟨.lst (rows.map rowD), 0⟩, k, some ⟨.lst (fresh.map rowD), 0⟩, some ⟨rowD r, 0⟩, none] = .ok ⟨.lst ((stepZ n r).map rowD), 1⟩ [some ⟨.int (n : Int), 0⟩, some ⟨.lst (rows.map rowD), 0⟩, k, some ⟨.lst (fresh.map rowD), 0⟩, some ⟨rowD r, 0⟩, none] := by
    rw [eLc_ap, src, bindI_ok]
    simp only [killG_cons, killG_nil, List.set_cons_succ, List.set_cons_zero]
    rw [inner, okI_ok]
    rfl
  rw [fo1_ap, asg_n, atO_some, envL]
  simp only [List.set_cons_succ, List.set_cons_zero]
  simp [-eLc_ap, -List.map_append, go_pk, slot1_ap, comp, ha, envL]
theorem lrows_in (n : Nat) (hn : n ≤ 6) (rows : List (List Int)) (k : Option Val) : ∀ (l fresh : List (List Int)), (∀ r ∈ l, r.length < 100) → fresh.length + l.length * 6 + 6 ≤ big →
    forL (.n 4) (sSet 3 false (e2 dAdd (.pk 3) (.ex (eLc (iR2 (eC (.int 1)) (e2 dAdd (.pk 0) (.ex (eC (.int 1))))) (.n 5) (some (e2 dNin (.pk 5) (.pk 4))) (e2 dAdd (.pk 4) (.ex (eTup [eVar 5]))) false [5] [])))) [4] (l.map rowD) (envL n rows k (some ⟨.lst (fresh.map rowD), 0⟩) none) = .nx (envL n rows k (some ⟨.lst ((fresh ++ l.flatMap (stepZ n)).map rowD), 0⟩) none)
  | [], fresh, _, _ => by
    rw [List.flatMap_nil, List.append_nil]
    rfl
  | r :: l, fresh, hr, hf => by
    have hl : (stepZ n r).length ≤ 6 := by
      unfold stepZ
      rw [List.length_map]
      refine Nat.le_trans (List.length_filter_le _ _) ?_
      simpa [oneTo] using hn
    rw [List.length_cons] at hf
    rw [List.map_cons, forL_nx (lrow_step n hn rows fresh k r (hr r List.mem_cons_self) (by omega)), lrows_in n hn rows k l (fresh ++ stepZ n r) (fun r h => hr r (List.mem_cons_of_mem _ h)) (by rw [List.length_append]; omega), List.flatMap_cons, List.append_assoc]
theorem lrows_turn (n k : Nat) (hn : n ≤ 6) (hk : k < n) : fo1 (.n 2) (seq (sSet 3 false (eLst [])) (seq (sFor (iV (eVar 1)) (.n 4) (sSet 3 false (e2 dAdd (.pk 3) (.ex (eLc (iR2 (eC (.int 1)) (e2 dAdd (.pk 0) (.ex (eC (.int 1))))) (.n 5) (some (e2 dNin (.pk 5) (.pk 4))) (e2 dAdd (.pk 4) (.ex (eTup [eVar 5]))) false [5] [])))) [4]) (sSet 1 false (eVar 3)))) [2, 3, 4] (.int (0 + (k : Int))) (envL n (rowsZ n k) none none none) = .nx (envL n (rowsZ n (k + 1)) none none none) := by
  obtain ⟨hl, hr⟩ := rows_small n (by omega) k (by omega)
  have hrl : ∀ r ∈ rowsZ n k, r.length < 100 := fun r hm => by
    have q := List.all_eq_true.mp hr r hm
    simp only [Bool.and_eq_true, beq_iff_eq] at q
    omega
  have hb : big = 16777216 := rfl
  have inn := lrows_in n hn (rowsZ n k) (some ⟨.int (0 + (k : Int)), 0⟩) (rowsZ n k) [] hrl (by rw [hb, List.length_nil]; omega)
  rw [List.nil_append] at inn
  unfold envL at inn ⊢
  rw [fo1_ap, asg_n, atO_some]
  simp only [List.set_cons_succ, List.set_cons_zero, seq_ap, sSet_ap, eLst_ap, goE_nil, bindE_ok, keepV_f, bindS_nx, sFor_ap, iV_ap]
  rw [eVar_ap (d := .lst ((rowsZ n k).map rowD)) rfl, iOf_ok, itI_lst, bindIS_ok]
  simp only [killG_cons, killG_nil, List.set_cons_succ, List.set_cons_zero]
  rw [show ([] : List D) = ([] : List (List Int)).map rowD from rfl, inn, bindS_nx, sSet_ap, eVar_ap (d := .lst (((rowsZ n k).flatMap (stepZ n)).map rowD)) rfl, bindE_ok, keepV_f, endO_nx]
  rfl
theorem s_lrows (n : Nat) (hn : n ≤ 6) : sem__law_rows [.int (n : Int)] = .ok ⟨.lst ((rowsZ n n).map rowD), 0⟩ := by
  have loop := forL_range (env := fun k => envL n (rowsZ n k) none none none) (lo := 0) n fun k hk => lrows_turn n k hn hk
  show fnS 6 1 body__law_rows [.int (n : Int)] = _
  rw [fnS1]
  have hb : n ≤ big := by have : big = 16777216 := rfl; omega
  have e0 : envL n (rowsZ n 0) none none none = [some ⟨.int (n : Int), 0⟩, some ⟨.lst [.tup []], 0⟩, none, none, none, none] := rfl
  rw [e0] at loop
  simp [body__law_rows, eVar_ap, rng1_ap hb, loop, envL]
end Law

namespace Law
open PySem (Str PyData)
open PL
def cntOk (a b : Int) : Bool := decide (0 ≤ a ∧ a ≤ 40 ∧ 0 ≤ b)
theorem s_lookc (a b : Int) (h : 0 ≤ a ∧ a ≤ 40 ∧ 0 ≤ b) : sem_look_at_count [.int a, .int b] = .ok ⟨.non, 0⟩ := by
  show fnS 2 2 body_look_at_count [.int a, .int b] = _
  rw [fnS2]
  have h3 : ¬ b < 0 := by omega
  simp [body_look_at_count, eVar_ap, s_whole_int, go_pk, slot1_ap, h.1, h.2.1, h3]
/-! ### choose -/
def chStep (m : Int) (f : Int) (i : Nat) : Int := f * (m - (i : Int)) / ((i : Int) + 1)
def chF (m : Int) : Nat → Int
  | 0 => 1
  | k + 1 => chStep m (chF m k) k
theorem ch_bound (m : Int) (hm : 0 ≤ m ∧ m ≤ 100) : ∀ k : Nat, (k : Int) ≤ m → 0 ≤ chF m k ∧ chF m k ≤ 100 ^ k
  | 0, _ => ⟨show (0 : Int) ≤ 1 by decide, show (1 : Int) ≤ 100 ^ 0 by decide⟩
  | k + 1, hk => by
    obtain ⟨h1, h2⟩ := ch_bound m hm k (by omega)
    have g1 : 0 ≤ chF m k * (m - (k : Int)) := Int.mul_nonneg h1 (by omega)
    have g2 : chF m k * (m - (k : Int)) ≤ 100 ^ k * 100 := Int.mul_le_mul h2 (by omega) (by omega) (Int.le_trans h1 h2)
    refine ⟨Int.ediv_nonneg g1 (by omega), ?_⟩
    show chF m k * (m - (k : Int)) / ((k : Int) + 1) ≤ 100 ^ (k + 1)
    rw [Int.pow_succ]
    exact Int.le_trans (Int.ediv_le_self _ g1) g2
theorem pow_big (k : Nat) (h : k ≤ 100) (x : Int) (h0 : 0 ≤ x) (hx : x ≤ 100 ^ k) : x.natAbs < 2 ^ 400000 := by
  have e : (x.natAbs : Int) = x := Int.natAbs_of_nonneg h0
  have h1 : x.natAbs ≤ 100 ^ k := by
    have : (x.natAbs : Int) ≤ ((100 ^ k : Nat) : Int) := by
      rw [e]
      have : ((100 ^ k : Nat) : Int) = (100 : Int) ^ k := by rw [Int.natCast_pow]; rfl
      rw [this]
      exact hx
    omega
  have h2 : (100 : Nat) ^ k ≤ (2 ^ 7) ^ k := Nat.pow_le_pow_left (by decide) k
  have h3 : ((2 : Nat) ^ 7) ^ k = 2 ^ (7 * k) := (Nat.pow_mul 2 7 k).symm
  have h4 : (2 : Nat) ^ (7 * k) < 2 ^ 400000 := Nat.pow_lt_pow_right (by decide) (by omega)
  omega
theorem s_choose (m : Int) (s : Nat) (hm : m ≤ 100) (hs : (s : Int) ≤ m) : sem_choose [.int m, .int (s : Int)] = .ok ⟨.int (chF m s), 0⟩ := by
  have loop := forL_range (t := .n 3) (a := sSet 2 false (e2 dDiv (.ex (e2 dMul (.pk 2) (.ex (e2 dSub (.pk 0) (.pk 3))))) (.ex (e2 dAdd (.pk 3) (.ex (eC (.int 1))))))) (ks := [3])
    (env := fun k => [some ⟨.int m, 0⟩, some ⟨.int (s : Int), 0⟩, some ⟨.int (chF m k), 0⟩, none]) (lo := 0) s fun k hk => by
      obtain ⟨h1, h2⟩ := ch_bound m ⟨by omega, hm⟩ k (by omega)
      have e1 : dMul (.int (chF m k)) (.int (m - (k : Int))) = vI (chF m k * (m - (k : Int))) := dMul_sm (pow_big k (by omega) _ h1 h2) (big400 (by omega))
      have e2 : dDiv (.int (chF m k * (m - (k : Int)))) (.int ((k : Int) + 1)) = vI (chStep m (chF m k) k) := dDiv_ap (by omega) (by omega)
      rw [Int.zero_add]
      simp [fo1_ap, go_pk, slot1_ap, e1, e2, chF]
  have e0 : chF m 0 = 1 := rfl
  show fnS 4 2 body_choose [.int m, .int (s : Int)] = _
  rw [fnS2]
  have hb : s ≤ big := by have : big = 16777216 := rfl; omega
  have hs0 : (0 : Int) ≤ (s : Int) := by omega
  simp only [e0] at loop
  simp [body_choose, eVar_ap, go_pk, slot1_ap, hs0, hs, rng1_ap hb, loop]
/-! ### count_seen -/
def nxt (c : Int) (row : List Int) (k : Nat) : Int := c * row.getD k 0 + (if 0 < k then row.getD (k - 1) 0 else 0)
def stir : Nat → List Int
  | 0 => [1]
  | n + 1 => (List.range (n + 2)).map (nxt (n : Int) (stir n))
theorem stir_len : ∀ n, (stir n).length = n + 1
  | 0 => rfl
  | n + 1 => by simp [stir]
theorem stir_bound : ∀ n, n ≤ 40 → ∀ x ∈ stir n, 0 ≤ x ∧ x ≤ 100 ^ n
  | 0, _, x, h => by
    simp [stir] at h
    subst h
    exact ⟨by decide, by decide⟩
  | n + 1, hn, x, h => by
    have ih := stir_bound n (by omega)
    have g : ∀ k, 0 ≤ (stir n).getD k 0 ∧ (stir n).getD k 0 ≤ 100 ^ n := fun k => by
      rw [List.getD_eq_getElem?_getD]
      cases q : (stir n)[k]? with
      | none => exact ⟨by decide, Int.pow_nonneg (by decide)⟩
      | some y => exact ih y (List.mem_of_getElem? q)
    obtain ⟨k, _, rfl⟩ := List.mem_map.mp (show x ∈ (List.range (n + 2)).map (nxt (n : Int) (stir n)) from h)
    unfold nxt
    obtain ⟨a1, a2⟩ := g k
    obtain ⟨b1, b2⟩ := g (k - 1)
    have p : (0 : Int) ≤ 100 ^ n := Int.pow_nonneg (by decide)
    have m1 : (n : Int) * (stir n).getD k 0 ≤ 40 * 100 ^ n := Int.mul_le_mul (by omega) a2 a1 (by decide)
    have m0 : 0 ≤ (n : Int) * (stir n).getD k 0 := Int.mul_nonneg (by omega) a1
    rw [Int.pow_succ]
    split <;> omega
def intsD (r : List Int) : D := .lst (r.map .int)
theorem ix_ints (r : List Int) (i : Nat) (h : i < r.length) : dIx (intsD r) (.int (i : Int)) = some ⟨.int (r.getD i 0), 0⟩ := by
  unfold intsD
  unfold dIx
  simp only [atI_nat (xs := r.map D.int) (i := i) (by simpa using h)]
  simp [h]
theorem cs_elt (c : Nat) (hc : c < 40) (row : List Int) (hrow : row = stir c) (a b : Option Val) (k : Nat) (hk : k < c + 2) :
    lc1 (.n 4) none (e2 dAdd (.ex (e2 dMul (.pk 3) (.ex (eIf (e2 dLt (.pk 4) (.ex (en oLen [.pk 2]))) (e2 dIx (.pk 2) (.pk 4)) (eC (.int 0)))))) (.ex (eIf (e2 dGt (.pk 4) (.ex (eC (.int 0)))) (e2 dIx (.pk 2) (.ex (e2 dSub (.pk 4) (.ex (eC (.int 1)))))) (eC (.int 0))))) [4] (.int (k : Int)) [a, b, some ⟨intsD row, 0⟩, some ⟨.int (c : Int), 0⟩, none] = some (some (.int (nxt (c : Int) row k)), [a, b, some ⟨intsD row, 0⟩, some ⟨.int (c : Int), 0⟩, none]) := by
  have hl : row.length = c + 1 := by rw [hrow, stir_len]
  have hlen : oLen [intsD row] = vI ((row.length : Nat) : Int) := by simp [intsD]
  have hb : ∀ k, (row.getD k 0).natAbs < 2 ^ 400000 := fun k => by
    rw [List.getD_eq_getElem?_getD]
    cases q : row[k]? with
    | none => exact Nat.pow_pos (by decide)
    | some y =>
      obtain ⟨h1, h2⟩ := stir_bound c (by omega) y (by rw [← hrow]; exact List.mem_of_getElem? q)
      exact pow_big c (by omega) y h1 h2
  have hm : dMul (.int (c : Int)) (.int (row.getD k 0)) = vI ((c : Int) * row.getD k 0) := dMul_sm (big400 (by omega)) (hb k)
  have i1 : ∀ h : k < row.length, dIx (intsD row) (.int (k : Int)) = some ⟨.int (row.getD k 0), 0⟩ := ix_ints row k
  have i2 : 0 < k → dIx (intsD row) (.int ((k : Int) - 1)) = some ⟨.int (row.getD (k - 1) 0), 0⟩ := fun h => by
    rw [show (k : Int) - 1 = ((k - 1 : Nat) : Int) by omega]
    exact ix_ints row (k - 1) (by omega)
  have m0 : dMul (.int (c : Int)) (.int 0) = vI ((c : Int) * 0) := dMul_sm (big400 (by omega)) (by exact Nat.pow_pos (by decide))
  unfold nxt
  generalize hx : row.getD k 0 = x at *
  generalize hy : row.getD (k - 1) 0 = y at *
  by_cases h1 : k < row.length
  · have i1 := i1 h1
    by_cases h2 : 0 < k
    · have i2 := i2 h2
      simp [lc1, go_pk, slot1_ap, hlen, h1, h2, i1, i2, hm]
    · simp [lc1, go_pk, slot1_ap, hlen, h1, h2, i1, hm]
  · have x0 : x = 0 := by
      rw [← hx, List.getD_eq_getElem?_getD, List.getElem?_eq_none (by omega)]
      rfl
    subst x0
    by_cases h2 : 0 < k
    · have i2 := i2 h2
      simp [lc1, go_pk, slot1_ap, hlen, h1, h2, i2, m0]
    · simp [lc1, go_pk, slot1_ap, hlen, h1, h2, m0]
def bCsTurn : Sx := sSet 2 false (eLc (iR1 (e2 dAdd (.ex (en oLen [.pk 2])) (.ex (eC (.int 1))))) (.n 4) none (e2 dAdd (.ex (e2 dMul (.pk 3) (.ex (eIf (e2 dLt (.pk 4) (.ex (en oLen [.pk 2]))) (e2 dIx (.pk 2) (.pk 4)) (eC (.int 0)))))) (.ex (eIf (e2 dGt (.pk 4) (.ex (eC (.int 0)))) (e2 dIx (.pk 2) (.ex (e2 dSub (.pk 4) (.ex (eC (.int 1)))))) (eC (.int 0))))) false [4] [])
theorem cs_turn (c : Nat) (hc : c < 40) (a b : Option Val) : fo1 (.n 3) bCsTurn [3] (.int (0 + (c : Int))) [a, b, some ⟨intsD (stir c), 0⟩, none, none] = .nx [a, b, some ⟨intsD (stir (c + 1)), 0⟩, none, none] := by
  have comp : lcL (.n 4) none (e2 dAdd (.ex (e2 dMul (.pk 3) (.ex (eIf (e2 dLt (.pk 4) (.ex (en oLen [.pk 2]))) (e2 dIx (.pk 2) (.pk 4)) (eC (.int 0)))))) (.ex (eIf (e2 dGt (.pk 4) (.ex (eC (.int 0)))) (e2 dIx (.pk 2) (.ex (e2 dSub (.pk 4) (.ex (eC (.int 1)))))) (eC (.int 0))))) false [4] (rngD 0 (c + 2)) [a, b, some ⟨intsD (stir c), 0⟩, some ⟨.int (c : Int), 0⟩, none] = .ok ((stir (c + 1)).map .int) [a, b, some ⟨intsD (stir c), 0⟩, some ⟨.int (c : Int), 0⟩, none] := by
    rw [lcL_map (h := fun d => match d with
      | .int k => .int (nxt (c : Int) (stir c) k.toNat)
      | _ => .non)]
    · congr 1
      unfold rngD
      rw [stir, List.map_map, List.map_map]
      congr 1
      funext k
      simp
    · intro d hd
      obtain ⟨k, hk, rfl⟩ := rngD_mem hd
      rw [cs_elt c hc _ rfl a b k hk]
      simp
  have src : iR1 (e2 dAdd (.ex (en oLen [.pk 2])) (.ex (eC (.int 1)))) [a, b, some ⟨intsD (stir c), 0⟩, some ⟨.int (c : Int), 0⟩, none] = .ok (rngD 0 (c + 2)) [a, b, some ⟨intsD (stir c), 0⟩, some ⟨.int (c : Int), 0⟩, none] := by
    have hlen : oLen [intsD (stir c)] = vI ((c : Int) + 1) := by
      have := stir_len c
      simp [intsD, this]
    have e : e2 dAdd (.ex (en oLen [.pk 2])) (.ex (eC (.int 1))) [a, b, some ⟨intsD (stir c), 0⟩, some ⟨.int (c : Int), 0⟩, none] = .ok ⟨.int ((c + 2 : Nat) : Int), 0⟩ [a, b, some ⟨intsD (stir c), 0⟩, some ⟨.int (c : Int), 0⟩, none] := by
      have h : (c : Int) + 1 + 1 = (c : Int) + 2 := by omega
      simp [go_pk, slot1_ap, hlen, h]
    have hb : c + 2 ≤ big := by have : big = 16777216 := rfl; omega
    rw [iR1_ap, e, iOf_ok, rng1_ap hb]
  have lc : eLc (iR1 (e2 dAdd (.ex (en oLen [.pk 2])) (.ex (eC (.int 1))))) (.n 4) none (e2 dAdd (.ex (e2 dMul (.pk 3) (.ex (eIf (e2 dLt (.pk 4) (.ex (en oLen [.pk 2]))) (e2 dIx (.pk 2) (.pk 4)) (eC (.int 0)))))) (.ex (eIf (e2 dGt (.pk 4) (.ex (eC (.int 0)))) (e2 dIx (.pk 2) (.ex (e2 dSub (.pk 4) (.ex (eC (.int 1)))))) (eC (.int 0))))) false [4] [] [a, b, some ⟨intsD (stir c), 0⟩, some ⟨.int (c : Int), 0⟩, none] = .ok ⟨intsD (stir (c + 1)), 1⟩ [a, b, some ⟨intsD (stir c), 0⟩, some ⟨.int (c : Int), 0⟩, none] := by
    rw [eLc_ap, src, bindI_ok]
    simp only [killG_cons, killG_nil, List.set_cons_succ, List.set_cons_zero]
    rw [comp, okI_ok]
    rfl
  rw [Int.zero_add, fo1_ap, asg_n, atO_some]
  simp only [List.set_cons_succ, List.set_cons_zero]
  rw [bCsTurn, sSet_ap, lc, bindE_ok]
  simp
def seenAt (w : Nat) (k : Nat) : Int := (stir w).getD k 0
theorem s_cseen (w k : Nat) (hw : w ≤ 40) : sem_count_seen [.int (w : Int), .int (k : Int)] = .ok ⟨.int (seenAt w k), 0⟩ := by
  have loop := forL_range (t := .n 3) (a := bCsTurn) (ks := [3]) (env := fun c => [some ⟨.int (w : Int), 0⟩, some ⟨.int (k : Int), 0⟩, some ⟨intsD (stir c), 0⟩, none, none]) (lo := 0) w fun c hc => cs_turn c (by omega) _ _
  have e0 : intsD (stir 0) = .lst [.int 1] := rfl
  show fnS 5 2 body_count_seen [.int (w : Int), .int (k : Int)] = _
  rw [fnS2]
  have hb : w ≤ big := by have : big = 16777216 := rfl; omega
  have hlen : oLen [intsD (stir w)] = vI ((w : Int) + 1) := by
    have := stir_len w
    simp [intsD, this]
  have lk := s_lookc (w : Int) (k : Int) (by omega)
  simp only [e0] at loop
  unfold bCsTurn at loop
  unfold seenAt
  by_cases h : k < w + 1
  · have i1 := ix_ints (stir w) k (by rw [stir_len]; exact h)
    have h' : (k : Int) < (w : Int) + 1 := by omega
    simp [body_count_seen, eVar_ap, go_pk, slot1_ap, lk, rng1_ap hb, loop, hlen, h', i1]
  · have h' : ¬ (k : Int) < (w : Int) + 1 := by omega
    have z : (stir w)[k]? = none := List.getElem?_eq_none (by rw [stir_len]; omega)
    simp [body_count_seen, eVar_ap, go_pk, slot1_ap, lk, rng1_ap hb, loop, hlen, h', z]
end Law

namespace Law
open PySem (Str PyData)
open PL
/-! ### count_both -/
def bothZ (w f l : Nat) : Int := if w = 0 ∨ f = 0 ∨ l = 0 then (if w = 0 ∧ f = 0 ∧ l = 0 then 1 else 0) else chF ((f + l - 2 : Nat) : Int) (f - 1) * seenAt (w - 1) (f + l - 2)
theorem s_both (w f l : Nat) (hw : w ≤ 40) (hf : f ≤ 41) (hl : l ≤ 41) : sem_count_both [.int (w : Int), .int (f : Int), .int (l : Int)] = .ok ⟨.int (bothZ w f l), 0⟩ := by
  show fnS 3 3 body_count_both [.int (w : Int), .int (f : Int), .int (l : Int)] = _
  rw [fnS3]
  have l1 := s_lookc (w : Int) (f : Int) (by omega)
  have l2 := s_lookc (w : Int) (l : Int) (by omega)
  unfold bothZ
  by_cases hw0 : w = 0
  · subst hw0
    by_cases hf0 : f = 0
    · subst hf0
      by_cases hl0 : l = 0
      · subst hl0
        have l0 := s_lookc 0 0 (by decide)
        simp [body_count_both, eVar_ap, go_pk, slot1_ap, l0]
      · simp at l1 l2
        have hl' : ¬ (l : Int) = 0 := by omega
        simp [body_count_both, eVar_ap, go_pk, slot1_ap, l1, l2, hl0]
    · simp at l1 l2
      simp [body_count_both, eVar_ap, go_pk, slot1_ap, l1, l2, hf0]
  · by_cases hf0 : f = 0
    · subst hf0
      simp at l1 l2
      simp [body_count_both, eVar_ap, go_pk, slot1_ap, l1, l2, hw0]
    · by_cases hl0 : l = 0
      · subst hl0
        simp at l1 l2
        simp [body_count_both, eVar_ap, go_pk, slot1_ap, l1, l2, hw0, hf0]
      · have e1 : (f : Int) + (l : Int) - 2 = ((f + l - 2 : Nat) : Int) := by omega
        have e2 : (f : Int) - 1 = ((f - 1 : Nat) : Int) := by omega
        have e3 : (w : Int) - 1 = ((w - 1 : Nat) : Int) := by omega
        have c1 := s_choose ((f + l - 2 : Nat) : Int) (f - 1) (by omega) (by omega)
        have c2 := s_cseen (w - 1) (f + l - 2) (by omega)
        obtain ⟨b1, b2⟩ := ch_bound ((f + l - 2 : Nat) : Int) (by omega) (f - 1) (by omega)
        have b3 : (seenAt (w - 1) (f + l - 2)).natAbs < 2 ^ 400000 := by
          unfold seenAt
          rw [List.getD_eq_getElem?_getD]
          cases q : (stir (w - 1))[f + l - 2]? with
          | none => exact Nat.pow_pos (by decide)
          | some y =>
            obtain ⟨h1, h2⟩ := stir_bound (w - 1) (by omega) y (List.mem_of_getElem? q)
            exact pow_big (w - 1) (by omega) y h1 h2
        have m := dMul_sm (pow_big (f - 1) (by omega) _ b1 b2) b3
        simp [body_count_both, eVar_ap, go_pk, slot1_ap, l1, l2, hw0, hf0, hl0, e1, e2, e3, c1, c2, m]
/-! ### look_at_seen, bounds_for -/
theorem s_looks (n f l : Int) (hn : 1 ≤ n ∧ n ≤ 6) (hf : 0 ≤ f ∧ f ≤ n) (hl : 0 ≤ l ∧ l ≤ n) : sem_look_at_seen [.int n, .int f, .int l] = .ok ⟨.non, 0⟩ := by
  show fnS 4 3 body_look_at_seen [.int n, .int f, .int l] = _
  rw [fnS3]
  have hs : decide (1 ≤ n ∧ n ≤ 6) = true := decide_eq_true hn
  have lc : ∀ d ∈ [D.int f, D.int l], lc1 (.n 3) none (eAnd (eCall sem_is_whole [eVar 3]) (e3 dLe dLe (.ex (eC (.int 0))) (.pk 3) (.pk 0))) [3] d [some ⟨.int n, 0⟩, some ⟨.int f, 0⟩, some ⟨.int l, 0⟩, none] = some (some (.bl true), [some ⟨.int n, 0⟩, some ⟨.int f, 0⟩, some ⟨.int l, 0⟩, none]) := by
    intro d hd
    have key : ∀ x : Int, 0 ≤ x ∧ x ≤ n → lc1 (.n 3) none (eAnd (eCall sem_is_whole [eVar 3]) (e3 dLe dLe (.ex (eC (.int 0))) (.pk 3) (.pk 0))) [3] (.int x) [some ⟨.int n, 0⟩, some ⟨.int f, 0⟩, some ⟨.int l, 0⟩, none] = some (some (.bl true), [some ⟨.int n, 0⟩, some ⟨.int f, 0⟩, some ⟨.int l, 0⟩, none]) := fun x hx => by
      simp [lc1, eVar_ap, s_whole_int, go_pk, slot1_ap, hx.1, hx.2]
    rcases List.mem_cons.mp hd with rfl | hd
    · exact key f hf
    · rw [List.mem_singleton.mp hd]
      exact key l hl
  have lm := lcL_map (h := fun _ => .bl true) lc
  have ha : oAll [.lst ([D.int f, D.int l].map fun _ => .bl true)] = vB true := rfl
  simp only [List.map_cons, List.map_nil] at lm ha
  simp [body_look_at_seen, eVar_ap, s_size, hs, lm, ha, restG]
theorem s_looks_bad (d e g : D) (h : sem_is_size [d] = .ok ⟨.bl false, 0⟩) : sem_look_at_seen [d, e, g] = .exc ⟨0, noW⟩ := by
  show fnS 4 3 body_look_at_seen [d, e, g] = _
  rw [fnS3]
  simp [body_look_at_seen, eVar_ap, h]
def boundZ (n f p : Int) : Int := if f = 1 ∧ 0 < p then n - 1 else (if n - f + 1 + p < n then n - f + 1 + p else n)
theorem oMin2 (i j : Int) : oMin [.int i, .int j] = vI (if j < i then j else i) := rfl
theorem s_bounds (n f p : Int) (hn : 1 ≤ n ∧ n ≤ 6) (hf : 1 ≤ f ∧ f ≤ n) (hp : 0 ≤ p ∧ p < n) : sem_bounds_for [.int n, .int f, .int p] = .ok ⟨.int (boundZ n f p), 0⟩ := by
  show fnS 3 3 body_bounds_for [.int n, .int f, .int p] = _
  rw [fnS3]
  have lk := s_looks n f 0 hn ⟨by omega, hf.2⟩ ⟨by omega, by omega⟩
  have f0 : ¬ f = 0 := by omega
  unfold boundZ
  by_cases h1 : f = 1
  · subst h1
    by_cases h2 : 0 < p
    · simp [body_bounds_for, eVar_ap, go_pk, slot1_ap, lk, s_whole_int, hp.1, hp.2, h2]
    · simp [body_bounds_for, eVar_ap, go_pk, slot1_ap, lk, s_whole_int, hp.1, hp.2, h2, oMin2]
  · simp [body_bounds_for, eVar_ap, go_pk, slot1_ap, lk, s_whole_int, hp.1, hp.2, h1, f0, oMin2]
/-! ### rows_seen -/
theorem in_two (a b : Int) : dIn (.int a) (.tup [.int 0, .int b]) = vB (a == 0 || a == b) := by
  have := in_row a [0, b]
  unfold rowD at this
  simp only [List.map_cons, List.map_nil] at this
  rw [this]
  congr 1
  rw [Bool.eq_iff_iff]
  simp
theorem rev_row (r : List Int) : dRev (rowD r) = some ⟨rowD r.reverse, 0⟩ := by
  unfold rowD dRev
  simp
def pick (f l : Int) (s : List Int → Int) (r : List Int) : Bool := (f == 0 || f == s r) && (l == 0 || l == s r.reverse)
theorem s_rowsS (n : Nat) (f l : Int) (h1 : 1 ≤ n) (h6 : n ≤ 6) (hf : 0 ≤ f ∧ f ≤ n) (hl : 0 ≤ l ∧ l ≤ n) : sem_rows_seen [.int (n : Int), .int f, .int l] = .ok ⟨.tup (((rowsZ n n).filter (pick f l (seenL 0 0))).map rowD), 0⟩ := by
  show fnS 4 3 body_rows_seen [.int (n : Int), .int f, .int l] = _
  rw [fnS3]
  have lk := s_looks (n : Int) f l (by omega) hf hl
  have rw1 := s_rows n h1 h6
  have comp : lcL (.n 3) (some (eAnd (e2 dIn (.pk 1) (.ex (eTup [eC (.int 0), eCall sem_seen [eVar 3]]))) (e2 dIn (.pk 2) (.ex (eTup [eC (.int 0), eCall sem_seen [e1 dRev (.pk 3)]]))))) (eVar 3) false [3] ((rowsZ n n).map rowD) [some ⟨.int (n : Int), 0⟩, some ⟨.int f, 0⟩, some ⟨.int l, 0⟩, none] = .ok (((rowsZ n n).filter (pick f l (seenL 0 0))).map rowD) [some ⟨.int (n : Int), 0⟩, some ⟨.int f, 0⟩, some ⟨.int l, 0⟩, none] := by
    rw [lcL_pure (h := fun d => match d with
      | .tup ds => match allI ds with
        | some r => if pick f l (seenL 0 0) r = true then some (rowD r) else none
        | none => none
      | _ => none)]
    · congr 1
      rw [List.filterMap_map, ← filterMap_ints]
      congr 1
      funext r
      simp only [Function.comp_def, rowD, allI_map]
    · intro d hd
      obtain ⟨r, _, rfl⟩ := List.mem_map.mp hd
      have e : (match rowD r with
        | .tup ds => match allI ds with
          | some r => if pick f l (seenL 0 0) r = true then some (rowD r) else none
          | none => none
        | _ => none) = if pick f l (seenL 0 0) r = true then some (rowD r) else none := by simp only [rowD, allI_map]
      rw [e]
      unfold pick
      have s1 := s_seen r
      have s2 := s_seen r.reverse
      generalize hx : (f == 0 || f == seenL 0 0 r) = x
      generalize hy : (l == 0 || l == seenL 0 0 r.reverse) = y
      have i1 := in_two f (seenL 0 0 r)
      have i2 := in_two l (seenL 0 0 r.reverse)
      rw [hx] at i1
      rw [hy] at i2
      cases x <;> cases y <;> simp [lc1, eVar_ap, go_pk, slot1_ap, s1, s2, i1, i2, rev_row]
  simp [body_rows_seen, eVar_ap, lk, rw1, comp, restG]
end Law

namespace Law
open PySem (Str PyData)
open PL
theorem eVar_one {g : PL.Env} {i : Nat} {d : D} (h : g[i]? = some (some ⟨d, 1⟩)) : eVar i g = .ok ⟨d, 0⟩ (g.set i (some ⟨d, 0⟩)) := eVar_ap1 (n := 0) h
theorem setL_nat (ds : List D) (k : Nat) (d : D) (h : k < ds.length) : setL ds (.int (k : Int)) d = some (ds.set k d) := by
  unfold setL L2.ixN
  simp only
  rw [if_pos (by omega), if_pos (by omega)]
  rfl
def tabD (L : Nat) (F : Nat → Int) : List D := (List.range L).map fun j => .int (F j)
theorem tab_len (L : Nat) (F : Nat → Int) : (tabD L F).length = L := by simp [tabD]
theorem tab_ix (L : Nat) (F : Nat → Int) (k : Nat) (h : k < L) : dIx (.lst (tabD L F)) (.int (k : Int)) = some ⟨.int (F k), 0⟩ := by
  unfold dIx
  simp only [atI_nat (xs := tabD L F) (i := k) (by rw [tab_len]; exact h)]
  simp [tabD]
theorem tab_set (L : Nat) (F : Nat → Int) (k : Nat) (v : Int) (h : k < L) : setL (tabD L F) (.int (k : Int)) (.int v) = some (tabD L fun j => if j = k then v else F j) := by
  rw [setL_nat _ _ _ (by rw [tab_len]; exact h)]
  congr 1
  refine List.ext_getElem? fun i => ?_
  unfold tabD
  rw [List.getElem?_set]
  by_cases hi : i < L
  · by_cases e : k = i
    · subst e
      simp [h]
    · have e' : ¬ i = k := fun z => e z.symm
      simp [e, e', hi]
  · have e : ¬ k = i := fun z => hi (z ▸ h)
    simp [e, hi]
def fr (m : Int) (row : List Int) (i j : Nat) : Int := if j < i then nxt m row j else if j = i ∧ 0 < i then row.getD (i - 1) 0 else 0
def bCtTurn : Sx := seq (sSetI 3 (e2 dAdd (.pk 4) (.ex (eC (.int 1)))) (e2 dAdd (.ex (e2 dIx (.pk 3) (.ex (e2 dAdd (.pk 4) (.ex (eC (.int 1))))))) (.ex (e2 dIx (.pk 1) (.pk 4))))) (sSetI 3 (eVar 4) (e2 dAdd (.ex (e2 dIx (.pk 3) (.pk 4))) (.ex (e2 dMul (.pk 2) (.ex (e2 dIx (.pk 1) (.pk 4)))))))
theorem ct_turn (m : Nat) (hm : m < 40) (a : Option Val) (i : Nat) (hi : i < m + 1) :
    fo1 (.n 4) bCtTurn [4] (.int (0 + (i : Int))) [a, some ⟨intsD (stir m), 0⟩, some ⟨.int (m : Int), 0⟩, some ⟨.lst (tabD (m + 2) (fr (m : Int) (stir m) i)), 1⟩, none] = .nx [a, some ⟨intsD (stir m), 0⟩, some ⟨.int (m : Int), 0⟩, some ⟨.lst (tabD (m + 2) (fr (m : Int) (stir m) (i + 1))), 1⟩, none] := by
  have hl := stir_len m
  generalize hR : stir m = R at *
  have hb : (R.getD i 0).natAbs < 2 ^ 400000 := by
    rw [List.getD_eq_getElem?_getD]
    cases q : R[i]? with
    | none => exact Nat.pow_pos (by decide)
    | some y =>
      obtain ⟨h1, h2⟩ := stir_bound m (by omega) y (by rw [hR]; exact List.mem_of_getElem? q)
      exact pow_big m (by omega) y h1 h2
  have hmul : dMul (.int (m : Int)) (.int (R.getD i 0)) = vI ((m : Int) * R.getD i 0) := dMul_sm (big400 (by omega)) hb
  have x1 := ix_ints R i (by omega)
  have e1 : (i : Int) + 1 = ((i + 1 : Nat) : Int) := by omega
  have t1 := tab_ix (m + 2) (fr (m : Int) R i) (i + 1) (by omega)
  have s1 := tab_set (m + 2) (fr (m : Int) R i) (i + 1) (fr (m : Int) R i (i + 1) + R.getD i 0) (by omega)
  have t2 := tab_ix (m + 2) (fun j => if j = i + 1 then fr (m : Int) R i (i + 1) + R.getD i 0 else fr (m : Int) R i j) i (by omega)
  have s2 := tab_set (m + 2) (fun j => if j = i + 1 then fr (m : Int) R i (i + 1) + R.getD i 0 else fr (m : Int) R i j) i (fr (m : Int) R i i + (m : Int) * R.getD i 0) (by omega)
  have ne : ¬ i = i + 1 := by omega
  simp only [ne, if_false] at t2
  have fin : (fun j => if j = i then fr (m : Int) R i i + (m : Int) * R.getD i 0 else if j = i + 1 then fr (m : Int) R i (i + 1) + R.getD i 0 else fr (m : Int) R i j) = fr (m : Int) R (i + 1) := by
    funext j
    by_cases h1 : j = i
    · subst h1
      have A : fr (m : Int) R j j = if 0 < j then R.getD (j - 1) 0 else 0 := by
        unfold fr
        rw [if_neg (Nat.lt_irrefl j)]
        by_cases h0 : 0 < j
        · rw [if_pos ⟨rfl, h0⟩, if_pos h0]
        · rw [if_neg (fun z => h0 z.2), if_neg h0]
      have B : fr (m : Int) R (j + 1) j = nxt (m : Int) R j := by
        unfold fr
        rw [if_pos (Nat.lt_succ_self j)]
      rw [if_pos rfl, A, B]
      unfold nxt
      exact Int.add_comm _ _
    · rw [if_neg h1]
      by_cases h2 : j = i + 1
      · subst h2
        have A : fr (m : Int) R i (i + 1) = 0 := by
          unfold fr
          rw [if_neg (by omega), if_neg (by omega)]
        have B : fr (m : Int) R (i + 1) (i + 1) = R.getD i 0 := by
          unfold fr
          rw [if_neg (Nat.lt_irrefl _), if_pos ⟨rfl, by omega⟩, Nat.add_sub_cancel]
        rw [if_pos rfl, A, B, Int.zero_add]
      · rw [if_neg h2]
        unfold fr
        by_cases h3 : j < i
        · rw [if_pos h3, if_pos (by omega)]
        · rw [if_neg h3, if_neg (by omega), if_neg (by omega), if_neg (by omega)]
  rw [fin] at s2
  generalize hg : R.getD i 0 = x at *
  clear fin
  generalize hI : ((i + 1 : Nat) : Int) = I1 at *
  rw [Int.zero_add, fo1_ap, asg_n, atO_some]
  simp only [List.set_cons_succ, List.set_cons_zero]
  simp [bCtTurn, go_pk, slot1_ap, slot1_ap1, e1, x1, t1, t2, setG_ap, setH_ap, s1, s2, eVar_ap, hmul]
theorem s_counts_turn (m : Nat) (hm : m < 40) (a : Option Val) : fo1 (.n 2) (seq (sSet 3 true (e2 dMul (.ex (eLst [eC (.int 0)])) (.ex (e2 dAdd (.ex (en oLen [.pk 1])) (.ex (eC (.int 1))))))) (seq (sFor (iR1 (en oLen [.pk 1])) (.n 4) bCtTurn [4]) (sSet 1 false (eVar 3)))) [2, 3, 4] (.int (0 + (m : Int))) [a, some ⟨intsD (stir m), 0⟩, none, none, none] = .nx [a, some ⟨intsD (stir (m + 1)), 0⟩, none, none, none] := by
  have hl := stir_len m
  have hlen : oLen [intsD (stir m)] = vI ((m + 1 : Nat) : Int) := by simp [intsD, hl]
  have loop := forL_range (t := .n 4) (a := bCtTurn) (ks := [4]) (env := fun i => [a, some ⟨intsD (stir m), 0⟩, some ⟨.int (m : Int), 0⟩, some ⟨.lst (tabD (m + 2) (fr (m : Int) (stir m) i)), 1⟩, none]) (lo := 0) (m + 1) fun i hi => ct_turn m hm a i hi
  have e0 : tabD (m + 2) (fr (m : Int) (stir m) 0) = List.replicate (m + 2) (.int 0) := by
    refine List.ext_getElem (by simp [tabD]) fun i h1 h2 => ?_
    simp [tabD, fr]
  have e1 : D.lst (tabD (m + 2) (fr (m : Int) (stir m) (m + 1))) = intsD (stir (m + 1)) := by
    unfold intsD tabD
    rw [stir, List.map_map]
    congr 1
    refine List.map_congr_left fun j hj => ?_
    have hj := List.mem_range.mp hj
    simp only [Function.comp_def]
    congr 1
    unfold fr
    by_cases h : j < m + 1
    · rw [if_pos h]
    · have : j = m + 1 := by omega
      subst this
      rw [if_neg h, if_pos ⟨rfl, by omega⟩]
      have z : (stir m).getD (m + 1) 0 = 0 := by
        rw [List.getD_eq_getElem?_getD, List.getElem?_eq_none (by omega)]
        rfl
      unfold nxt
      rw [z, if_pos (by omega), Int.mul_zero, Int.zero_add]
  have hmul : dMul (.lst [.int 0]) (.int ((m + 2 : Nat) : Int)) = some ⟨.lst (List.replicate (m + 2) (.int 0)), 1⟩ := by
    unfold dMul
    simp only
    have hb : big = 16777216 := rfl
    rw [if_pos ⟨by omega, by omega, by simp; omega⟩, Int.toNat_natCast]
    congr 2
    have : ∀ n : Nat, (List.replicate n [D.int 0]).flatten = List.replicate n (.int 0) := fun n => by
      induction n with
      | zero => rfl
      | succ n ih => rw [List.replicate_succ, List.flatten_cons, ih, List.replicate_succ]; rfl
    rw [this]
  have h2 : ((m + 1 : Nat) : Int) + 1 = ((m + 2 : Nat) : Int) := by omega
  have hb : m + 1 ≤ big := by have : big = 16777216 := rfl; omega
  simp only [e0] at loop
  rw [Int.zero_add, fo1_ap, asg_n, atO_some]
  simp only [List.set_cons_succ, List.set_cons_zero]
  have r1 := rng1_ap (g := [a, some ⟨intsD (stir m), 0⟩, some ⟨.int (m : Int), 0⟩, some ⟨.lst (List.replicate (m + 2) (.int 0)), 1⟩, none]) hb
  generalize hM : ((m + 1 : Nat) : Int) = M at *
  generalize hM2 : ((m + 2 : Nat) : Int) = M2 at *
  simp [go_pk, slot1_ap, hlen, h2, hmul, r1, loop, eVar_one, e1]
theorem s_lcounts (w : Nat) (hw : w ≤ 40) : sem__law_counts [.int (w : Int)] = .ok ⟨intsD (stir w), 0⟩ := by
  have loop := forL_range (env := fun m => [some ⟨.int (w : Int), 0⟩, some ⟨intsD (stir m), 0⟩, none, none, none]) (lo := 0) w fun m hm => s_counts_turn m (by omega) (some ⟨.int (w : Int), 0⟩)
  show fnS 5 1 body__law_counts [.int (w : Int)] = _
  rw [fnS1]
  have hb : w ≤ big := by have : big = 16777216 := rfl; omega
  have e0 : intsD (stir 0) = .lst [.int 1] := rfl
  simp only [e0] at loop
  unfold bCtTurn at loop
  simp [body__law_counts, eVar_ap, rng1_ap hb, loop]
end Law

namespace Law
open PySem (Str PyData)
open PL
/-! ### what is looked up case by case -/
def cnt (l : List (List Int)) (p : List Int → Bool) : Int := ((l.filter p).length : Int)
def c1B (n : Nat) : Bool := (List.range (n + 2)).all fun f => (List.range (n + 2)).all fun l => cnt (rowsZ n n) (fun r => seenL 0 0 r == (f : Int) && seenL 0 0 r.reverse == (l : Int)) == bothZ n f l
def c2B (n : Nat) : Bool := (List.range (n + 2)).all fun f => cnt (rowsZ n n) (fun r => seenL 0 0 r == (f : Int)) == seenAt n f
def sumTo (F : Nat → Int) : Nat → Int
  | 0 => F 0
  | n + 1 => sumTo F n + F (n + 1)
def b1B (w : Nat) : Bool := (List.range w).all fun k => sumTo (fun j => bothZ w (k + 1) j) w == seenAt w (k + 1)
def b2B : Bool := (List.range 40).all fun f => (List.range 40).all fun l => chF ((f + l : Nat) : Int) f == chF ((f + l : Nat) : Int) l
def maxL (l : List Int) : Option Int := match l with
  | [] => none
  | a :: bs => some (maxI a bs)
def dB (n : Nat) : Bool := (List.range n).all fun f => (List.range n).all fun p => maxL (((rowsZ n n).filter fun r => seenL 0 0 r == ((f : Int) + 1)).map fun r => rAt r p) == some (boundZ n ((f : Int) + 1) p)
theorem b2_all : b2B = true := by decide +kernel
theorem b1_all : (List.range 41).all b1B = true := by decide +kernel
theorem c1_all : (List.range 6).all (fun n => c1B (n + 1)) = true := by decide +kernel
theorem c2_all : (List.range 6).all (fun n => c2B (n + 1)) = true := by decide +kernel
theorem d_all : (List.range 6).all (fun n => dB (n + 1)) = true := by decide +kernel
theorem all_range {n : Nat} {p : Nat → Bool} (h : (List.range n).all p = true) {i : Nat} (hi : i < n) : p i = true := List.all_eq_true.mp h i (List.mem_range.mpr hi)
end Law

namespace PL
open PySem
def tryO (cat : Nat → Bool) (i : Nat) (h : Exc → Sx) (o : SOut) : SOut := match o with
  | .exc x g1 => if cat x.c = true then (match h x (killG [i] g1) with
    | .nx g2 => .nx (killG [i] g2)
    | .brk g2 => .brk (killG [i] g2)
    | .ct g2 => .ct (killG [i] g2)
    | .ret v g2 => .ret v g2
    | _ => .bad) else .exc x g1
  | r => r
@[simp] theorem bindS_bad {k : Env → SOut} : bindS .bad k = .bad := nr rfl
@[simp] theorem sTry_ap {b : Sx} {cat : Nat → Bool} {i : Nat} {h : Exc → Sx} {g : Env} : sTry b cat i h g = tryO cat i h (b g) := nr rfl
@[simp] theorem tryO_ret {cat : Nat → Bool} {i : Nat} {h : Exc → Sx} {v : Val} {g : Env} : tryO cat i h (.ret v g) = .ret v g := nr rfl
@[simp] theorem tryO_nx {cat : Nat → Bool} {i : Nat} {h : Exc → Sx} {g : Env} : tryO cat i h (.nx g) = .nx g := nr rfl
theorem tryO_exc {cat : Nat → Bool} {i : Nat} {h : Exc → Sx} {x : Exc} {v : Val} {g g2 : Env} (h1 : cat x.c = true) (h2 : h x (killG [i] g) = .ret v g2) : tryO cat i h (.exc x g) = .ret v g2 := by
  unfold tryO
  simp only [h1, if_true, h2]
end PL
namespace Law
open PySem (Str PyData)
open PL
def ansO (o : FOut) : FOut := match o with
  | .ok v => .ok v
  | .exc _ => .ok ⟨.str "puzzle", 0⟩
  | .bad => .bad
theorem asked_gen (k : Int) (a b c : D) (F : FOut) (g0 : PL.Env) (h : seq (sIf (e2 dEq (.pk 0) (.ex (eC (.int 0)))) (sRet (eCall sem_rows_seen [eVar 1, eVar 2, eVar 3])) (skip)) (sRet (eIf (e2 dEq (.pk 0) (.ex (eC (.int 1)))) (eCall sem_bounds_for [eVar 1, eVar 2, eVar 3]) (eIf (e2 dEq (.pk 0) (.ex (eC (.int 2)))) (eCall sem_count_both [eVar 1, eVar 2, eVar 3]) (eIf (e2 dEq (.pk 0) (.ex (eC (.int 3)))) (eCall sem_count_seen [eVar 1, eVar 2]) (eCall sem_all_rows [eVar 1]))))) [some ⟨.int k, 0⟩, some ⟨a, 0⟩, some ⟨b, 0⟩, some ⟨c, 0⟩, none] = bindE (ofF F g0) .ret) (hF : F ≠ .bad) :
    sem__law_asked [.int k, a, b, c] = ansO F := by
  show fnS 5 4 body__law_asked [.int k, a, b, c] = _
  rw [fnS4, body__law_asked, sTry_ap]
  show fnO (tryO catP 4 _ (seq _ _ [some ⟨.int k, 0⟩, some ⟨a, 0⟩, some ⟨b, 0⟩, some ⟨c, 0⟩, none])) = _
  rw [h]
  cases F with
  | ok v => rfl
  | exc x =>
    rw [ofF_exc, bindE_exc, tryO_exc (v := ⟨.str "puzzle", 0⟩) (g2 := killG [4] g0) rfl (by simp)]
    rfl
  | bad => exact absurd rfl hF
theorem asked0 (a b c : D) (hF : sem_rows_seen [a, b, c] ≠ .bad) : sem__law_asked [.int 0, a, b, c] = ansO (sem_rows_seen [a, b, c]) :=
  asked_gen 0 a b c _ [some ⟨.int 0, 0⟩, some ⟨a, 0⟩, some ⟨b, 0⟩, some ⟨c, 0⟩, none] (by
    generalize hG : sem_rows_seen [a, b, c] = G
    cases G <;> simp [go_pk, slot1_ap, eVar_ap, hG]) hF
theorem asked1 (a b c : D) (hF : sem_bounds_for [a, b, c] ≠ .bad) : sem__law_asked [.int 1, a, b, c] = ansO (sem_bounds_for [a, b, c]) :=
  asked_gen 1 a b c _ [some ⟨.int 1, 0⟩, some ⟨a, 0⟩, some ⟨b, 0⟩, some ⟨c, 0⟩, none] (by
    generalize hG : sem_bounds_for [a, b, c] = G
    cases G <;> simp [go_pk, slot1_ap, eVar_ap, hG]) hF
theorem asked2 (a b c : D) (hF : sem_count_both [a, b, c] ≠ .bad) : sem__law_asked [.int 2, a, b, c] = ansO (sem_count_both [a, b, c]) :=
  asked_gen 2 a b c _ [some ⟨.int 2, 0⟩, some ⟨a, 0⟩, some ⟨b, 0⟩, some ⟨c, 0⟩, none] (by
    generalize hG : sem_count_both [a, b, c] = G
    cases G <;> simp [go_pk, slot1_ap, eVar_ap, hG]) hF
theorem asked3 (a b c : D) (hF : sem_count_seen [a, b] ≠ .bad) : sem__law_asked [.int 3, a, b, c] = ansO (sem_count_seen [a, b]) :=
  asked_gen 3 a b c _ [some ⟨.int 3, 0⟩, some ⟨a, 0⟩, some ⟨b, 0⟩, some ⟨c, 0⟩, none] (by
    generalize hG : sem_count_seen [a, b] = G
    cases G <;> simp [go_pk, slot1_ap, eVar_ap, hG]) hF
theorem asked4 (a b c : D) (hF : sem_all_rows [a] ≠ .bad) : sem__law_asked [.int 4, a, b, c] = ansO (sem_all_rows [a]) :=
  asked_gen 4 a b c _ [some ⟨.int 4, 0⟩, some ⟨a, 0⟩, some ⟨b, 0⟩, some ⟨c, 0⟩, none] (by
    generalize hG : sem_all_rows [a] = G
    cases G <;> simp [go_pk, slot1_ap, eVar_ap, hG]) hF

/-! ### refusals -/
theorem looks_bad1 (n : Int) (x : D) (l : D) (hn : 1 ≤ n ∧ n ≤ 6) (hx : x = .int (n + 1) ∨ x = .int (-1) ∨ x = .non ∨ x = .bl true) (hl : l = .int 0) : sem_look_at_seen [.int n, x, l] = .exc ⟨0, noW⟩ := by
  subst hl
  show fnS 4 3 body_look_at_seen [.int n, x, .int 0] = _
  rw [fnS3]
  have hs : decide (1 ≤ n ∧ n ≤ 6) = true := decide_eq_true hn
  have two : ∀ b : Bool, (∀ g : PL.Env, g = [some ⟨.int n, 0⟩, some ⟨x, 0⟩, some ⟨.int 0, 0⟩, none] → lc1 (.n 3) none (eAnd (eCall sem_is_whole [eVar 3]) (e3 dLe dLe (.ex (eC (.int 0))) (.pk 3) (.pk 0))) [3] x g = some (some (.bl false), g)) →
      fnO (body_look_at_seen [some ⟨.int n, 0⟩, some ⟨x, 0⟩, some ⟨.int 0, 0⟩, none]) = .exc ⟨0, noW⟩ := by
    intro _ h1
    have h1 := h1 _ rfl
    have h2 : lc1 (.n 3) none (eAnd (eCall sem_is_whole [eVar 3]) (e3 dLe dLe (.ex (eC (.int 0))) (.pk 3) (.pk 0))) [3] (.int 0) [some ⟨.int n, 0⟩, some ⟨x, 0⟩, some ⟨.int 0, 0⟩, none] = some (some (.bl true), [some ⟨.int n, 0⟩, some ⟨x, 0⟩, some ⟨.int 0, 0⟩, none]) := by
      have h0 : 0 ≤ n := by omega
      simp [lc1, eVar_ap, s_whole_int, go_pk, slot1_ap, h0]
    have lm : lcL (.n 3) none (eAnd (eCall sem_is_whole [eVar 3]) (e3 dLe dLe (.ex (eC (.int 0))) (.pk 3) (.pk 0))) false [3] [x, .int 0] [some ⟨.int n, 0⟩, some ⟨x, 0⟩, some ⟨.int 0, 0⟩, none] = .ok [.bl false, .bl true] [some ⟨.int n, 0⟩, some ⟨x, 0⟩, some ⟨.int 0, 0⟩, none] := by
      rw [lcL_step h1, lcL_step h2]
      rfl
    have ha : oAll [.lst [.bl false, .bl true]] = vB false := rfl
    simp [body_look_at_seen, eVar_ap, s_size, hs, lm, ha, restG]
  refine two true fun g hg => ?_
  subst hg
  rcases hx with rfl | rfl | rfl | rfl
  · have h1 : ¬ n + 1 ≤ n := by omega
    have h0 : 0 ≤ n + 1 := by omega
    simp [lc1, eVar_ap, s_whole_int, go_pk, slot1_ap, h1, h0]
  · simp [lc1, eVar_ap, s_whole_int, go_pk, slot1_ap]
  · simp [lc1, eVar_ap, s_whole_non, go_pk, slot1_ap]
  · simp [lc1, eVar_ap, s_whole_bl, go_pk, slot1_ap]
theorem rows_bad (a b c : D) (h : sem_look_at_seen [a, b, c] = .exc ⟨0, noW⟩) : sem_rows_seen [a, b, c] = .exc ⟨0, noW⟩ := by
  show fnS 4 3 body_rows_seen [a, b, c] = _
  rw [fnS3]
  simp [body_rows_seen, eVar_ap, h]
theorem bounds_bad (a b c : D) (h : sem_look_at_seen [a, b, .int 0] = .exc ⟨0, noW⟩) : sem_bounds_for [a, b, c] = .exc ⟨0, noW⟩ := by
  show fnS 3 3 body_bounds_for [a, b, c] = _
  rw [fnS3]
  simp [body_bounds_for, eVar_ap, h]
theorem bounds_bad2 (n : Int) (x : D) (hn : 1 ≤ n ∧ n ≤ 6) (hx : x = .int n ∨ x = .int (-1) ∨ x = .non ∨ x = .bl true) : sem_bounds_for [.int n, .int 1, x] = .exc ⟨0, noW⟩ := by
  show fnS 3 3 body_bounds_for [.int n, .int 1, x] = _
  rw [fnS3]
  have lk := s_looks n 1 0 hn ⟨by omega, by omega⟩ ⟨by omega, by omega⟩
  rcases hx with rfl | rfl | rfl | rfl
  · have h0 : 0 ≤ n := by omega
    simp [body_bounds_for, eVar_ap, lk, s_whole_int, go_pk, slot1_ap, h0]
  · simp [body_bounds_for, eVar_ap, lk, s_whole_int, go_pk, slot1_ap]
  · simp [body_bounds_for, eVar_ap, lk, s_whole_non, go_pk, slot1_ap]
  · simp [body_bounds_for, eVar_ap, lk, s_whole_bl, go_pk, slot1_ap]
theorem bounds_bad3 (n : Int) (hn : 1 ≤ n ∧ n ≤ 6) : sem_bounds_for [.int n, .int 0, .int 0] = .exc ⟨0, noW⟩ := by
  show fnS 3 3 body_bounds_for [.int n, .int 0, .int 0] = _
  rw [fnS3]
  have lk := s_looks n 0 0 hn ⟨by omega, by omega⟩ ⟨by omega, by omega⟩
  have h0 : 0 < n := by omega
  simp [body_bounds_for, eVar_ap, lk, s_whole_int, go_pk, slot1_ap, h0]
theorem size_bad (x : D) (hx : x = .int 0 ∨ x = .int 7 ∨ x = .non ∨ x = .bl true) : sem_is_size [x] = .ok ⟨.bl false, 0⟩ := by
  rcases hx with rfl | rfl | rfl | rfl
  · exact s_size 0
  · exact s_size 7
  · exact s_size_non
  · exact s_size_bl true
theorem lookc_bad (a b : D) (h : (b = .int 1 ∧ (a = .int 41 ∨ a = .int (-1) ∨ a = .non ∨ a = .bl true)) ∨ (a = .int 5 ∧ (b = .int (-1) ∨ b = .non ∨ b = .bl true))) : sem_look_at_count [a, b] = .exc ⟨0, noW⟩ := by
  show fnS 2 2 body_look_at_count [a, b] = _
  rw [fnS2]
  rcases h with ⟨rfl, rfl | rfl | rfl | rfl⟩ | ⟨rfl, rfl | rfl | rfl⟩ <;> simp [body_look_at_count, eVar_ap, s_whole_int, s_whole_non, s_whole_bl, go_pk, slot1_ap]
theorem both_bad (a b c : D) (h : sem_look_at_count [a, b] = .exc ⟨0, noW⟩) : sem_count_both [a, b, c] = .exc ⟨0, noW⟩ := by
  show fnS 3 3 body_count_both [a, b, c] = _
  rw [fnS3]
  simp [body_count_both, eVar_ap, h]
theorem cseen_bad (a b : D) (h : sem_look_at_count [a, b] = .exc ⟨0, noW⟩) : sem_count_seen [a, b] = .exc ⟨0, noW⟩ := by
  show fnS 5 2 body_count_seen [a, b] = _
  rw [fnS2]
  simp [body_count_seen, eVar_ap, h]
end Law

namespace Law
open PySem (Str PyData)
open PL
def lw1 : Sx := sSet 3 false (e2 dAdd (.ex (eC (.int 1))) (.ex (eCallIO sem__law_draw 1 [eC (.int 6)])))
def lw2 : Sx := sSet 4 false (eCall sem__law_rows [eVar 3])
def lw3 : Sx := sAsg (.t [.n 5, .n 6]) (eTup [eCallIO sem__law_draw 1 [e2 dAdd (.pk 3) (.ex (eC (.int 1)))], eCallIO sem__law_draw 1 [e2 dAdd (.pk 3) (.ex (eC (.int 1)))]])
def lw4 : Sx := sSet 7 false (en oTuple [.ex (eLc (iV (eVar 4)) (.n 9) (some (eAnd (e2 dIn (.pk 5) (.ex (eTup [eC (.int 0), eCall sem__law_seen [eVar 9]]))) (e2 dIn (.pk 6) (.ex (eTup [eC (.int 0), eCall sem__law_seen [e1 dRev (.pk 9)]]))))) (eVar 9) false [9] [9])])
def lw5 : Sx := sFor (iR1 (eC (.int 2))) (.n 8) (sIf (eNot (eCall (sem__law_same 8) [eLst [eCall sem__law_asked [eC (.int 0), eVar 3, eVar 5, eVar 6], eCall sem__law_asked [eC (.int 4), eVar 3, eC .non, eC .non]], eLst [eVar 7, en oTuple [.pk 4]]])) (sRet (eC (.bl false))) (skip)) [8]
def lw6 : Sx := sSet 9 false (e2 dIx (.pk 4) (.ex (eCallIO sem__law_draw 1 [en oLen [.pk 4]])))
def lw7 : Sx := sIf (eOr (eNot (eCall (sem__law_same 8) [eCall sem_seen [eVar 9], eCall sem__law_seen [eVar 9]])) (eNot (eCall (sem__law_same 8) [eCall sem_seen [e2 dAdd (.pk 9) (.pk 9)], eCall sem__law_seen [eVar 9]]))) (sRet (eC (.bl false))) (skip)
def lw8 : Sx := sAsg (.t [.n 10, .n 11]) (eTup [eCallIO sem__law_draw 1 [e2 dAdd (.pk 3) (.ex (eC (.int 2)))], eCallIO sem__law_draw 1 [e2 dAdd (.pk 3) (.ex (eC (.int 2)))]])
def lw9 : Sx := sSet 12 false (en oLen [.ex (eLc (iV (eVar 4)) (.n 9) (some (eAnd (e2 dEq (.ex (eCall sem__law_seen [eVar 9])) (.pk 10)) (e2 dEq (.ex (eCall sem__law_seen [e1 dRev (.pk 9)])) (.pk 11)))) (eVar 9) false [9] [9])])
def lw10 : Sx := sIf (eNot (eCall (sem__law_same 8) [eLst [eCall sem__law_asked [eC (.int 2), eVar 3, eVar 10, eVar 11], eCall sem__law_asked [eC (.int 3), eVar 3, eVar 10, eC .non]], eLst [eVar 12, en oLen [.ex (eLc (iV (eVar 4)) (.n 9) (some (e2 dEq (.ex (eCall sem__law_seen [eVar 9])) (.pk 10))) (eVar 9) false [9] [9])]]])) (sRet (eC (.bl false))) (skip)
def lw11 : Sx := sIf (e2 dGt (.pk 5) (.ex (eC (.int 0)))) (seq (sSet 13 false (eCallIO sem__law_draw 1 [eVar 3])) (sIf (eNot (eCall (sem__law_same 8) [eCall sem__law_asked [eC (.int 1), eVar 3, eVar 5, eVar 13], en oMax [.ex (eLc (iV (eVar 4)) (.n 9) (some (e2 dEq (.ex (eCall sem__law_seen [eVar 9])) (.pk 5))) (e2 dIx (.pk 9) (.pk 13)) false [9] [9])]])) (sRet (eC (.bl false))) (skip))) (skip)
def lw12 : Sx := sSet 14 false (eCallIO sem__law_draw 1 [eC (.int 41)])
def lw13 : Sx := sSet 15 false (eCall sem__law_counts [eVar 14])
def lw14 : Sx := sIf (eNot (eCall (sem__law_same 8) [eLc (iR1 (e2 dAdd (.pk 14) (.ex (eC (.int 2))))) (.n 16) none (eCall sem__law_asked [eC (.int 3), eVar 14, eVar 16, eC .non]) false [16] [16], e2 dAdd (.pk 15) (.ex (eLst [eC (.int 0)]))])) (sRet (eC (.bl false))) (skip)
def lw15 : Sx := sIf (e2 dGt (.pk 14) (.ex (eC (.int 0)))) (seq (sSet 16 false (e2 dAdd (.ex (eC (.int 1))) (.ex (eCallIO sem__law_draw 1 [eVar 14])))) (seq (sSet 17 false (eLc (iR1 (e2 dAdd (.pk 14) (.ex (eC (.int 1))))) (.n 18) none (eCall sem_count_both [eVar 14, eVar 16, eVar 18]) false [18] [])) (sIf (eOr (e2 dNe (.ex (en oSum [.pk 17])) (.ex (e2 dIx (.pk 15) (.pk 16)))) (e2 dNe (.pk 17) (.ex (eLc (iR1 (e2 dAdd (.pk 14) (.ex (eC (.int 1))))) (.n 18) none (eCall sem_count_both [eVar 14, eVar 18, eVar 16]) false [18] [])))) (sRet (eC (.bl false))) (skip)))) (skip)
def lw16 : Sx := sIf (eOr (e2 dNe (.ex (eCall sem__law_asked [eCallIO sem__law_draw 1 [eC (.int 2)], eVar 3, e2 dIx (.ex (eLst [e2 dAdd (.pk 3) (.ex (eC (.int 1))), e1 dNeg (.ex (eC (.int 1))), eC .non, eC (.bl true)])) (.ex (eCallIO sem__law_draw 1 [eC (.int 4)])), eC (.int 0)])) (.ex (eC (.str "puzzle")))) (e2 dNe (.ex (eCall sem__law_asked [eC (.int 1), eVar 3, eC (.int 1), e2 dIx (.ex (eLst [eVar 3, e1 dNeg (.ex (eC (.int 1))), eC .non, eC (.bl true)])) (.ex (eCallIO sem__law_draw 1 [eC (.int 4)]))])) (.ex (eC (.str "puzzle"))))) (sRet (eC (.bl false))) (skip)
def lw17 : Sx := sIf (e2 dNe (.ex (eCall sem__law_asked [e2 dIx (.ex (eLst [eC (.int 0), eC (.int 1), eC (.int 4)])) (.ex (eCallIO sem__law_draw 1 [eC (.int 3)])), e2 dIx (.ex (eLst [eC (.int 0), eC (.int 7), eC .non, eC (.bl true)])) (.ex (eCallIO sem__law_draw 1 [eC (.int 4)])), eC (.int 1), eC (.int 0)])) (.ex (eC (.str "puzzle")))) (sRet (eC (.bl false))) (skip)
def lw18 : Sx := sIf (e2 dNe (.ex (eCall sem__law_asked [e2 dAdd (.ex (eC (.int 2))) (.ex (eCallIO sem__law_draw 1 [eC (.int 2)])), e2 dIx (.ex (eLst [eC (.int 41), e1 dNeg (.ex (eC (.int 1))), eC .non, eC (.bl true)])) (.ex (eCallIO sem__law_draw 1 [eC (.int 4)])), eC (.int 1), eC (.int 1)])) (.ex (eC (.str "puzzle")))) (sRet (eC (.bl false))) (skip)
def lw19 : Sx := sIf (eOr (e2 dNe (.ex (eCall sem__law_asked [e2 dAdd (.ex (eC (.int 2))) (.ex (eCallIO sem__law_draw 1 [eC (.int 2)])), eC (.int 5), e2 dIx (.ex (eLst [e1 dNeg (.ex (eC (.int 1))), eC .non, eC (.bl true)])) (.ex (eCallIO sem__law_draw 1 [eC (.int 3)])), eC (.int 1)])) (.ex (eC (.str "puzzle")))) (e2 dNe (.ex (eCall sem__law_asked [eC (.int 1), eVar 3, eC (.int 0), eC (.int 0)])) (.ex (eC (.str "puzzle"))))) (sRet (eC (.bl false))) (skip)
def lwTurn : Sx := seq lw1 (seq lw2 (seq lw3 (seq lw4 (seq lw5 (seq lw6 (seq lw7 (seq lw8 (seq lw9 (seq lw10 (seq lw11 (seq lw12 (seq lw13 (seq lw14 (seq lw15 (seq lw16 (seq lw17 (seq lw18 (lw19))))))))))))))))))

theorem draw_eq : sem__law_draw = fnIO 4 1 bDraw := rfl
theorem same_eq : ∀ k, sem__law_same k = sSame k
  | 0 => rfl
  | k + 1 => by
    show fnS 3 2 (body__law_same (sem__law_same k)) = fnS 3 2 (bSame (sSame k))
    rw [same_eq k]
    rfl
theorem same8 (d : D) (h : smD 8 d = true) : sem__law_same 8 [d, d] = .ok ⟨.bl true, 0⟩ := by
  rw [same_eq]
  exact same_refl 8 d h
/-- a draw below lim -/
theorem dr {v : Val} (hv : Dw v) {lim : Int} (h0 : 0 < lim) (h1 : lim < 1000000) : ∃ (r : Nat) (v' : Val), sem__law_draw v [.int lim] = .ok ⟨.int (r : Int), 0⟩ v' ∧ Dw v' ∧ (r : Int) < lim := by
  obtain ⟨r, v', e, hd, h2, h3⟩ := draw_ok hv h0 h1
  obtain ⟨m, rfl⟩ := Int.eq_ofNat_of_zero_le h2
  exact ⟨m, v', by rw [draw_eq]; exact e, hd, h3⟩
theorem smDs_ints : ∀ (n : Nat) (r : List Int), smDs n (r.map .int) = true
  | _, [] => by cases ‹Nat› <;> rfl
  | n, a :: r => by
    rw [List.map_cons, smDs, smDs_ints n r]
    cases n <;> rfl
theorem smD_int (n : Nat) (i : Int) : smD n (.int i) = true := by cases n <;> rfl
theorem smD_row (n : Nat) (r : List Int) (h : r.length ≤ big) : smD (n + 1) (rowD r) = true := by
  unfold rowD
  rw [smD, smDs_ints]
  simpa using h
theorem smDs_rows (n : Nat) : ∀ l : List (List Int), (∀ r ∈ l, r.length ≤ big) → smDs (n + 1) (l.map rowD) = true
  | [], _ => rfl
  | r :: l, h => by
    rw [List.map_cons, smDs, smD_row n r (h r List.mem_cons_self), smDs_rows n l fun r hr => h r (List.mem_cons_of_mem _ hr)]
    rfl
section
variable {s t a3 a4 a5 a6 a7 a8 a9 a10 a11 a12 a13 : Option Val} {v : Val} {R : PL.Env}
theorem t1 (hv : Dw v) : ∃ (n : Nat) (v' : Val), 1 ≤ n ∧ n ≤ 6 ∧ Dw v' ∧ lw1 (s :: some v :: t :: a3 :: R) = .nx (s :: some v' :: t :: some ⟨.int (n : Int), 0⟩ :: R) := by
  obtain ⟨r, v', e, hd, h3⟩ := dr hv (lim := 6) (by decide) (by decide)
  refine ⟨r + 1, v', by omega, by omega, hd, ?_⟩
  have e1 : (1 : Int) + (r : Int) = ((r + 1 : Nat) : Int) := by omega
  generalize ((r + 1 : Nat) : Int) = N at *
  simp [lw1, eCallIO_ap, callIO_ap, e, e1]
theorem t2 (n : Nat) (hn : n ≤ 6) : lw2 (s :: some v :: t :: some ⟨.int (n : Int), 0⟩ :: a4 :: R) = .nx (s :: some v :: t :: some ⟨.int (n : Int), 0⟩ :: some ⟨.lst ((rowsZ n n).map rowD), 0⟩ :: R) := by
  simp [lw2, eVar_ap, s_lrows n hn]
theorem t3 (hv : Dw v) (n : Nat) (h6 : n ≤ 6) : ∃ (f l : Nat) (v' : Val), f ≤ n ∧ l ≤ n ∧ Dw v' ∧ lw3 (s :: some v :: t :: some ⟨.int (n : Int), 0⟩ :: a4 :: a5 :: a6 :: R) = .nx (s :: some v' :: t :: some ⟨.int (n : Int), 0⟩ :: a4 :: some ⟨.int (f : Int), 0⟩ :: some ⟨.int (l : Int), 0⟩ :: R) := by
  obtain ⟨f, v1, e1, hd1, h1⟩ := dr hv (lim := (n : Int) + 1) (by omega) (by omega)
  obtain ⟨l, v2, e2, hd2, h2⟩ := dr hd1 (lim := (n : Int) + 1) (by omega) (by omega)
  refine ⟨f, l, v2, by omega, by omega, hd2, ?_⟩
  simp [lw3, eCallIO_ap, callIO_ap, go_pk, slot1_ap, e1, e2]
/-- the law's filter -/
theorem lpick (n k : Nat) (hn : n < 7) (hk : k < 7) (f l : Int) (r : List Int) (hr : r ∈ rowsZ n k) : pick f l lawS r = pick f l (seenL 0 0) r ∧ lawS r = seenL 0 0 r ∧ lawS r.reverse = seenL 0 0 r.reverse ∧ r.length = k := by
  have q := List.all_eq_true.mp (rows_small n hn k hk).2 r hr
  simp only [Bool.and_eq_true, beq_iff_eq] at q
  obtain ⟨q1, q2⟩ := q
  have pos : ∀ a ∈ r, 0 < a := fun a ha => by
    have := List.all_eq_true.mp q2 a ha
    simpa using this
  have e : ∀ r : List Int, (∀ a ∈ r, 0 < a) → lawS r = seenL 0 0 r := fun r h => by
    have := seen_law r [] 0 0 (fun b hb => by simp [hb]) h
    rw [this, Int.zero_add]
    rfl
  have e1 := e r pos
  have e2 := e r.reverse fun a ha => pos a (List.mem_reverse.mp ha)
  refine ⟨?_, e1, e2, q1⟩
  unfold pick
  rw [e1, e2]
theorem t4 (n : Nat) (h6 : n ≤ 6) (f l : Int) (h9 : a9 = none) : lw4 (s :: some v :: t :: some ⟨.int (n : Int), 0⟩ :: some ⟨.lst ((rowsZ n n).map rowD), 0⟩ :: some ⟨.int f, 0⟩ :: some ⟨.int l, 0⟩ :: a7 :: a8 :: a9 :: R) = .nx (s :: some v :: t :: some ⟨.int (n : Int), 0⟩ :: some ⟨.lst ((rowsZ n n).map rowD), 0⟩ :: some ⟨.int f, 0⟩ :: some ⟨.int l, 0⟩ :: some ⟨.tup (((rowsZ n n).filter (pick f l (seenL 0 0))).map rowD), 0⟩ :: a8 :: none :: R) := by
  subst h9
  have comp : lcL (.n 9) (some (eAnd (e2 dIn (.pk 5) (.ex (eTup [eC (.int 0), eCall sem__law_seen [eVar 9]]))) (e2 dIn (.pk 6) (.ex (eTup [eC (.int 0), eCall sem__law_seen [e1 dRev (.pk 9)]]))))) (eVar 9) false [9] ((rowsZ n n).map rowD) (s :: some v :: t :: some ⟨.int (n : Int), 0⟩ :: some ⟨.lst ((rowsZ n n).map rowD), 0⟩ :: some ⟨.int f, 0⟩ :: some ⟨.int l, 0⟩ :: a7 :: a8 :: none :: R) = .ok (((rowsZ n n).filter (pick f l (seenL 0 0))).map rowD) (s :: some v :: t :: some ⟨.int (n : Int), 0⟩ :: some ⟨.lst ((rowsZ n n).map rowD), 0⟩ :: some ⟨.int f, 0⟩ :: some ⟨.int l, 0⟩ :: a7 :: a8 :: none :: R) := by
    rw [lcL_pure (h := fun d => match d with
      | .tup ds => match allI ds with
        | some r => if pick f l (seenL 0 0) r = true then some (rowD r) else none
        | none => none
      | _ => none)]
    · congr 1
      rw [List.filterMap_map, ← filterMap_ints]
      congr 1
      funext r
      simp only [Function.comp_def, rowD, allI_map]
    · intro d hd
      obtain ⟨r, hr, rfl⟩ := List.mem_map.mp hd
      have e : (match rowD r with
        | .tup ds => match allI ds with
          | some r => if pick f l (seenL 0 0) r = true then some (rowD r) else none
          | none => none
        | _ => none) = if pick f l (seenL 0 0) r = true then some (rowD r) else none := by simp only [rowD, allI_map]
      rw [e]
      obtain ⟨_, p1, p2, p3⟩ := lpick n n (by omega) (by omega) f l r hr
      have hb : big = 16777216 := rfl
      have s1 := s_lseen r (by omega)
      have s2 := s_lseen r.reverse (by rw [List.length_reverse]; omega)
      rw [p1] at s1
      rw [p2] at s2
      unfold pick
      generalize hx : (f == 0 || f == seenL 0 0 r) = x
      generalize hy : (l == 0 || l == seenL 0 0 r.reverse) = y
      have i1 := in_two f (seenL 0 0 r)
      have i2 := in_two l (seenL 0 0 r.reverse)
      rw [hx] at i1
      rw [hy] at i2
      cases x <;> cases y <;> simp [lc1, eVar_ap, go_pk, slot1_ap, s1, s2, i1, i2, rev_row]
  simp [lw4, eVar_ap, comp, restG]
theorem t5 (n : Nat) (h1 : 1 ≤ n) (h6 : n ≤ 6) (f l : Nat) (hf : f ≤ n) (hl : l ≤ n) : lw5 (s :: some v :: t :: some ⟨.int (n : Int), 0⟩ :: some ⟨.lst ((rowsZ n n).map rowD), 0⟩ :: some ⟨.int (f : Int), 0⟩ :: some ⟨.int (l : Int), 0⟩ :: some ⟨.tup (((rowsZ n n).filter (pick f l (seenL 0 0))).map rowD), 0⟩ :: none :: R) = .nx (s :: some v :: t :: some ⟨.int (n : Int), 0⟩ :: some ⟨.lst ((rowsZ n n).map rowD), 0⟩ :: some ⟨.int (f : Int), 0⟩ :: some ⟨.int (l : Int), 0⟩ :: some ⟨.tup (((rowsZ n n).filter (pick f l (seenL 0 0))).map rowD), 0⟩ :: none :: R) := by
  have r0 := s_rowsS n (f : Int) (l : Int) h1 h6 (by omega) (by omega)
  have r4 := s_rows n h1 h6
  have q0 := asked0 (.int (n : Int)) (.int (f : Int)) (.int (l : Int)) (by rw [r0]; exact fun h => nomatch h)
  have q4 := asked4 (.int (n : Int)) .non .non (by rw [r4]; exact fun h => nomatch h)
  rw [r0] at q0
  rw [r4] at q4
  have hb : big = 16777216 := rfl
  have len : ∀ r ∈ rowsZ n n, r.length ≤ big := fun r hr => by
    obtain ⟨_, _, _, p3⟩ := lpick n n (by omega) (by omega) 0 0 r hr
    omega
  have hlen := (rows_small n (by omega) n (by omega)).1
  have sm : smD 8 (.lst [.tup (((rowsZ n n).filter (pick f l (seenL 0 0))).map rowD), .tup ((rowsZ n n).map rowD)]) = true := by
    have h1 := smDs_rows 5 (rowsZ n n) len
    have h2 := smDs_rows 5 ((rowsZ n n).filter (pick f l (seenL 0 0))) fun r hr => len r (List.mem_filter.mp hr).1
    have h3 : ((rowsZ n n).filter (pick f l (seenL 0 0))).length ≤ big := by
      have := List.length_filter_le (pick f l (seenL 0 0)) (rowsZ n n)
      omega
    have h4 : (rowsZ n n).length ≤ big := by omega
    simp only [smD, smDs, h1, h2, List.length_map, h3, h4, decide_true, Bool.and_true, List.length_cons, List.length_nil]
    rfl
  have sa := same8 _ sm
  have one : ∀ i : Nat, fo1 (.n 8) (sIf (eNot (eCall (sem__law_same 8) [eLst [eCall sem__law_asked [eC (.int 0), eVar 3, eVar 5, eVar 6], eCall sem__law_asked [eC (.int 4), eVar 3, eC .non, eC .non]], eLst [eVar 7, en oTuple [.pk 4]]])) (sRet (eC (.bl false))) (skip)) [8] (.int (0 + (i : Int))) (s :: some v :: t :: some ⟨.int (n : Int), 0⟩ :: some ⟨.lst ((rowsZ n n).map rowD), 0⟩ :: some ⟨.int (f : Int), 0⟩ :: some ⟨.int (l : Int), 0⟩ :: some ⟨.tup (((rowsZ n n).filter (pick f l (seenL 0 0))).map rowD), 0⟩ :: none :: R) = .nx (s :: some v :: t :: some ⟨.int (n : Int), 0⟩ :: some ⟨.lst ((rowsZ n n).map rowD), 0⟩ :: some ⟨.int (f : Int), 0⟩ :: some ⟨.int (l : Int), 0⟩ :: some ⟨.tup (((rowsZ n n).filter (pick f l (seenL 0 0))).map rowD), 0⟩ :: none :: R) := by
    intro i
    rw [fo1_ap, asg_n, atO_some]
    simp only [List.set_cons_succ, List.set_cons_zero]
    simp [eVar_ap, go_pk, slot1_ap, q0, q4, ansO, sa]
  have loop := forL_range (env := fun _ => (s :: some v :: t :: some ⟨.int (n : Int), 0⟩ :: some ⟨.lst ((rowsZ n n).map rowD), 0⟩ :: some ⟨.int (f : Int), 0⟩ :: some ⟨.int (l : Int), 0⟩ :: some ⟨.tup (((rowsZ n n).filter (pick f l (seenL 0 0))).map rowD), 0⟩ :: none :: R)) (lo := 0) 2 fun i _ => one i
  have r1 := rng1_ap (g := (s :: some v :: t :: some ⟨.int (n : Int), 0⟩ :: some ⟨.lst ((rowsZ n n).map rowD), 0⟩ :: some ⟨.int (f : Int), 0⟩ :: some ⟨.int (l : Int), 0⟩ :: some ⟨.tup (((rowsZ n n).filter (pick f l (seenL 0 0))).map rowD), 0⟩ :: none :: R)) (m := 2) (by decide)
  rw [lw5, sFor_ap, iR1_ap, eC_ap, iOf_ok, show (2 : Int) = ((2 : Nat) : Int) from rfl, r1, bindIS_ok]
  exact loop
end
end Law

namespace Law
open PySem (Str PyData)
open PL
theorem seen_low : ∀ (r : List Int) (m f : Int), (∀ b ∈ r, b ≤ m) → seenL m f r = f
  | [], _, _, _ => rfl
  | b :: r, m, f, h => by
    rw [seenL, if_neg (by have := h b List.mem_cons_self; omega)]
    exact seen_low r m f fun c hc => h c (List.mem_cons_of_mem _ hc)
theorem seen_app (q : List Int) : ∀ (l : List Int) (m f : Int), (∀ b ∈ q, b ≤ m ∨ ∃ a ∈ l, b ≤ a) → seenL m f (l ++ q) = seenL m f l
  | [], m, f, h => by
    rw [List.nil_append, seen_low q m f fun b hb => (h b hb).elim id fun ⟨_, ha, _⟩ => nomatch ha]
    rfl
  | a :: l, m, f, h => by
    rw [List.cons_append, seenL, seenL]
    by_cases hm : m < a
    · rw [if_pos hm, if_pos hm]
      refine seen_app q l a (f + 1) fun b hb => ?_
      rcases h b hb with z | ⟨c, hc, z⟩
      · exact .inl (by omega)
      · rcases List.mem_cons.mp hc with rfl | hc
        · exact .inl z
        · exact .inr ⟨c, hc, z⟩
    · rw [if_neg hm, if_neg hm]
      refine seen_app q l m f fun b hb => ?_
      rcases h b hb with z | ⟨c, hc, z⟩
      · exact .inl z
      · rcases List.mem_cons.mp hc with rfl | hc
        · exact .inl (by omega)
        · exact .inr ⟨c, hc, z⟩
theorem seen_dbl (r : List Int) : seenL 0 0 (r ++ r) = seenL 0 0 r := seen_app r r 0 0 fun b hb => .inr ⟨b, hb, Int.le_refl b⟩
theorem same_int (i : Int) : sem__law_same 8 [.int i, .int i] = .ok ⟨.bl true, 0⟩ := same8 _ rfl
theorem same_two (i j : Int) : sem__law_same 8 [.lst [.int i, .int j], .lst [.int i, .int j]] = .ok ⟨.bl true, 0⟩ := same8 _ rfl
section
variable {s t a3 a4 a5 a6 a7 a8 a9 a10 a11 a12 a13 : Option Val} {v : Val} {R : PL.Env}
theorem ix_rows (l : List (List Int)) (i : Nat) (h : i < l.length) : dIx (.lst (l.map rowD)) (.int (i : Int)) = some ⟨rowD l[i], 0⟩ := by
  unfold dIx
  simp only [atI_nat (xs := l.map rowD) (i := i) (by simpa using h)]
  simp
theorem t6 (hv : Dw v) (n : Nat) (h1 : 1 ≤ n) (h6 : n ≤ 6) : ∃ (r : List Int) (v' : Val), r ∈ rowsZ n n ∧ Dw v' ∧ lw6 (s :: some v :: t :: a3 :: some ⟨.lst ((rowsZ n n).map rowD), 0⟩ :: a5 :: a6 :: a7 :: a8 :: a9 :: R) = .nx (s :: some v' :: t :: a3 :: some ⟨.lst ((rowsZ n n).map rowD), 0⟩ :: a5 :: a6 :: a7 :: a8 :: some ⟨rowD r, 0⟩ :: R) := by
  have hlen := (rows_small n (by omega) n (by omega)).1
  have hpos : ∀ n < 7, 1 ≤ n → (rowsZ n n).length ≠ 0 := by decide +kernel
  have hp := hpos n (by omega) h1
  obtain ⟨i, v', e, hd, h3⟩ := dr hv (lim := ((rowsZ n n).length : Int)) (by omega) (by omega)
  have hi : i < (rowsZ n n).length := by omega
  refine ⟨(rowsZ n n)[i], v', List.getElem_mem hi, hd, ?_⟩
  have ix := ix_rows (rowsZ n n) i hi
  simp [lw6, eCallIO_ap, callIO_ap, go_pk, slot1_ap, e, ix]
theorem t7 (n : Nat) (h6 : n ≤ 6) (r : List Int) (hr : r ∈ rowsZ n n) : lw7 (s :: some v :: t :: a3 :: a4 :: a5 :: a6 :: a7 :: a8 :: some ⟨rowD r, 0⟩ :: R) = .nx (s :: some v :: t :: a3 :: a4 :: a5 :: a6 :: a7 :: a8 :: some ⟨rowD r, 0⟩ :: R) := by
  obtain ⟨_, p1, p2, p3⟩ := lpick n n (by omega) (by omega) 0 0 r hr
  have hb : big = 16777216 := rfl
  have s1 := s_lseen r (by omega)
  rw [p1] at s1
  have s2 := s_seen r
  have s3 := s_seen (r ++ r)
  rw [seen_dbl] at s3
  have c := cat_rows r r (by omega)
  simp [lw7, eVar_ap, go_pk, slot1_ap, s1, s2, s3, c, same_int]
theorem t8 (hv : Dw v) (n : Nat) (h6 : n ≤ 6) : ∃ (f l : Nat) (v' : Val), f < n + 2 ∧ l < n + 2 ∧ Dw v' ∧ lw8 (s :: some v :: t :: some ⟨.int (n : Int), 0⟩ :: a4 :: a5 :: a6 :: a7 :: a8 :: a9 :: a10 :: a11 :: R) = .nx (s :: some v' :: t :: some ⟨.int (n : Int), 0⟩ :: a4 :: a5 :: a6 :: a7 :: a8 :: a9 :: some ⟨.int (f : Int), 0⟩ :: some ⟨.int (l : Int), 0⟩ :: R) := by
  obtain ⟨f, v1, e1, hd1, h1⟩ := dr hv (lim := (n : Int) + 2) (by omega) (by omega)
  obtain ⟨l, v2, e2, hd2, h2⟩ := dr hd1 (lim := (n : Int) + 2) (by omega) (by omega)
  refine ⟨f, l, v2, by omega, by omega, hd2, ?_⟩
  simp [lw8, eCallIO_ap, callIO_ap, go_pk, slot1_ap, e1, e2]
theorem t9 (n : Nat) (h6 : n ≤ 6) (x : List Int) (f l : Int) : lw9 (s :: some v :: t :: a3 :: some ⟨.lst ((rowsZ n n).map rowD), 0⟩ :: a5 :: a6 :: a7 :: a8 :: some ⟨rowD x, 0⟩ :: some ⟨.int f, 0⟩ :: some ⟨.int l, 0⟩ :: a12 :: R) = .nx (s :: some v :: t :: a3 :: some ⟨.lst ((rowsZ n n).map rowD), 0⟩ :: a5 :: a6 :: a7 :: a8 :: some ⟨rowD x, 0⟩ :: some ⟨.int f, 0⟩ :: some ⟨.int l, 0⟩ :: some ⟨.int (cnt (rowsZ n n) fun r => seenL 0 0 r == f && seenL 0 0 r.reverse == l), 0⟩ :: R) := by
  have comp : lcL (.n 9) (some (eAnd (e2 dEq (.ex (eCall sem__law_seen [eVar 9])) (.pk 10)) (e2 dEq (.ex (eCall sem__law_seen [e1 dRev (.pk 9)])) (.pk 11)))) (eVar 9) false [9] ((rowsZ n n).map rowD) (s :: some v :: t :: a3 :: some ⟨.lst ((rowsZ n n).map rowD), 0⟩ :: a5 :: a6 :: a7 :: a8 :: none :: some ⟨.int f, 0⟩ :: some ⟨.int l, 0⟩ :: a12 :: R) = .ok (((rowsZ n n).filter fun r => seenL 0 0 r == f && seenL 0 0 r.reverse == l).map rowD) (s :: some v :: t :: a3 :: some ⟨.lst ((rowsZ n n).map rowD), 0⟩ :: a5 :: a6 :: a7 :: a8 :: none :: some ⟨.int f, 0⟩ :: some ⟨.int l, 0⟩ :: a12 :: R) := by
    rw [lcL_pure (h := fun d => match d with
      | .tup ds => match allI ds with
        | some r => if (seenL 0 0 r == f && seenL 0 0 r.reverse == l) = true then some (rowD r) else none
        | none => none
      | _ => none)]
    · congr 1
      rw [List.filterMap_map, ← filterMap_ints]
      congr 1
      funext r
      simp only [Function.comp_def, rowD, allI_map]
    · intro d hd
      obtain ⟨r, hr, rfl⟩ := List.mem_map.mp hd
      have e : (match rowD r with
        | .tup ds => match allI ds with
          | some r => if (seenL 0 0 r == f && seenL 0 0 r.reverse == l) = true then some (rowD r) else none
          | none => none
        | _ => none) = if (seenL 0 0 r == f && seenL 0 0 r.reverse == l) = true then some (rowD r) else none := by simp only [rowD, allI_map]
      rw [e]
      obtain ⟨_, p1, p2, p3⟩ := lpick n n (by omega) (by omega) 0 0 r hr
      have hb : big = 16777216 := rfl
      have s1 := s_lseen r (by omega)
      have s2 := s_lseen r.reverse (by rw [List.length_reverse]; omega)
      rw [p1] at s1
      rw [p2] at s2
      generalize seenL 0 0 r = x1 at *
      generalize seenL 0 0 r.reverse = x2 at *
      by_cases g1 : x1 = f <;> by_cases g2 : x2 = l <;> simp [lc1, eVar_ap, go_pk, slot1_ap, s1, s2, rev_row, g1, g2]
  simp [lw9, eVar_ap, comp, restG, cnt]
theorem t10 (n : Nat) (h1 : 1 ≤ n) (h6 : n ≤ 6) (x : List Int) (f l : Nat) (hf : f < n + 2) (hl : l < n + 2) : lw10 (s :: some v :: t :: some ⟨.int (n : Int), 0⟩ :: some ⟨.lst ((rowsZ n n).map rowD), 0⟩ :: a5 :: a6 :: a7 :: a8 :: some ⟨rowD x, 0⟩ :: some ⟨.int (f : Int), 0⟩ :: some ⟨.int (l : Int), 0⟩ :: some ⟨.int (cnt (rowsZ n n) fun r => seenL 0 0 r == (f : Int) && seenL 0 0 r.reverse == (l : Int)), 0⟩ :: R) = .nx (s :: some v :: t :: some ⟨.int (n : Int), 0⟩ :: some ⟨.lst ((rowsZ n n).map rowD), 0⟩ :: a5 :: a6 :: a7 :: a8 :: some ⟨rowD x, 0⟩ :: some ⟨.int (f : Int), 0⟩ :: some ⟨.int (l : Int), 0⟩ :: some ⟨.int (cnt (rowsZ n n) fun r => seenL 0 0 r == (f : Int) && seenL 0 0 r.reverse == (l : Int)), 0⟩ :: R) := by
  have b := s_both n f l (by omega) (by omega) (by omega)
  have c := s_cseen n f (by omega)
  have q2 := asked2 (.int (n : Int)) (.int (f : Int)) (.int (l : Int)) (by rw [b]; exact fun h => nomatch h)
  have q3 := asked3 (.int (n : Int)) (.int (f : Int)) .non (by rw [c]; exact fun h => nomatch h)
  rw [b] at q2
  rw [c] at q3
  have k1 : cnt (rowsZ n n) (fun r => seenL 0 0 r == (f : Int) && seenL 0 0 r.reverse == (l : Int)) = bothZ n f l := by
    have := all_range c1_all (i := n - 1) (by omega)
    rw [show n - 1 + 1 = n by omega] at this
    have := all_range (all_range this hf) hl
    simpa using this
  have k2 : cnt (rowsZ n n) (fun r => seenL 0 0 r == (f : Int)) = seenAt n f := by
    have := all_range c2_all (i := n - 1) (by omega)
    rw [show n - 1 + 1 = n by omega] at this
    have := all_range this hf
    simpa using this
  rw [k1]
  have comp : lcL (.n 9) (some (e2 dEq (.ex (eCall sem__law_seen [eVar 9])) (.pk 10))) (eVar 9) false [9] ((rowsZ n n).map rowD) (s :: some v :: t :: some ⟨.int (n : Int), 0⟩ :: some ⟨.lst ((rowsZ n n).map rowD), 0⟩ :: a5 :: a6 :: a7 :: a8 :: none :: some ⟨.int (f : Int), 0⟩ :: some ⟨.int (l : Int), 0⟩ :: some ⟨.int (bothZ n f l), 0⟩ :: R) = .ok (((rowsZ n n).filter fun r => seenL 0 0 r == (f : Int)).map rowD) (s :: some v :: t :: some ⟨.int (n : Int), 0⟩ :: some ⟨.lst ((rowsZ n n).map rowD), 0⟩ :: a5 :: a6 :: a7 :: a8 :: none :: some ⟨.int (f : Int), 0⟩ :: some ⟨.int (l : Int), 0⟩ :: some ⟨.int (bothZ n f l), 0⟩ :: R) := by
    rw [lcL_pure (h := fun d => match d with
      | .tup ds => match allI ds with
        | some r => if (seenL 0 0 r == (f : Int)) = true then some (rowD r) else none
        | none => none
      | _ => none)]
    · congr 1
      rw [List.filterMap_map, ← filterMap_ints]
      congr 1
      funext r
      simp only [Function.comp_def, rowD, allI_map]
    · intro d hd
      obtain ⟨r, hr, rfl⟩ := List.mem_map.mp hd
      have e : (match rowD r with
        | .tup ds => match allI ds with
          | some r => if (seenL 0 0 r == (f : Int)) = true then some (rowD r) else none
          | none => none
        | _ => none) = if (seenL 0 0 r == (f : Int)) = true then some (rowD r) else none := by simp only [rowD, allI_map]
      rw [e]
      obtain ⟨_, p1, p2, p3⟩ := lpick n n (by omega) (by omega) 0 0 r hr
      have hb : big = 16777216 := rfl
      have s1 := s_lseen r (by omega)
      rw [p1] at s1
      generalize seenL 0 0 r = x1 at *
      by_cases g1 : x1 = (f : Int) <;> simp [lc1, eVar_ap, go_pk, slot1_ap, s1, g1]
  have k3 : (((rowsZ n n).filter fun r => seenL 0 0 r == (f : Int)).length : Int) = seenAt n f := k2
  have sa := same_two (bothZ n f l) (seenAt n f)
  simp [lw10, eVar_ap, go_pk, slot1_ap, q2, q3, ansO, comp, restG, k3, sa]
end
end Law

namespace Law
open PySem (Str PyData)
open PL
section
variable {s t a3 a4 a5 a6 a7 a8 a9 a10 a11 a12 a13 a14 a15 a16 a17 a18 : Option Val} {v : Val} {R : PL.Env}
theorem oMax_ap (l : List Int) (m : Int) (h : maxL l = some m) : oMax [.lst (l.map .int)] = vI m := by
  cases l with
  | nil => cases h
  | cons a bs =>
    have h : maxI a bs = m := Option.some.inj h
    unfold oMax
    simp only [allI_map]
    rw [h]
theorem t11 (hv : Dw v) (n : Nat) (h1 : 1 ≤ n) (h6 : n ≤ 6) (x : List Int) (f : Nat) (hf : f ≤ n) : ∃ (v' : Val) (p : Option Val), Dw v' ∧ lw11 (s :: some v :: t :: some ⟨.int (n : Int), 0⟩ :: some ⟨.lst ((rowsZ n n).map rowD), 0⟩ :: some ⟨.int (f : Int), 0⟩ :: a6 :: a7 :: a8 :: some ⟨rowD x, 0⟩ :: a10 :: a11 :: a12 :: a13 :: R) = .nx (s :: some v' :: t :: some ⟨.int (n : Int), 0⟩ :: some ⟨.lst ((rowsZ n n).map rowD), 0⟩ :: some ⟨.int (f : Int), 0⟩ :: a6 :: a7 :: a8 :: some ⟨rowD x, 0⟩ :: a10 :: a11 :: a12 :: p :: R) := by
  by_cases h0 : f = 0
  · subst h0
    refine ⟨v, a13, hv, ?_⟩
    simp [lw11, go_pk, slot1_ap]
  · have hf0 : 0 < (f : Int) := by omega
    have hf1 : 0 < f := by omega
    obtain ⟨p, v', e, hd, h3⟩ := dr hv (lim := (n : Int)) (by omega) (by omega)
    refine ⟨v', some ⟨.int (p : Int), 0⟩, hd, ?_⟩
    have b := s_bounds (n : Int) (f : Int) (p : Int) (by omega) (by omega) (by omega)
    have q1 := asked1 (.int (n : Int)) (.int (f : Int)) (.int (p : Int)) (by rw [b]; exact fun h => nomatch h)
    rw [b] at q1
    have k : maxL (((rowsZ n n).filter fun r => seenL 0 0 r == (f : Int)).map fun r => rAt r p) = some (boundZ (n : Int) (f : Int) (p : Int)) := by
      have := all_range d_all (i := n - 1) (by omega)
      rw [show n - 1 + 1 = n by omega] at this
      have := all_range (all_range this (i := f - 1) (by omega)) (i := p) (by omega)
      rw [show ((f - 1 : Nat) : Int) + 1 = (f : Int) by omega] at this
      simpa using this
    have comp : lcL (.n 9) (some (e2 dEq (.ex (eCall sem__law_seen [eVar 9])) (.pk 5))) (e2 dIx (.pk 9) (.pk 13)) false [9] ((rowsZ n n).map rowD) (s :: some v' :: t :: some ⟨.int (n : Int), 0⟩ :: some ⟨.lst ((rowsZ n n).map rowD), 0⟩ :: some ⟨.int (f : Int), 0⟩ :: a6 :: a7 :: a8 :: none :: a10 :: a11 :: a12 :: some ⟨.int (p : Int), 0⟩ :: R) = .ok ((((rowsZ n n).filter fun r => seenL 0 0 r == (f : Int)).map fun r => rAt r p).map .int) (s :: some v' :: t :: some ⟨.int (n : Int), 0⟩ :: some ⟨.lst ((rowsZ n n).map rowD), 0⟩ :: some ⟨.int (f : Int), 0⟩ :: a6 :: a7 :: a8 :: none :: a10 :: a11 :: a12 :: some ⟨.int (p : Int), 0⟩ :: R) := by
      rw [lcL_pure (h := fun d => match d with
        | .tup ds => match allI ds with
          | some r => if (seenL 0 0 r == (f : Int)) = true then some (.int (rAt r p)) else none
          | none => none
        | _ => none)]
      · congr 1
        rw [List.filterMap_map, List.map_map, ← filterMap_ints]
        congr 1
        funext r
        simp only [Function.comp_def, rowD, allI_map]
      · intro d hd
        obtain ⟨r, hr, rfl⟩ := List.mem_map.mp hd
        have e : (match rowD r with
          | .tup ds => match allI ds with
            | some r => if (seenL 0 0 r == (f : Int)) = true then some (D.int (rAt r p)) else none
            | none => none
          | _ => none) = if (seenL 0 0 r == (f : Int)) = true then some (D.int (rAt r p)) else none := by simp only [rowD, allI_map]
        rw [e]
        obtain ⟨_, p1, p2, p3⟩ := lpick n n (by omega) (by omega) 0 0 r hr
        have hb : big = 16777216 := rfl
        have s1 := s_lseen r (by omega)
        rw [p1] at s1
        have ix := ix_row r p (by omega)
        generalize seenL 0 0 r = x1 at *
        by_cases g1 : x1 = (f : Int) <;> simp [lc1, eVar_ap, go_pk, slot1_ap, s1, g1, ix]
    have mx := oMax_ap _ _ k
    have sa := same_int (boundZ (n : Int) (f : Int) (p : Int))
    generalize hB : boundZ (n : Int) (f : Int) (p : Int) = B at *
    simp [-List.map_map, lw11, eVar_ap, go_pk, slot1_ap, hf1, eCallIO_ap, callIO_ap, e, q1, ansO, comp, restG, mx, sa]
theorem t12 (hv : Dw v) : ∃ (w : Nat) (v' : Val), w ≤ 40 ∧ Dw v' ∧ lw12 (s :: some v :: t :: a3 :: a4 :: a5 :: a6 :: a7 :: a8 :: a9 :: a10 :: a11 :: a12 :: a13 :: a14 :: R) = .nx (s :: some v' :: t :: a3 :: a4 :: a5 :: a6 :: a7 :: a8 :: a9 :: a10 :: a11 :: a12 :: a13 :: some ⟨.int (w : Int), 0⟩ :: R) := by
  obtain ⟨r, v', e, hd, h3⟩ := dr hv (lim := 41) (by decide) (by decide)
  refine ⟨r, v', by omega, hd, ?_⟩
  simp [lw12, eCallIO_ap, callIO_ap, e]
theorem t13 (w : Nat) (hw : w ≤ 40) : lw13 (s :: some v :: t :: a3 :: a4 :: a5 :: a6 :: a7 :: a8 :: a9 :: a10 :: a11 :: a12 :: a13 :: some ⟨.int (w : Int), 0⟩ :: a15 :: R) = .nx (s :: some v :: t :: a3 :: a4 :: a5 :: a6 :: a7 :: a8 :: a9 :: a10 :: a11 :: a12 :: a13 :: some ⟨.int (w : Int), 0⟩ :: some ⟨intsD (stir w), 0⟩ :: R) := by
  simp [lw13, eVar_ap, s_lcounts w hw]
theorem stir_tab (w : Nat) : (List.range (w + 2)).map (seenAt w) = stir w ++ [0] := by
  refine List.ext_getElem (by simp [stir_len]) fun i h1 h2 => ?_
  simp only [List.getElem_map, List.getElem_range]
  unfold seenAt
  rw [List.getD_eq_getElem?_getD]
  by_cases h : i < (stir w).length
  · rw [List.getElem_append_left h]
    simp [h]
  · have hl := stir_len w
    have : i = w + 1 := by simp at h1; omega
    subst this
    rw [List.getElem?_eq_none (by omega), List.getElem_append_right (by omega)]
    simp
theorem t14 (w : Nat) (hw : w ≤ 40) : lw14 (s :: some v :: t :: a3 :: a4 :: a5 :: a6 :: a7 :: a8 :: a9 :: a10 :: a11 :: a12 :: a13 :: some ⟨.int (w : Int), 0⟩ :: some ⟨intsD (stir w), 0⟩ :: none :: R) = .nx (s :: some v :: t :: a3 :: a4 :: a5 :: a6 :: a7 :: a8 :: a9 :: a10 :: a11 :: a12 :: a13 :: some ⟨.int (w : Int), 0⟩ :: some ⟨intsD (stir w), 0⟩ :: none :: R) := by
  have comp : lcL (.n 16) none (eCall sem__law_asked [eC (.int 3), eVar 14, eVar 16, eC .non]) false [16] (rngD 0 (w + 2)) (s :: some v :: t :: a3 :: a4 :: a5 :: a6 :: a7 :: a8 :: a9 :: a10 :: a11 :: a12 :: a13 :: some ⟨.int (w : Int), 0⟩ :: some ⟨intsD (stir w), 0⟩ :: none :: R) = .ok ((stir w ++ [0]).map .int) (s :: some v :: t :: a3 :: a4 :: a5 :: a6 :: a7 :: a8 :: a9 :: a10 :: a11 :: a12 :: a13 :: some ⟨.int (w : Int), 0⟩ :: some ⟨intsD (stir w), 0⟩ :: none :: R) := by
    rw [lcL_map (h := fun d => match d with
      | .int k => .int (seenAt w k.toNat)
      | _ => .non)]
    · congr 1
      unfold rngD
      rw [← stir_tab, List.map_map, List.map_map]
      congr 1
      funext k
      simp
    · intro d hd
      obtain ⟨k, hk, rfl⟩ := rngD_mem hd
      have c := s_cseen w k hw
      have q3 := asked3 (.int (w : Int)) (.int (k : Int)) .non (by rw [c]; exact fun h => nomatch h)
      rw [c] at q3
      simp [lc1, eVar_ap, q3, ansO]
  have hb : w + 2 ≤ big := by have : big = 16777216 := rfl; omega
  have h2 : (w : Int) + 2 = ((w + 2 : Nat) : Int) := by omega
  have ha : dAdd (intsD (stir w)) (.lst [.int 0]) = some ⟨.lst ((stir w ++ [0]).map .int), 1⟩ := by
    have hl := stir_len w
    have hb : big = 16777216 := rfl
    unfold intsD dAdd
    simp only
    rw [if_pos (by simp only [List.length_map, List.length_cons, List.length_nil]; omega), List.map_append]
    rfl
  have sm : smD 8 (.lst ((stir w ++ [0]).map .int)) = true := by
    have hl := stir_len w
    have hb : big = 16777216 := rfl
    rw [smD, smDs_ints, Bool.and_true]
    refine decide_eq_true ?_
    simp only [List.length_map, List.length_append, List.length_cons, List.length_nil]
    omega
  have sa := same8 _ sm
  have r1 := fun g => rng1_ap (g := g) hb
  generalize hW : ((w + 2 : Nat) : Int) = W at *
  simp [-List.map_append, lw14, eVar_ap, go_pk, slot1_ap, h2, r1, comp, restG, ha, sa]
theorem sumI_map : ∀ (n : Nat) (F : Nat → Int), sumI ((List.range (n + 1)).map F) = sumTo F n := by
  have app : ∀ (a b : List Int), sumI (a ++ b) = sumI a + sumI b := fun a b => by
    induction a with
    | nil => simp [sumI]
    | cons x a ih => rw [List.cons_append, sumI, sumI, ih]; omega
  intro n
  induction n with
  | zero => intro F; simp [sumI, sumTo]
  | succ n ih =>
    intro F
    rw [List.range_succ, List.map_append, app, ih F]
    simp [sumI, sumTo]
theorem both_sym (w k j : Nat) (hk : k ≤ 40) (hj : j ≤ 40) : bothZ w k j = bothZ w j k := by
  unfold bothZ
  by_cases h : w = 0 ∨ k = 0 ∨ j = 0
  · have h' : w = 0 ∨ j = 0 ∨ k = 0 := by omega
    rw [if_pos h, if_pos h']
    by_cases g : w = 0 ∧ k = 0 ∧ j = 0
    · rw [if_pos g, if_pos ⟨g.1, g.2.2, g.2.1⟩]
    · rw [if_neg g, if_neg fun z => g ⟨z.1, z.2.2, z.2.1⟩]
  · have h' : ¬ (w = 0 ∨ j = 0 ∨ k = 0) := by omega
    rw [if_neg h, if_neg h']
    have q := all_range (all_range b2_all (i := k - 1) (by omega)) (i := j - 1) (by omega)
    have q := eq_of_beq q
    rw [show k + j - 2 = k - 1 + (j - 1) by omega, show j + k - 2 = k - 1 + (j - 1) by omega, q]
theorem eqDs_refl : ∀ r : List Int, eqDs (r.map .int) (r.map .int) = true
  | [] => rfl
  | a :: r => by
    rw [List.map_cons, eqDs, eqDs_refl r]
    simp [eqD]
theorem ne_ints (r : List Int) : dNe (.lst (r.map .int)) (.lst (r.map .int)) = vB false := by
  unfold dNe
  rw [okD, okDs_ints]
  simp [eqD, eqDs_refl]
theorem t15 (hv : Dw v) (w : Nat) (hw : w ≤ 40) : ∃ (v' : Val) (p q : Option Val), Dw v' ∧ lw15 (s :: some v :: t :: a3 :: a4 :: a5 :: a6 :: a7 :: a8 :: a9 :: a10 :: a11 :: a12 :: a13 :: some ⟨.int (w : Int), 0⟩ :: some ⟨intsD (stir w), 0⟩ :: a16 :: a17 :: none :: R) = .nx (s :: some v' :: t :: a3 :: a4 :: a5 :: a6 :: a7 :: a8 :: a9 :: a10 :: a11 :: a12 :: a13 :: some ⟨.int (w : Int), 0⟩ :: some ⟨intsD (stir w), 0⟩ :: p :: q :: none :: R) := by
  by_cases h0 : w = 0
  · subst h0
    refine ⟨v, a16, a17, hv, ?_⟩
    simp [lw15, go_pk, slot1_ap]
  · have hw0 : 0 < (w : Int) := by omega
    have hw1 : 0 < w := by omega
    obtain ⟨r, v', e, hd, h3⟩ := dr hv (lim := (w : Int)) (by omega) (by omega)
    refine ⟨v', some ⟨.int ((r + 1 : Nat) : Int), 0⟩, some ⟨.lst (((List.range (w + 1)).map (bothZ w (r + 1))).map .int), 0⟩, hd, ?_⟩
    have e1 : (1 : Int) + (r : Int) = ((r + 1 : Nat) : Int) := by omega
    have e2 : (w : Int) + 1 = ((w + 1 : Nat) : Int) := by omega
    have hb : w + 1 ≤ big := by have : big = 16777216 := rfl; omega
    have r1 := fun g => rng1_ap (g := g) hb
    have c1 : ∀ y : Option Val, lcL (.n 18) none (eCall sem_count_both [eVar 14, eVar 16, eVar 18]) false [18] (rngD 0 (w + 1)) (s :: some v' :: t :: a3 :: a4 :: a5 :: a6 :: a7 :: a8 :: a9 :: a10 :: a11 :: a12 :: a13 :: some ⟨.int (w : Int), 0⟩ :: some ⟨intsD (stir w), 0⟩ :: some ⟨.int ((r + 1 : Nat) : Int), 0⟩ :: y :: none :: R) = .ok (((List.range (w + 1)).map (bothZ w (r + 1))).map .int) (s :: some v' :: t :: a3 :: a4 :: a5 :: a6 :: a7 :: a8 :: a9 :: a10 :: a11 :: a12 :: a13 :: some ⟨.int (w : Int), 0⟩ :: some ⟨intsD (stir w), 0⟩ :: some ⟨.int ((r + 1 : Nat) : Int), 0⟩ :: y :: none :: R) := by
      intro y
      rw [lcL_map (h := fun d => match d with
        | .int k => .int (bothZ w (r + 1) k.toNat)
        | _ => .non)]
      · congr 1
        unfold rngD
        rw [List.map_map, List.map_map]
        congr 1
        funext k
        simp
      · intro d hd
        obtain ⟨k, hk, rfl⟩ := rngD_mem hd
        have b := s_both w (r + 1) k hw (by omega) (by omega)
        generalize ((r + 1 : Nat) : Int) = N at *
        simp [lc1, eVar_ap, b]
    have c2 : ∀ y : Option Val, lcL (.n 18) none (eCall sem_count_both [eVar 14, eVar 18, eVar 16]) false [18] (rngD 0 (w + 1)) (s :: some v' :: t :: a3 :: a4 :: a5 :: a6 :: a7 :: a8 :: a9 :: a10 :: a11 :: a12 :: a13 :: some ⟨.int (w : Int), 0⟩ :: some ⟨intsD (stir w), 0⟩ :: some ⟨.int ((r + 1 : Nat) : Int), 0⟩ :: y :: none :: R) = .ok (((List.range (w + 1)).map (bothZ w (r + 1))).map .int) (s :: some v' :: t :: a3 :: a4 :: a5 :: a6 :: a7 :: a8 :: a9 :: a10 :: a11 :: a12 :: a13 :: some ⟨.int (w : Int), 0⟩ :: some ⟨intsD (stir w), 0⟩ :: some ⟨.int ((r + 1 : Nat) : Int), 0⟩ :: y :: none :: R) := by
      intro y
      rw [lcL_map (h := fun d => match d with
        | .int k => .int (bothZ w k.toNat (r + 1))
        | _ => .non)]
      · congr 1
        unfold rngD
        rw [List.map_map, List.map_map]
        refine List.map_congr_left fun k hk => ?_
        have hk := List.mem_range.mp hk
        simp only [Function.comp_def, Int.zero_add, Int.toNat_natCast]
        rw [both_sym w k (r + 1) (by omega) (by omega)]
      · intro d hd
        obtain ⟨k, hk, rfl⟩ := rngD_mem hd
        have b := s_both w k (r + 1) hw (by omega) (by omega)
        generalize ((r + 1 : Nat) : Int) = N at *
        simp [lc1, eVar_ap, b]
    have sm : oSum [.lst (((List.range (w + 1)).map (bothZ w (r + 1))).map .int)] = vI (seenAt w (r + 1)) := by
      unfold oSum
      simp only [allI_map]
      rw [sumI_map]
      have q := all_range (all_range b1_all (i := w) (by omega)) (i := r) (by omega)
      rw [eq_of_beq q]
    have ix := ix_ints (stir w) (r + 1) (by rw [stir_len]; omega)
    have ix : dIx (intsD (stir w)) (.int ((r + 1 : Nat) : Int)) = some ⟨.int (seenAt w (r + 1)), 0⟩ := ix
    have ne := ne_ints ((List.range (w + 1)).map (bothZ w (r + 1)))
    generalize hL : ((List.range (w + 1)).map (bothZ w (r + 1))).map D.int = L at *
    generalize hN : ((r + 1 : Nat) : Int) = N at *
    generalize hW : ((w + 1 : Nat) : Int) = W at *
    simp [lw15, eVar_ap, go_pk, slot1_ap, hw1, eCallIO_ap, callIO_ap, e, e1, e2, r1, c1, c2, restG, sm, ix, ne]
end
end Law

namespace Law
open PySem (Str PyData)
open PL
theorem pick4 (a b c d : D) (i : Nat) (h : i < 4) : ∃ x, dIx (.lst [a, b, c, d]) (.int (i : Int)) = some ⟨x, 0⟩ ∧ (x = a ∨ x = b ∨ x = c ∨ x = d) := by
  have : i = 0 ∨ i = 1 ∨ i = 2 ∨ i = 3 := by omega
  rcases this with rfl | rfl | rfl | rfl
  · exact ⟨a, rfl, .inl rfl⟩
  · exact ⟨b, rfl, .inr (.inl rfl)⟩
  · exact ⟨c, rfl, .inr (.inr (.inl rfl))⟩
  · exact ⟨d, rfl, .inr (.inr (.inr rfl))⟩
theorem pick3 (a b c : D) (i : Nat) (h : i < 3) : ∃ x, dIx (.lst [a, b, c]) (.int (i : Int)) = some ⟨x, 0⟩ ∧ (x = a ∨ x = b ∨ x = c) := by
  have : i = 0 ∨ i = 1 ∨ i = 2 := by omega
  rcases this with rfl | rfl | rfl
  · exact ⟨a, rfl, .inl rfl⟩
  · exact ⟨b, rfl, .inr (.inl rfl)⟩
  · exact ⟨c, rfl, .inr (.inr rfl)⟩
theorem ok_puz : PyData.strOk "puzzle" = true := by decide +kernel
theorem ne_puz : dNe (.str "puzzle") (.str "puzzle") = vB false := by
  unfold dNe
  simp [okD, eqD, ok_puz]
theorem ask_bad (k : Nat) (a b c : D) (h : (k = 0 ∧ sem_rows_seen [a, b, c] = .exc ⟨0, noW⟩) ∨ (k = 1 ∧ sem_bounds_for [a, b, c] = .exc ⟨0, noW⟩) ∨ (k = 2 ∧ sem_count_both [a, b, c] = .exc ⟨0, noW⟩) ∨ (k = 3 ∧ sem_count_seen [a, b] = .exc ⟨0, noW⟩) ∨ (k = 4 ∧ sem_all_rows [a] = .exc ⟨0, noW⟩)) : sem__law_asked [.int (k : Int), a, b, c] = .ok ⟨.str "puzzle", 0⟩ := by
  rcases h with ⟨rfl, h⟩ | ⟨rfl, h⟩ | ⟨rfl, h⟩ | ⟨rfl, h⟩ | ⟨rfl, h⟩
  · have q := asked0 a b c (by rw [h]; exact fun z => nomatch z)
    rw [h] at q
    exact q
  · have q := asked1 a b c (by rw [h]; exact fun z => nomatch z)
    rw [h] at q
    exact q
  · have q := asked2 a b c (by rw [h]; exact fun z => nomatch z)
    rw [h] at q
    exact q
  · have q := asked3 a b c (by rw [h]; exact fun z => nomatch z)
    rw [h] at q
    exact q
  · have q := asked4 a b c (by rw [h]; exact fun z => nomatch z)
    rw [h] at q
    exact q
section
variable {s t a3 : Option Val} {v : Val} {R : PL.Env}
theorem t16 (hv : Dw v) (n : Nat) (h1 : 1 ≤ n) (h6 : n ≤ 6) : ∃ v' : Val, Dw v' ∧ lw16 (s :: some v :: t :: some ⟨.int (n : Int), 0⟩ :: R) = .nx (s :: some v' :: t :: some ⟨.int (n : Int), 0⟩ :: R) := by
  obtain ⟨k, v1, e1, d1, l1⟩ := dr hv (lim := 2) (by decide) (by decide)
  obtain ⟨i, v2, e2, d2, l2⟩ := dr d1 (lim := 4) (by decide) (by decide)
  obtain ⟨j, v3, e3, d3, l3⟩ := dr d2 (lim := 4) (by decide) (by decide)
  obtain ⟨x, ex, hx⟩ := pick4 (.int ((n : Int) + 1)) (.int (-1)) .non (.bl true) i (by omega)
  obtain ⟨y, ey, hy⟩ := pick4 (.int (n : Int)) (.int (-1)) .non (.bl true) j (by omega)
  have lk := looks_bad1 (n : Int) x (.int 0) (by omega) hx rfl
  have q1 : sem__law_asked [.int (k : Int), .int (n : Int), x, .int 0] = .ok ⟨.str "puzzle", 0⟩ := ask_bad k _ _ _ (by
    have : k = 0 ∨ k = 1 := by omega
    rcases this with rfl | rfl
    · exact .inl ⟨rfl, rows_bad _ _ _ lk⟩
    · exact .inr (.inl ⟨rfl, bounds_bad _ _ _ lk⟩))
  have q2 : sem__law_asked [.int 1, .int (n : Int), .int 1, y] = .ok ⟨.str "puzzle", 0⟩ := ask_bad 1 _ _ _ (.inr (.inl ⟨rfl, bounds_bad2 (n : Int) y (by omega) hy⟩))
  refine ⟨v3, d3, ?_⟩
  simp [lw16, eVar_ap, go_pk, slot1_ap, eCallIO_ap, callIO_ap, e1, e2, e3, ex, ey, q1, q2, ne_puz]
theorem t17 (hv : Dw v) : ∃ v' : Val, Dw v' ∧ lw17 (s :: some v :: R) = .nx (s :: some v' :: R) := by
  obtain ⟨k, v1, e1, d1, l1⟩ := dr hv (lim := 3) (by decide) (by decide)
  obtain ⟨i, v2, e2, d2, l2⟩ := dr d1 (lim := 4) (by decide) (by decide)
  obtain ⟨x, ex, hx⟩ := pick4 (.int 0) (.int 7) .non (.bl true) i (by omega)
  obtain ⟨y, ey, hy⟩ := pick3 (.int 0) (.int 1) (.int 4) k (by omega)
  have sb := size_bad x hx
  have lk := s_looks_bad x (.int 1) (.int 0) sb
  have q1 : sem__law_asked [y, x, .int 1, .int 0] = .ok ⟨.str "puzzle", 0⟩ := by
    rcases hy with rfl | rfl | rfl
    · exact ask_bad 0 _ _ _ (.inl ⟨rfl, rows_bad _ _ _ lk⟩)
    · exact ask_bad 1 _ _ _ (.inr (.inl ⟨rfl, bounds_bad _ _ _ lk⟩))
    · exact ask_bad 4 _ _ _ (.inr (.inr (.inr (.inr ⟨rfl, s_rows_bad x sb⟩))))
  refine ⟨v2, d2, ?_⟩
  simp [lw17, eVar_ap, go_pk, slot1_ap, eCallIO_ap, callIO_ap, e1, e2, ex, ey, q1, ne_puz]
theorem t18 (hv : Dw v) : ∃ v' : Val, Dw v' ∧ lw18 (s :: some v :: R) = .nx (s :: some v' :: R) := by
  obtain ⟨k, v1, e1, d1, l1⟩ := dr hv (lim := 2) (by decide) (by decide)
  obtain ⟨i, v2, e2, d2, l2⟩ := dr d1 (lim := 4) (by decide) (by decide)
  obtain ⟨x, ex, hx⟩ := pick4 (.int 41) (.int (-1)) .non (.bl true) i (by omega)
  have lk := lookc_bad x (.int 1) (.inl ⟨rfl, hx⟩)
  have q1 : sem__law_asked [.int ((2 + k : Nat) : Int), x, .int 1, .int 1] = .ok ⟨.str "puzzle", 0⟩ := ask_bad (2 + k) _ _ _ (by
    have : k = 0 ∨ k = 1 := by omega
    rcases this with rfl | rfl
    · exact .inr (.inr (.inl ⟨rfl, both_bad _ _ _ lk⟩))
    · exact .inr (.inr (.inr (.inl ⟨rfl, cseen_bad _ _ lk⟩))))
  have e2k : (2 : Int) + (k : Int) = ((2 + k : Nat) : Int) := by omega
  refine ⟨v2, d2, ?_⟩
  generalize ((2 + k : Nat) : Int) = K at *
  simp [lw18, eVar_ap, go_pk, slot1_ap, eCallIO_ap, callIO_ap, e1, e2, ex, e2k, q1, ne_puz]
theorem t19 (hv : Dw v) (n : Nat) (h1 : 1 ≤ n) (h6 : n ≤ 6) : ∃ v' : Val, Dw v' ∧ lw19 (s :: some v :: t :: some ⟨.int (n : Int), 0⟩ :: R) = .nx (s :: some v' :: t :: some ⟨.int (n : Int), 0⟩ :: R) := by
  obtain ⟨k, v1, e1, d1, l1⟩ := dr hv (lim := 2) (by decide) (by decide)
  obtain ⟨i, v2, e2, d2, l2⟩ := dr d1 (lim := 3) (by decide) (by decide)
  obtain ⟨x, ex, hx⟩ := pick3 (.int (-1)) .non (.bl true) i (by omega)
  have lk := lookc_bad (.int 5) x (.inr ⟨rfl, hx⟩)
  have q1 : sem__law_asked [.int ((2 + k : Nat) : Int), .int 5, x, .int 1] = .ok ⟨.str "puzzle", 0⟩ := ask_bad (2 + k) _ _ _ (by
    have : k = 0 ∨ k = 1 := by omega
    rcases this with rfl | rfl
    · exact .inr (.inr (.inl ⟨rfl, both_bad _ _ _ lk⟩))
    · exact .inr (.inr (.inr (.inl ⟨rfl, cseen_bad _ _ lk⟩))))
  have q2 : sem__law_asked [.int 1, .int (n : Int), .int 0, .int 0] = .ok ⟨.str "puzzle", 0⟩ := ask_bad 1 _ _ _ (.inr (.inl ⟨rfl, bounds_bad3 (n : Int) (by omega)⟩))
  have e2k : (2 : Int) + (k : Int) = ((2 + k : Nat) : Int) := by omega
  refine ⟨v2, d2, ?_⟩
  generalize ((2 + k : Nat) : Int) = K at *
  simp [lw19, eVar_ap, go_pk, slot1_ap, eCallIO_ap, callIO_ap, e1, e2, ex, e2k, q1, q2, ne_puz]
end
def env0 (s : Option Val) (v : Val) : PL.Env := [s, some v, none, none, none, none, none, none, none, none, none, none, none, none, none, none, none, none, none]
theorem turn_ok (s : Option Val) (v : Val) (hv : Dw v) (k : Int) : ∃ v' : Val, Dw v' ∧ fo1 (.n 2) lwTurn [2, 3, 4, 5, 6, 7, 8, 9, 10, 11, 12, 13, 14, 15, 16, 17] (.int k) (env0 s v) = .nx (env0 s v') := by
  obtain ⟨n, v1, h1, h6, hv1, e1⟩ := t1 (s := s) (t := some ⟨.int k, 0⟩) (a3 := none) (R := [none, none, none, none, none, none, none, none, none, none, none, none, none, none, none]) hv
  have e2 := t2 (s := s) (v := v1) (t := some ⟨.int k, 0⟩) (a4 := none) (R := [none, none, none, none, none, none, none, none, none, none, none, none, none, none]) n h6
  obtain ⟨f, l, v3, hf, hl, hv3, e3⟩ := t3 (s := s) (t := some ⟨.int k, 0⟩) (a4 := some ⟨.lst ((rowsZ n n).map rowD), 0⟩) (a5 := none) (a6 := none) (R := [none, none, none, none, none, none, none, none, none, none, none, none]) hv1 n h6
  have e4 := t4 (s := s) (v := v3) (t := some ⟨.int k, 0⟩) (a7 := none) (a8 := none) (a9 := none) (R := [none, none, none, none, none, none, none, none, none]) n h6 (f : Int) (l : Int) rfl
  have e5 := t5 (s := s) (v := v3) (t := some ⟨.int k, 0⟩) (R := [none, none, none, none, none, none, none, none, none, none]) n h1 h6 f l hf hl
  obtain ⟨r, v6, hr, hv6, e6⟩ := t6 (s := s) (t := some ⟨.int k, 0⟩) (a3 := some ⟨.int (n : Int), 0⟩) (a5 := some ⟨.int (f : Int), 0⟩) (a6 := some ⟨.int (l : Int), 0⟩) (a7 := some ⟨.tup (((rowsZ n n).filter (pick f l (seenL 0 0))).map rowD), 0⟩) (a8 := none) (a9 := none) (R := [none, none, none, none, none, none, none, none, none]) hv3 n h1 h6
  have e7 := t7 (s := s) (v := v6) (t := some ⟨.int k, 0⟩) (a3 := some ⟨.int (n : Int), 0⟩) (a4 := some ⟨.lst ((rowsZ n n).map rowD), 0⟩) (a5 := some ⟨.int (f : Int), 0⟩) (a6 := some ⟨.int (l : Int), 0⟩) (a7 := some ⟨.tup (((rowsZ n n).filter (pick f l (seenL 0 0))).map rowD), 0⟩) (a8 := none) (R := [none, none, none, none, none, none, none, none, none]) n h6 r hr
  obtain ⟨x, y, v8, hx, hy, hv8, e8⟩ := t8 (s := s) (t := some ⟨.int k, 0⟩) (a4 := some ⟨.lst ((rowsZ n n).map rowD), 0⟩) (a5 := some ⟨.int (f : Int), 0⟩) (a6 := some ⟨.int (l : Int), 0⟩) (a7 := some ⟨.tup (((rowsZ n n).filter (pick f l (seenL 0 0))).map rowD), 0⟩) (a8 := none) (a9 := some ⟨rowD r, 0⟩) (a10 := none) (a11 := none) (R := [none, none, none, none, none, none, none]) hv6 n h6
  have e9 := t9 (s := s) (v := v8) (t := some ⟨.int k, 0⟩) (a3 := some ⟨.int (n : Int), 0⟩) (a5 := some ⟨.int (f : Int), 0⟩) (a6 := some ⟨.int (l : Int), 0⟩) (a7 := some ⟨.tup (((rowsZ n n).filter (pick f l (seenL 0 0))).map rowD), 0⟩) (a8 := none) (a12 := none) (R := [none, none, none, none, none, none]) n h6 r (x : Int) (y : Int)
  have e10 := t10 (s := s) (v := v8) (t := some ⟨.int k, 0⟩) (a5 := some ⟨.int (f : Int), 0⟩) (a6 := some ⟨.int (l : Int), 0⟩) (a7 := some ⟨.tup (((rowsZ n n).filter (pick f l (seenL 0 0))).map rowD), 0⟩) (a8 := none) (R := [none, none, none, none, none, none]) n h1 h6 r x y hx hy
  obtain ⟨v11, p, hv11, e11⟩ := t11 (s := s) (t := some ⟨.int k, 0⟩) (a6 := some ⟨.int (l : Int), 0⟩) (a7 := some ⟨.tup (((rowsZ n n).filter (pick f l (seenL 0 0))).map rowD), 0⟩) (a8 := none) (a10 := some ⟨.int (x : Int), 0⟩) (a11 := some ⟨.int (y : Int), 0⟩) (a12 := some ⟨.int (cnt (rowsZ n n) fun r => seenL 0 0 r == (x : Int) && seenL 0 0 r.reverse == (y : Int)), 0⟩) (a13 := none) (R := [none, none, none, none, none]) hv8 n h1 h6 r f hf
  obtain ⟨w, v12, hw, hv12, e12⟩ := t12 (s := s) (t := some ⟨.int k, 0⟩) (a3 := some ⟨.int (n : Int), 0⟩) (a4 := some ⟨.lst ((rowsZ n n).map rowD), 0⟩) (a5 := some ⟨.int (f : Int), 0⟩) (a6 := some ⟨.int (l : Int), 0⟩) (a7 := some ⟨.tup (((rowsZ n n).filter (pick f l (seenL 0 0))).map rowD), 0⟩) (a8 := none) (a9 := some ⟨rowD r, 0⟩) (a10 := some ⟨.int (x : Int), 0⟩) (a11 := some ⟨.int (y : Int), 0⟩) (a12 := some ⟨.int (cnt (rowsZ n n) fun r => seenL 0 0 r == (x : Int) && seenL 0 0 r.reverse == (y : Int)), 0⟩) (a13 := p) (a14 := none) (R := [none, none, none, none]) hv11
  have e13 := t13 (s := s) (v := v12) (t := some ⟨.int k, 0⟩) (a3 := some ⟨.int (n : Int), 0⟩) (a4 := some ⟨.lst ((rowsZ n n).map rowD), 0⟩) (a5 := some ⟨.int (f : Int), 0⟩) (a6 := some ⟨.int (l : Int), 0⟩) (a7 := some ⟨.tup (((rowsZ n n).filter (pick f l (seenL 0 0))).map rowD), 0⟩) (a8 := none) (a9 := some ⟨rowD r, 0⟩) (a10 := some ⟨.int (x : Int), 0⟩) (a11 := some ⟨.int (y : Int), 0⟩) (a12 := some ⟨.int (cnt (rowsZ n n) fun r => seenL 0 0 r == (x : Int) && seenL 0 0 r.reverse == (y : Int)), 0⟩) (a13 := p) (a15 := none) (R := [none, none, none]) w hw
  have e14 := t14 (s := s) (v := v12) (t := some ⟨.int k, 0⟩) (a3 := some ⟨.int (n : Int), 0⟩) (a4 := some ⟨.lst ((rowsZ n n).map rowD), 0⟩) (a5 := some ⟨.int (f : Int), 0⟩) (a6 := some ⟨.int (l : Int), 0⟩) (a7 := some ⟨.tup (((rowsZ n n).filter (pick f l (seenL 0 0))).map rowD), 0⟩) (a8 := none) (a9 := some ⟨rowD r, 0⟩) (a10 := some ⟨.int (x : Int), 0⟩) (a11 := some ⟨.int (y : Int), 0⟩) (a12 := some ⟨.int (cnt (rowsZ n n) fun r => seenL 0 0 r == (x : Int) && seenL 0 0 r.reverse == (y : Int)), 0⟩) (a13 := p) (R := [none, none]) w hw
  obtain ⟨v15, p1, p2, hv15, e15⟩ := t15 (s := s) (t := some ⟨.int k, 0⟩) (a3 := some ⟨.int (n : Int), 0⟩) (a4 := some ⟨.lst ((rowsZ n n).map rowD), 0⟩) (a5 := some ⟨.int (f : Int), 0⟩) (a6 := some ⟨.int (l : Int), 0⟩) (a7 := some ⟨.tup (((rowsZ n n).filter (pick f l (seenL 0 0))).map rowD), 0⟩) (a8 := none) (a9 := some ⟨rowD r, 0⟩) (a10 := some ⟨.int (x : Int), 0⟩) (a11 := some ⟨.int (y : Int), 0⟩) (a12 := some ⟨.int (cnt (rowsZ n n) fun r => seenL 0 0 r == (x : Int) && seenL 0 0 r.reverse == (y : Int)), 0⟩) (a13 := p) (a16 := none) (a17 := none) (R := []) hv12 w hw
  obtain ⟨v16, hv16, e16⟩ := t16 (s := s) (t := some ⟨.int k, 0⟩) (R := [some ⟨.lst ((rowsZ n n).map rowD), 0⟩, some ⟨.int (f : Int), 0⟩, some ⟨.int (l : Int), 0⟩, some ⟨.tup (((rowsZ n n).filter (pick f l (seenL 0 0))).map rowD), 0⟩, none, some ⟨rowD r, 0⟩, some ⟨.int (x : Int), 0⟩, some ⟨.int (y : Int), 0⟩, some ⟨.int (cnt (rowsZ n n) fun r => seenL 0 0 r == (x : Int) && seenL 0 0 r.reverse == (y : Int)), 0⟩, p, some ⟨.int (w : Int), 0⟩, some ⟨intsD (stir w), 0⟩, p1, p2, none]) hv15 n h1 h6
  obtain ⟨v17, hv17, e17⟩ := t17 (s := s) (R := some ⟨.int k, 0⟩ :: some ⟨.int (n : Int), 0⟩ :: [some ⟨.lst ((rowsZ n n).map rowD), 0⟩, some ⟨.int (f : Int), 0⟩, some ⟨.int (l : Int), 0⟩, some ⟨.tup (((rowsZ n n).filter (pick f l (seenL 0 0))).map rowD), 0⟩, none, some ⟨rowD r, 0⟩, some ⟨.int (x : Int), 0⟩, some ⟨.int (y : Int), 0⟩, some ⟨.int (cnt (rowsZ n n) fun r => seenL 0 0 r == (x : Int) && seenL 0 0 r.reverse == (y : Int)), 0⟩, p, some ⟨.int (w : Int), 0⟩, some ⟨intsD (stir w), 0⟩, p1, p2, none]) hv16
  obtain ⟨v18, hv18, e18⟩ := t18 (s := s) (R := some ⟨.int k, 0⟩ :: some ⟨.int (n : Int), 0⟩ :: [some ⟨.lst ((rowsZ n n).map rowD), 0⟩, some ⟨.int (f : Int), 0⟩, some ⟨.int (l : Int), 0⟩, some ⟨.tup (((rowsZ n n).filter (pick f l (seenL 0 0))).map rowD), 0⟩, none, some ⟨rowD r, 0⟩, some ⟨.int (x : Int), 0⟩, some ⟨.int (y : Int), 0⟩, some ⟨.int (cnt (rowsZ n n) fun r => seenL 0 0 r == (x : Int) && seenL 0 0 r.reverse == (y : Int)), 0⟩, p, some ⟨.int (w : Int), 0⟩, some ⟨intsD (stir w), 0⟩, p1, p2, none]) hv17
  obtain ⟨v19, hv19, e19⟩ := t19 (s := s) (t := some ⟨.int k, 0⟩) (R := [some ⟨.lst ((rowsZ n n).map rowD), 0⟩, some ⟨.int (f : Int), 0⟩, some ⟨.int (l : Int), 0⟩, some ⟨.tup (((rowsZ n n).filter (pick f l (seenL 0 0))).map rowD), 0⟩, none, some ⟨rowD r, 0⟩, some ⟨.int (x : Int), 0⟩, some ⟨.int (y : Int), 0⟩, some ⟨.int (cnt (rowsZ n n) fun r => seenL 0 0 r == (x : Int) && seenL 0 0 r.reverse == (y : Int)), 0⟩, p, some ⟨.int (w : Int), 0⟩, some ⟨intsD (stir w), 0⟩, p1, p2, none]) hv18 n h1 h6
  refine ⟨v19, hv19, ?_⟩
  rw [fo1_ap, asg_n, atO_some, env0]
  simp only [List.set_cons_succ, List.set_cons_zero]
  rw [lwTurn, seq_ap, e1, bindS_nx, seq_ap, e2, bindS_nx, seq_ap, e3, bindS_nx, seq_ap, e4, bindS_nx, seq_ap, e5, bindS_nx, seq_ap, e6, bindS_nx, seq_ap, e7, bindS_nx, seq_ap, e8, bindS_nx, seq_ap, e9, bindS_nx, seq_ap, e10, bindS_nx, seq_ap, e11, bindS_nx, seq_ap, e12, bindS_nx, seq_ap, e13, bindS_nx, seq_ap, e14, bindS_nx,
    seq_ap, e15, bindS_nx, seq_ap, e16, bindS_nx, seq_ap, e17, bindS_nx, seq_ap, e18, bindS_nx, e19, endO_nx]
  rfl
theorem law_split : body_law = seq (sSet 1 true (eCall sem__law_draws [eVar 0])) (seq (sFor (iR1 (eC (.int 3))) (.n 2) lwTurn [2, 3, 4, 5, 6, 7, 8, 9, 10, 11, 12, 13, 14, 15, 16, 17]) (sRet (eCall (sem__law_same 8) [eLst [eCall sem_count_both [eC (.int 0), eC (.int 0), eC (.int 0)], eCall sem_count_both [eC (.int 3), eC (.int 0), eC (.int 1)], eCall sem_seen [eTup []]], eLst [eC (.int 1), eC (.int 0), eC (.int 0)]]))) := rfl
theorem math (ns : List Int) (_ : ns.length ≤ 63) : ∃ o, sem_law [.src ns] = .ok ⟨.bl true, o⟩ := by
  obtain ⟨v, ev, hv⟩ := draws_ok (ns := ns)
  have ev : sem__law_draws [.src ns] = .ok v := ev
  have turns : ∀ (m : Nat) (l : List D), l.length = m → (∀ d ∈ l, ∃ i : Int, d = .int i) → ∀ v, Dw v → ∃ v', Dw v' ∧ forL (.n 2) lwTurn [2, 3, 4, 5, 6, 7, 8, 9, 10, 11, 12, 13, 14, 15, 16, 17] l (env0 (some ⟨.src ns, 0⟩) v) = .nx (env0 (some ⟨.src ns, 0⟩) v') := by
    intro m l
    induction l generalizing m with
    | nil => intro _ _ v hv; exact ⟨v, hv, rfl⟩
    | cons d l ih =>
      intro hm hd v hv
      obtain ⟨i, rfl⟩ := hd d List.mem_cons_self
      obtain ⟨v1, hv1, e1⟩ := turn_ok (some ⟨.src ns, 0⟩) v hv i
      obtain ⟨v2, hv2, e2⟩ := ih l.length rfl (fun d h => hd d (List.mem_cons_of_mem _ h)) v1 hv1
      exact ⟨v2, hv2, by rw [forL_nx e1, e2]⟩
  obtain ⟨v', hv', eL⟩ := turns _ (rngD 0 3) rfl (fun d h => let ⟨i, _, e⟩ := rngD_mem h; ⟨i, e⟩) v hv
  refine ⟨0, ?_⟩
  show fnS 19 1 body_law [.src ns] = _
  have b1 : sem_count_both [.int 0, .int 0, .int 0] = .ok ⟨.int 1, 0⟩ := s_both 0 0 0 (by decide) (by decide) (by decide)
  have b2 : sem_count_both [.int 3, .int 0, .int 1] = .ok ⟨.int 0, 0⟩ := s_both 3 0 1 (by decide) (by decide) (by decide)
  have b3 : sem_seen [.tup []] = .ok ⟨.int 0, 0⟩ := s_seen []
  have sa : sem__law_same 8 [.lst [.int 1, .int 0, .int 0], .lst [.int 1, .int 0, .int 0]] = .ok ⟨.bl true, 0⟩ := same8 _ rfl
  have r1 := rng1_ap (g := env0 (some ⟨.src ns, 0⟩) v) (m := 3) (by decide)
  rw [fnS1, law_split, seq_ap, sSet_ap, eCall_ap, goE_cons, eVar_ap (d := .src ns) rfl, bindO_ok, goE_nil, ev, ofF_ok, bindE_ok, keepV_t, bindS_nx]
  show fnO (seq (sFor (iR1 (eC (.int 3))) (.n 2) lwTurn [2, 3, 4, 5, 6, 7, 8, 9, 10, 11, 12, 13, 14, 15, 16, 17]) _ (env0 (some ⟨.src ns, 0⟩) v)) = _
  rw [seq_ap, sFor_ap, iR1_ap, eC_ap, iOf_ok, show (3 : Int) = ((3 : Nat) : Int) from rfl, r1, bindIS_ok]
  show fnO (bindS (forL (.n 2) lwTurn [2, 3, 4, 5, 6, 7, 8, 9, 10, 11, 12, 13, 14, 15, 16, 17] (rngD 0 3) (env0 (some ⟨.src ns, 0⟩) v)) _) = _
  rw [eL, bindS_nx]
  simp [env0, b1, b2, b3, sa]
end Law

namespace Law
open PySem PySem.Spec PySem.Calls L2 PL
abbrev R : PySem.W.OpenRow := PySem.W.OpenLaw.row PySem.Challenge.rw_pencilrows_k19_whole_heights_that_are_se
abbrev hk : PySem.W.Hook := hookP 4 ck fn
def ob (s : PySem.W.SharedT) : He.AlD := obsPG 4 ck fn (HandSHeadRun.getT s)
theorem ob_eq (s : PySem.W.SharedT) : ob s = hk.obs s.abs := obsPG_eq (HandSHeadRun.getT_eq s)
def loose : List Str := ["PencilError", "BadPuzzle", "is_whole", "MOST_SIZE", "is_size", "seen", "all_rows", "rows_seen", "look_at_seen", "look_at_count", "count_seen", "choose", "count_both", "bounds_for", "_law_draws", "_law_draw", "_law_same", "_law_rows", "_law_seen", "_law_asked", "_law_counts"]
theorem run (w : World) : HandSHeadRun.RunEq R (PySem.W.view R.prog [25]) hk ob 3000 loose w := by
  intro os
  kernel_rfl
theorem facts {P : Program} {w : World} {K : PySem.W.Frag} {h : Heap} {mg : Str → Option Value} {f : Addr} (KX : K.In h) (G : h.Ns mainGlobals mg) (hfa : mg ("law" : Str) = some (.ref f)) (c : SaysP ck fn K) :
    ∃ fd : FuncData, (∀ (s : Shared) (v : Value), BindsTo s fd ⟨[v], []⟩ [("script", v)]) ∧ ∀ base : Heap, K.In base → base.Ns mainGlobals mg → FnOk P w K mg base (L2.CX P w) 10 f fd ["script"] (spF ⟨K, w, fns K⟩ (cls K) 1 sem_law) := by
  obtain ⟨fd, F⟩ := c.def_ 18 (d := d_law) rfl
  have e := hfa.symm.trans (He.glo_ok KX G (factsB_fact (ckF c) 33 (f := .glo "law") rfl))
  cases e
  have b := FunD.bindsA (ps := ["script"]) F fun _ _ _ _ _ _ us hl => match us, hl with | [_], _ => rfl
  exact ⟨fd, fun s v => b s [v] rfl, fun base _ _ => okf_law KX G c F⟩
end Law
open PySem PySem.W PySem.Calls PyProof.Rows
theorem PySem.Challenge.cw_pencilrows_k19_whole_heights_that_are_se_holds : PySem.Challenge.rw_pencilrows_k19_whole_heights_that_are_se.Holds := by
  w_on; o_law
  refine HandSHeadRun.head_any (r := OpenLaw.row PySem.Challenge.rw_pencilrows_k19_whole_heights_that_are_se) (q := view (OpenLaw.row PySem.Challenge.rw_pencilrows_k19_whole_heights_that_are_se).prog [25]) (H := Law.hk) (ob := Law.ob) (M := 3000) (loose := Law.loose) (d := HandSHeadRun.topDef (OpenLaw.row PySem.Challenge.rw_pencilrows_k19_whole_heights_that_are_se).prog 25) (kwd := []) Law.ob_eq
    (by kernel_rfl) (fun s => by kernel_rfl) Law.run (by kernel_rfl) (by kernel_rfl) (by kernel_rfl) (by rfl) (by first | assumption | decide +kernel) (by decide +kernel) ⟨rfl, rfl, rfl, rfl, rfl, by decide +kernel⟩ ?hw ?hc
  case hw => w_witness2
  case hc =>
    refine PL.walk_w (row := PySem.Challenge.rw_pencilrows_k19_whole_heights_that_are_se) (most := 63) (lvl := 10) (par := "script") rfl (by decide) (by kernel_rfl) ⟨rfl, by decide, by decide⟩ ?_
    intro w mg fa h Y G hmg0
    obtain ⟨K, KX, c⟩ := Y
    have hmg : mg ("law" : PySem.Str) = some (.ref fa) := by
      have e : (HandSHeadRun.topDef (OpenLaw.row PySem.Challenge.rw_pencilrows_k19_whole_heights_that_are_se).prog 25).name = ("law" : PySem.Str) := by kernel_rfl
      rw [← e]
      exact hmg0
    obtain ⟨fd, hb, hF⟩ := Law.facts (P := PySem.Challenge.rw_pencilrows_k19_whole_heights_that_are_se.prog) (w := w) KX G hmg c
    exact ⟨K, fd, _, KX, hb, fun H a ns hl hO hS => PL.sp_law Law.math H a ns hl hO hS, hF⟩

