import PyProof.Rows.All
import Wide.All
import OpenK.AllK
import Wide.FinOn
import KE.KStateDown
import Lean
import HandS.ForMost
import HandS.More
import HandS.Exc
import HandS.ExcOwn
import HandS.ExcCtx
import HandS.WordsExc
import HandS.Defaults
import HandS.IsInst
import HandS.TupAny
import HandS.TupMul
import HandS.SetFor
import HandS.HeadHook2
import HandS.ExcInitHot
import HandS.Hot
import HandS.RaiseFrom
import HandS.SuiteRaise
import HandS.ExcIs
import HandS.ExcField
import HandS.ExcValue
import HandS.ClsMeth
import KE.KExcIs
import KE.KAsSuite
import HandS.Strs
import HandS.Base
import HandS.Call
import HandS.Ends
import HandS.Words
import HandS.Head0
import HandS.Head1
import HandS.Head2
import HandS.HeadEnd
import HandS.HeadHook1
import PySem.Challenge.RW_tally_k90_whole_books_read_plainly
set_option Elab.async false
set_option linter.all false
set_option maxRecDepth 100000
set_option maxHeartbeats 4000000
/-! A layer of data over the hand layer: a tuple is its items, a list or an object is known by a partial memory. -/
namespace Tal
open PySem PySem.Spec PyProof.Rows L2

abbrev St := L2.St
/-! ### data, memory -/
inductive D where
  | non | bl (b : Bool) | int (i : Int) | str (x : Str) | tup (ds : List D) | ref (a : Addr) | ty (n : String)
inductive MO where
  | lst (ds : List D) | tape | tp (s : Addr) (ns : List Int) (i j k : Int) | ins (C dx : Addr) (fs : List (Str × D)) | exc (C : Addr) (n : Option Int)
abbrev Mp := Addr → Option MO
def mup (M : Mp) (a : Addr) (o : MO) : Mp := fun b => if b = a then some o else M b
theorem mup_same {M : Mp} {a : Addr} {o : MO} : mup M a o a = some o := if_pos rfl
theorem mup_ne {M : Mp} {a b : Addr} {o : MO} (h : b ≠ a) : mup M a o b = M b := if_neg h
theorem mup_new {M : Mp} {a b : Addr} {o u : MO} (h : M b = some u) (n : M a = none) : mup M a o b = some u := by
  rw [mup_ne (fun e => by rw [e, n] at h; cases h)]; exact h
theorem mup_mup {M : Mp} {a : Addr} {o u : MO} : mup (mup M a o) a u = mup M a u := by
  funext b; unfold mup; split <;> rfl
theorem mup_self {M : Mp} {a : Addr} {o : MO} (h : M a = some o) : mup M a o = M := by
  funext b; unfold mup; split
  · rename_i e; rw [e, h]
  · rfl
/-- what is known in M is known in M' -/
def Le (M M' : Mp) : Prop := ∀ a o, M a = some o → M' a = some o
theorem Le.refl (M : Mp) : Le M M := fun _ _ h => h
theorem Le.trans {A B C : Mp} (h : Le A B) (k : Le B C) : Le A C := fun a o e => k a o (h a o e)
theorem Le.new {M : Mp} {a : Addr} {o : MO} (n : M a = none) : Le M (mup M a o) := fun _ _ h => mup_new h n
/-- an exception as data: its class, its number -/
structure Exn where
  cls : Addr
  num : Option Int
abbrev DQ := D → Mp → Prop
abbrev Dst := List (Option D)
/-- what is wanted of an exception; the truth: whether it was raised while another one was handled -/
abbrev XQ := Exn → Bool → Dst → Mp → Prop

/-! ### how data stands in the heap -/
mutual
inductive Rep (K : PySem.W.Frag) (H : Hp) : V → D → Prop
  | non : Rep K H .non .non
  | bl (b : Bool) : Rep K H (.bl b) (.bl b)
  | int (i : Int) : Rep K H (.int i) (.int i)
  | str (x : Str) : Rep K H (.str x) (.str x)
  | tup {a : Addr} {xs : List V} {ds : List D} : SqT K H a xs → Reps K H xs ds → Rep K H (.ref a) (.tup ds)
  | ref (a : Addr) : Rep K H (.ref a) (.ref a)
  | ty (n : String) : Rep K H (.ty n) (.ty n)
inductive Reps (K : PySem.W.Frag) (H : Hp) : List V → List D → Prop
  | nil : Reps K H [] []
  | cons {v : V} {d : D} {vs : List V} {ds : List D} : Rep K H v d → Reps K H vs ds → Reps K H (v :: vs) (d :: ds)
end
/-- tuples and what is frozen stay -/
structure Keep (H H' : Hp) : Prop where
  tups : ∀ a xs, H a = some (.tup xs) → H' a = some (.tup xs)
  frzs : ∀ a o u, H a = some (.frz o u) → H' a = some (.frz o u)
theorem Keep.refl (H : Hp) : Keep H H := ⟨fun _ _ h => h, fun _ _ _ h => h⟩
theorem Keep.trans {A B C : Hp} (h : Keep A B) (k : Keep B C) : Keep A C := ⟨fun a x e => k.tups a x (h.tups a x e), fun a o x e => k.frzs a o x (h.frzs a o x e)⟩
theorem Keep.new {H : Hp} {a : Addr} {o : HO} (n : H a = none) : Keep H (upd H a o) := ⟨fun b x e => by rw [upd_ne (ne_of_none e n)]; exact e, fun b u x e => by rw [upd_ne (ne_of_none e n)]; exact e⟩
theorem Keep.set {H : Hp} {a : Addr} {o u : HO} (h : H a = some u) (m : Mut (some u)) : Keep H (upd H a o) := by
  have ne : ∀ b v, H b = some v → ¬ Mut (some v) → b ≠ a := fun b v e n z => by
    rw [z, h] at e; cases e; exact n m
  exact ⟨fun b x e => by rw [upd_ne (ne b _ e (fun z => z))]; exact e, fun b u x e => by rw [upd_ne (ne b _ e (fun z => z))]; exact e⟩
theorem Keep.same {H H' : Hp} (s : Same H H') : Keep H H' := ⟨fun a x e => s a _ e, fun a o x e => s a _ e⟩
theorem Keep.sqT {K : PySem.W.Frag} {H H' : Hp} {a : Addr} {xs : List V} (k : Keep H H') (h : SqT K H a xs) : SqT K H' a xs := by
  rcases h with (h | ⟨o, h⟩) | h
  · exact .inl (.inl (k.tups _ _ h))
  · exact .inl (.inr ⟨o, k.frzs _ _ _ h⟩)
  · exact .inr h
mutual
theorem Rep.keep {K : PySem.W.Frag} {H H' : Hp} (k : Keep H H') : ∀ {v : V} {d : D}, Rep K H v d → Rep K H' v d
  | _, _, .non => .non
  | _, _, .bl b => .bl b
  | _, _, .int i => .int i
  | _, _, .str x => .str x
  | _, _, .tup s r => .tup (k.sqT s) (Reps.keep k r)
  | _, _, .ref a => .ref a
  | _, _, .ty n => .ty n
theorem Reps.keep {K : PySem.W.Frag} {H H' : Hp} (k : Keep H H') : ∀ {vs : List V} {ds : List D}, Reps K H vs ds → Reps K H' vs ds
  | _, _, .nil => .nil
  | _, _, .cons r t => .cons (Rep.keep k r) (Reps.keep k t)
end
section
variable {K : PySem.W.Frag} {H : Hp}
theorem Reps.length : ∀ {vs : List V} {ds : List D}, Reps K H vs ds → vs.length = ds.length
  | _, _, .nil => rfl
  | _, _, .cons _ t => congrArg (· + 1) t.length
theorem Reps.get : ∀ {vs : List V} {ds : List D} {i : Nat} {d : D}, Reps K H vs ds → ds[i]? = some d → ∃ v, vs[i]? = some v ∧ Rep K H v d
  | _, _, _, _, .nil, h => by simp at h
  | _, _, 0, _, .cons r _, h => by simp at h; subst h; exact ⟨_, rfl, r⟩
  | _, _, i + 1, _, .cons _ t, h => by
    obtain ⟨v, e, r⟩ := Reps.get (i := i) t (by simpa using h)
    exact ⟨v, by simpa using e, r⟩
theorem Reps.get' : ∀ {vs : List V} {ds : List D} {i : Nat} {v : V}, Reps K H vs ds → vs[i]? = some v → ∃ d, ds[i]? = some d ∧ Rep K H v d
  | _, _, _, _, .nil, h => by simp at h
  | _, _, 0, _, .cons r _, h => by simp at h; subst h; exact ⟨_, rfl, r⟩
  | _, _, i + 1, _, .cons _ t, h => by
    obtain ⟨d, e, r⟩ := Reps.get' (i := i) t (by simpa using h)
    exact ⟨d, by simpa using e, r⟩
theorem Reps.append : ∀ {vs us : List V} {ds es : List D}, Reps K H vs ds → Reps K H us es → Reps K H (vs ++ us) (ds ++ es)
  | _, _, _, _, .nil, h => h
  | _, _, _, _, .cons r t, h => .cons r (t.append h)
theorem Reps.set : ∀ {vs : List V} {ds : List D} {v : V} {d : D} (i : Nat), Reps K H vs ds → Rep K H v d → Reps K H (vs.set i v) (ds.set i d)
  | _, _, _, _, _, .nil, _ => .nil
  | _, _, _, _, 0, .cons _ t, r => .cons r t
  | _, _, _, _, i + 1, .cons q t, r => .cons q (t.set i r)
theorem Reps.take : ∀ {vs : List V} {ds : List D} (n : Nat), Reps K H vs ds → Reps K H (vs.take n) (ds.take n)
  | _, _, 0, _ => .nil
  | _, _, n + 1, .nil => .nil
  | _, _, n + 1, .cons r t => .cons r (t.take n)
theorem Reps.drop : ∀ {vs : List V} {ds : List D} (n : Nat), Reps K H vs ds → Reps K H (vs.drop n) (ds.drop n)
  | _, _, 0, h => h
  | _, _, n + 1, .nil => .nil
  | _, _, n + 1, .cons _ t => t.drop n
theorem Reps.nil_iff {vs : List V} {ds : List D} (r : Reps K H vs ds) : vs = [] ↔ ds = [] := by
  cases r <;> simp
theorem Reps.dropLast {vs : List V} {ds : List D} (r : Reps K H vs ds) : Reps K H vs.dropLast ds.dropLast := by
  rw [List.dropLast_eq_take, List.dropLast_eq_take, r.length]; exact r.take _
theorem Reps.replicate {v : V} {d : D} (r : Rep K H v d) : ∀ n : Nat, Reps K H (List.replicate n v) (List.replicate n d)
  | 0 => .nil
  | n + 1 => .cons r (Reps.replicate r n)
theorem Reps.ints : ∀ {vs : List V} {ns : List Int}, Reps K H vs (ns.map D.int) → vs = ns.map V.int
  | _, [], .nil => rfl
  | _, n :: ns, .cons (.int _) t => by rw [List.map_cons, Reps.ints t]
theorem Reps.bls : ∀ {vs : List V} {ns : List Bool}, Reps K H vs (ns.map D.bl) → vs = ns.map V.bl
  | _, [], .nil => rfl
  | _, n :: ns, .cons (.bl _) t => by rw [List.map_cons, Reps.bls t]
theorem Reps.strs : ∀ {vs : List V} {ns : List Str}, Reps K H vs (ns.map D.str) → vs = ns.map V.str
  | _, [], .nil => rfl
  | _, n :: ns, .cons (.str _) t => by rw [List.map_cons, Reps.strs t]
end

/-! ### memory stands in the heap -/
/-- the script, for good -/
def Scr (K : PySem.W.Frag) (H : Hp) (s : Addr) (ns : List Int) : Prop :=
  (∃ o, H s = some (.frz o (.lst (ns.map V.int)))) ∨
    ∃ (o : Obj) (its : Array Value) (n : Nat), K.lookup s = some o ∧ o.cls = .type "list" ∧ o.dict = none ∧ o.data = .seq its n ∧ its.size ≤ sizeLine ∧ Vals (ns.map V.int) its.toList
theorem Scr.sq {K : PySem.W.Frag} {H : Hp} {s : Addr} {ns : List Int} (h : Scr K H s ns) : SqL K H s (ns.map V.int) := by
  rcases h with ⟨o, h⟩ | h
  · exact .inl (.inr ⟨o, h⟩)
  · exact .inr h
theorem Scr.keep {K : PySem.W.Frag} {H H' : Hp} {s : Addr} {ns : List Int} (k : Keep H H') (h : Scr K H s ns) : Scr K H' s ns := by
  rcases h with ⟨o, h⟩ | h
  · exact .inl ⟨o, k.frzs _ _ _ h⟩
  · exact .inr h
/-- a caught exception that is kept as a value -/
def ExT (cls : Value) (d : Option Addr) (a : Addr) : HO := .ext fun h => ∃ (oe : Obj) (vs : Array Value), h.get? a = some oe ∧ Zc cls d oe ∧ oe.data = .fields vs
def RepO (K : PySem.W.Frag) (H : Hp) (a : Addr) : MO → Prop
  | .lst ds => ∃ xs, H a = some (.lst xs) ∧ Reps K H xs ds
  | .tape => ∃ (s : Addr) (ns : List Int) (i j k : Int), H a = some (.lst [.ref s, .int i, .int j, .int k]) ∧ Scr K H s ns ∧ ns.length ≤ 63 ∧ 0 ≤ i
  | .tp s ns i j k => H a = some (.lst [.ref s, .int i, .int j, .int k]) ∧ Scr K H s ns ∧ ns.length ≤ 63 ∧ 0 ≤ i
  | .ins C dx fs => ∃ gs : List (Str × V), H a = some (.ins C dx gs) ∧ gs.map (·.1) = fs.map (·.1) ∧ Reps K H (gs.map (·.2)) (fs.map (·.2))
  | .exc C n => ∃ d : Option Addr, H a = some (ExT (.ref C) d a) ∧ (n = none → d = none) ∧ ∀ i, n = some i → ∃ dd, d = some dd ∧ H dd = some (.xd [("at", .int i)])
def RepM (K : PySem.W.Frag) (H : Hp) (M : Mp) : Prop := ∀ a o, M a = some o → RepO K H a o
theorem RepO.some {K : PySem.W.Frag} {H : Hp} {a : Addr} : ∀ {o : MO}, RepO K H a o → ∃ u, H a = some u
  | .lst _, ⟨_, h, _⟩ => ⟨_, h⟩
  | .tape, ⟨_, _, _, _, _, h, _⟩ => ⟨_, h⟩
  | .tp _ _ _ _ _, ⟨h, _⟩ => ⟨_, h⟩
  | .ins _ _ _, ⟨_, h, _⟩ => ⟨_, h⟩
  | .exc _ _, ⟨_, h, _⟩ => ⟨_, h⟩
/-- a thing that is not written stays as it is -/
theorem RepO.keep {K : PySem.W.Frag} {H H' : Hp} {a : Addr} (k : Keep H H') (x : ∀ b fs, H b = Option.some (.xd fs) → H' b = Option.some (.xd fs)) (e : ∀ u, H a = Option.some u → H' a = Option.some u) : ∀ {o : MO}, RepO K H a o → RepO K H' a o
  | .lst _, ⟨xs, h, r⟩ => ⟨xs, e _ h, r.keep k⟩
  | .tape, ⟨s, ns, i, j, kk, h, z, r⟩ => ⟨s, ns, i, j, kk, e _ h, z.keep k, r⟩
  | .tp _ _ _ _ _, ⟨h, z, r⟩ => ⟨e _ h, z.keep k, r⟩
  | .ins _ _ _, ⟨gs, h, n, r⟩ => ⟨gs, e _ h, n, r.keep k⟩
  | .exc _ _, ⟨d, h, n, r⟩ => ⟨d, e _ h, n, fun i q => by obtain ⟨dd, a, b⟩ := r i q; exact ⟨dd, a, x _ _ b⟩⟩
theorem RepM.le {K : PySem.W.Frag} {H : Hp} {M M' : Mp} (l : Le M M') (r : RepM K H M') : RepM K H M := fun a o h => r a o (l a o h)
theorem RepM.free {K : PySem.W.Frag} {H : Hp} {M : Mp} {a : Addr} (r : RepM K H M) (n : H a = none) : M a = none := by
  cases q : M a with
  | none => rfl
  | some o => obtain ⟨u, h⟩ := (r a o q).some; rw [n] at h; cases h
/-- a new object that is not known -/
theorem RepM.skip {K : PySem.W.Frag} {H : Hp} {M : Mp} {a : Addr} {u : HO} (r : RepM K H M) (n : H a = none) : RepM K (upd H a u) M := fun b o h =>
  (r b o h).keep (.new n) (fun c fs e => by rw [upd_ne (ne_of_none e n)]; exact e) fun v e => by rw [upd_ne (ne_of_none e n)]; exact e
/-- a new object that is known -/
theorem RepM.add {K : PySem.W.Frag} {H : Hp} {M : Mp} {a : Addr} {u : HO} {o : MO} (r : RepM K H M) (n : H a = none) (x : RepO K (upd H a u) a o) : RepM K (upd H a u) (mup M a o) := fun b v h => by
  by_cases e : b = a
  · rw [e, mup_same] at h; cases h; rw [e]; exact x
  · rw [mup_ne e] at h; exact r.skip n b v h
/-- a known object is written -/
theorem RepM.put {K : PySem.W.Frag} {H : Hp} {M : Mp} {a : Addr} {u u' : HO} {o : MO} (r : RepM K H M) (h : H a = some u) (m : Mut (some u)) (x : RepO K (upd H a u') a o) : RepM K (upd H a u') (mup M a o) := fun b v q => by
  by_cases e : b = a
  · rw [e, mup_same] at q; cases q; rw [e]; exact x
  · rw [mup_ne e] at q
    refine (r b v q).keep (.set h m) (fun c fs z => ?_) fun w z => by rw [upd_ne e]; exact z
    rw [upd_ne (fun y => by rw [y, h] at z; cases z; exact m)]; exact z

/-! ### slots -/
def RepS (K : PySem.W.Frag) (H : Hp) (σ : St) (δ : Dst) : Prop := σ.length = δ.length ∧ ∀ (i : Nat) (d : D), δ[i]? = some (some d) → ∃ v, σ[i]? = some (some v) ∧ Rep K H v d
theorem RepS.keep {K : PySem.W.Frag} {H H' : Hp} {σ : St} {δ : Dst} (k : Keep H H') (r : RepS K H σ δ) : RepS K H' σ δ := ⟨r.1, fun i d e => by
  obtain ⟨v, h, z⟩ := r.2 i d e; exact ⟨v, h, z.keep k⟩⟩
theorem RepS.set {K : PySem.W.Frag} {H : Hp} {σ : St} {δ : Dst} {v : V} {d : D} (i : Nat) (r : RepS K H σ δ) (x : Rep K H v d) : RepS K H (σ.set i (some v)) (δ.set i (some d)) := by
  refine ⟨by simpa using r.1, fun j e h => ?_⟩
  by_cases q : j = i
  · subst q
    have hj : j < δ.length := by
      by_cases hj : j < δ.length
      · exact hj
      · rw [List.getElem?_eq_none (by simpa using hj)] at h; cases h
    rw [List.getElem?_set_self hj] at h; cases h
    exact ⟨v, List.getElem?_set_self (by rw [r.1]; exact hj), x⟩
  · rw [List.getElem?_set_ne (Ne.symm q)] at h ⊢
    exact r.2 j e h
theorem RepS.wipe1 {K : PySem.W.Frag} {H : Hp} {σ : St} {δ : Dst} (i : Nat) (r : RepS K H σ δ) : RepS K H (σ.set i none) (δ.set i none) := by
  refine ⟨by simpa using r.1, fun j e h => ?_⟩
  by_cases q : j = i
  · subst q
    by_cases hj : j < δ.length
    · rw [List.getElem?_set_self hj] at h; cases h
    · rw [List.getElem?_eq_none (by simpa using hj)] at h; cases h
  · rw [List.getElem?_set_ne (Ne.symm q)] at h ⊢
    exact r.2 j e h

/-! ### exceptions -/
def XRel (K : PySem.W.Frag) (H : Hp) (cls : Value) (d : Option Addr) (x : Exn) : Prop :=
  cls = .ref x.cls ∧ (x.num = none → d = none) ∧ ∀ i, x.num = some i → ∃ dd, d = some dd ∧ H dd = some (.xd [("at", .int i)])
/-- the context takes such an exception, raised where none is handled -/
def accN (X : Cx) (cls : Value) (d : Option Addr) (σ : St) (H : Hp) : Prop := ∀ u s', L2N.XE X (fun c e τ G => c = cls ∧ e = d ∧ τ = σ ∧ G = H) u s' → X.xe u s'
/-- .. raised wherever -/
def acc2 (X : Cx) (cls : Value) (d : Option Addr) (σ : St) (H : Hp) : Prop := ∀ u s', L2.XE X (fun c e τ G => c = cls ∧ e = d ∧ τ = σ ∧ G = H) u s' → X.xe u s'
theorem takesN (X : Cx) : L2N.Takes X (accN X) := fun u s' ⟨a, B, sI, pins, σ, H, cls, d, e, I, nb, up, sky, na, os, ag, w⟩ =>
  w u s' ⟨a, B, sI, pins, σ, H, cls, d, e, I, nb, up, sky, na, os, ag, rfl, rfl, rfl, rfl⟩
theorem takes2 (X : Cx) : L2.Takes X (acc2 X) := fun u s' ⟨a, B, sI, pins, σ, H, cls, d, e, I, nb, up, sky, na, os, ag, w⟩ =>
  w u s' ⟨a, B, sI, pins, σ, H, cls, d, e, I, nb, up, sky, na, os, ag, rfl, rfl, rfl, rfl⟩
theorem accN_of {X : Cx} {W : WX} (t : L2N.Takes X W) {cls : Value} {d : Option Addr} {σ : St} {H : Hp} (w : W cls d σ H) : accN X cls d σ H := fun u s' ⟨a, B, sI, pins, σ, H, cls, d, e, I, nb, up, sky, na, os, ag, e1, e2, e3, e4⟩ =>
  t u s' ⟨a, B, sI, pins, σ, H, cls, d, e, I, nb, up, sky, na, os, ag, by subst e1 e2 e3 e4; exact w⟩
theorem acc2_of {X : Cx} {W : WX} (t : L2.Takes X W) {cls : Value} {d : Option Addr} {σ : St} {H : Hp} (w : W cls d σ H) : acc2 X cls d σ H := fun u s' ⟨a, B, sI, pins, σ, H, cls, d, e, I, nb, up, sky, na, os, ag, e1, e2, e3, e4⟩ =>
  t u s' ⟨a, B, sI, pins, σ, H, cls, d, e, I, nb, up, sky, na, os, ag, by subst e1 e2 e3 e4; exact w⟩
/-- what is taken anyhow is taken in particular -/
theorem accN_of2 {X : Cx} {cls : Value} {d : Option Addr} {σ : St} {H : Hp} (w : acc2 X cls d σ H) : accN X cls d σ H := fun u s' ⟨a, B, sI, pins, σ, H, cls, d, e, I, nb, up, sky, na, os, ag, q⟩ => by
  refine w u s' ⟨a, B, sI, pins, σ, H, cls, d, e, I, nb, up, ?_, na, os, ag, q⟩
  rcases sky with ⟨h1, h2, h3, oe, vs, h4, h5, h6⟩ | fl | he
  · exact .inl ⟨h1, h2, h3, oe, vs, h4, h5.zc, h6⟩
  · obtain ⟨f1, f2, f3, oe, vs, T, oT, ts, he, hz, r⟩ := fl
    exact .inr (.inl ⟨f1, f2, f3, oe, vs, T, oT, ts, he, hz.zc, r⟩)
  · obtain ⟨f1, f2, f3, oe, vs, T, oT, ts, he, hz, r⟩ := he
    exact .inr (.inr ⟨f1, f2, f3, oe, vs, T, oT, ts, he, hz.zc, r⟩)
def ContX (X : Cx) (H : Hp) (E : XQ) : Prop := ∀ cls d σ' H' x h δ' M', Keep H H' → XRel X.K H' cls d x → RepS X.K H' σ' δ' → RepM X.K H' M' → E x h δ' M' → (h = false → accN X cls d σ' H') ∧ (h = true → acc2 X cls d σ' H')
theorem ContX.keep {X : Cx} {H H' : Hp} {E : XQ} (k : Keep H H') (c : ContX X H E) : ContX X H' E := fun cls d σ' G x h δ' M' q => c cls d σ' G x h δ' M' (k.trans q)
theorem ContX.no {X : Cx} {H : Hp} : ContX X H (fun _ _ _ _ => False) := fun _ _ _ _ _ _ _ _ _ _ _ _ h => h.elim

/-! ### the weakest reading of a piece of the text -/
def wpE (X : Cx) (e : Expr) : TE := fun σ H Q => ∀ pins s, Inv X pins σ H s → wpAny (model X.prog X.w) X.A (eval e X.env) (EP X pins σ Q) X.xe s
def wpT (X : Cx) (e : Expr) : TT := fun σ H Q => ∀ pins s, Inv X pins σ H s → wpAny (model X.prog X.w) X.A (isTrue e X.env (eval e X.env)) (TP X pins σ Q) X.xe s
def wpW (X : Cx) (e : Expr) : TT := fun σ H Q => ∀ (whole : Sem Value) pins s, Inv X pins σ H s → wpAny (model X.prog X.w) X.A (isTrue e X.env whole) (TP X pins σ Q) X.xe s
def wpA (X : Cx) (es : List Expr) : TA := fun σ H Q => ∀ (pos : Pos) pins s, Inv X pins σ H s → wpAny (model X.prog X.w) X.A (spliced (backTo pos (starEach es X.env))) (AP X pins σ Q) X.xe s
def wpS (X : Cx) (st : Stmt) : TS := fun D σ H => ∀ pins s, Inv X pins σ H s → wpAny (model X.prog X.w) X.A (exec st X.env) (SP X pins D) X.xe s
def wpB (X : Cx) (st : List Stmt) : TS := fun D σ H => ∀ pins s, Inv X pins σ H s → wpAny (model X.prog X.w) X.A (execs st X.env) (SP X pins D) X.xe s
def wpG (X : Cx) (e : Expr) : TG := fun v σ H Q => ∀ pins s u, Inv X pins σ H s → RelV v u → wpAny (model X.prog X.w) X.A (assign e X.env u) (fun _ s' => ∃ σ' H', Inv X pins σ' H' s' ∧ Q σ' H') X.xe s
def wpGs (X : Cx) (es : List Expr) : TGs := fun vs σ H Q => ∀ pins s us, Inv X pins σ H s → Vals vs us → wpAny (model X.prog X.w) X.A (assignInOrder ((assignEach es X.env).map (·.2)) us) (fun _ s' => ∃ σ' H', Inv X pins σ' H' s' ∧ Q σ' H') X.xe s
section
variable {X : Cx}
theorem pe_wp {e : Expr} : PE X e (wpE X e) := ⟨fun pins s σ H Q I h => h pins s I⟩
theorem pt_wp {e : Expr} : PT X e (wpT X e) := ⟨fun pins s σ H Q I h => h pins s I⟩
theorem pw_wp {e : Expr} : PW X e (wpW X e) := ⟨fun wh pins s σ H Q I h => h wh pins s I⟩
theorem pa_wp {e : List Expr} : PA X e (wpA X e) := ⟨fun pos pins s σ H Q I h => h pos pins s I⟩
theorem ps_wp {e : Stmt} : PS X e (wpS X e) := ⟨fun pins s σ H Q I h => h pins s I⟩
theorem pb_wp {e : List Stmt} : PSs X e (wpB X e) := ⟨fun pins s σ H Q I h => h pins s I⟩
theorem pg_wp {e : Expr} : PG X e (wpG X e) := ⟨fun pins s σ H v u Q I r h => h pins s u I r⟩
theorem pgs_wp {e : List Expr} : PGs X e (wpGs X e) := ⟨fun pins s σ H v u Q I r h => h pins s u I r⟩
theorem wpE_of {e : Expr} {t : TE} (p : PE X e t) {σ : St} {H : Hp} {Q : VK} (h : t σ H Q) : wpE X e σ H Q := fun pins s I => p.run pins s σ H Q I h
theorem wpT_of {e : Expr} {t : TT} (p : PT X e t) {σ : St} {H : Hp} {Q : Bool → Hp → Prop} (h : t σ H Q) : wpT X e σ H Q := fun pins s I => p.run pins s σ H Q I h
theorem wpW_of {e : Expr} {t : TT} (p : PW X e t) {σ : St} {H : Hp} {Q : Bool → Hp → Prop} (h : t σ H Q) : wpW X e σ H Q := fun wh pins s I => p.run wh pins s σ H Q I h
theorem wpA_of {e : List Expr} {t : TA} (p : PA X e t) {σ : St} {H : Hp} {Q : List V → Hp → Prop} (h : t σ H Q) : wpA X e σ H Q := fun pos pins s I => p.run pos pins s σ H Q I h
theorem wpS_of {e : Stmt} {t : TS} (p : PS X e t) {σ : St} {H : Hp} {Q : Ends} (h : t Q σ H) : wpS X e Q σ H := fun pins s I => p.run pins s σ H Q I h
theorem wpB_of {e : List Stmt} {t : TS} (p : PSs X e t) {σ : St} {H : Hp} {Q : Ends} (h : t Q σ H) : wpB X e Q σ H := fun pins s I => p.run pins s σ H Q I h
theorem wpG_of {e : Expr} {t : TG} (p : PG X e t) {v : V} {σ : St} {H : Hp} {Q : St → Hp → Prop} (h : t v σ H Q) : wpG X e v σ H Q := fun pins s u I r => p.run pins s σ H v u Q I r h
theorem wpGs_of {e : List Expr} {t : TGs} (p : PGs X e t) {v : List V} {σ : St} {H : Hp} {Q : St → Hp → Prop} (h : t v σ H Q) : wpGs X e v σ H Q := fun pins s u I r => p.run pins s σ H v u Q I r h
end

/-! ### the judgements over data -/
abbrev RE := Dst → Mp → DQ → XQ → Prop
abbrev RT := Dst → Mp → (Bool → Mp → Prop) → XQ → Prop
abbrev RA := Dst → Mp → (List D → Mp → Prop) → XQ → Prop
structure DEnds where
  nx : Dst → Mp → Prop
  rt : DQ
  ex : XQ
  bk : Dst → Mp → Prop := fun _ _ => False
  ct : Dst → Mp → Prop := fun _ _ => False
abbrev RS := DEnds → Dst → Mp → Prop
abbrev RG := D → Dst → Mp → (Dst → Mp → Prop) → XQ → Prop
abbrev RGs := List D → Dst → Mp → (Dst → Mp → Prop) → XQ → Prop
def Cont (K : PySem.W.Frag) (H : Hp) (Q : DQ) (Qv : VK) : Prop := ∀ v H' d M', Keep H H' → Rep K H' v d → RepM K H' M' → Q d M' → Qv v H'
def ContB (K : PySem.W.Frag) (H : Hp) (Q : Bool → Mp → Prop) (Qv : Bool → Hp → Prop) : Prop := ∀ b H' M', Keep H H' → RepM K H' M' → Q b M' → Qv b H'
def ContA (K : PySem.W.Frag) (H : Hp) (n : Nat) (Q : List D → Mp → Prop) (Qv : List V → Hp → Prop) : Prop := ∀ vs H' ds M', ds.length = n → Keep H H' → Reps K H' vs ds → RepM K H' M' → Q ds M' → Qv vs H'
def ContS (K : PySem.W.Frag) (H : Hp) (Q : Dst → Mp → Prop) (Qv : St → Hp → Prop) : Prop := ∀ σ' H' δ' M', Keep H H' → RepS K H' σ' δ' → RepM K H' M' → Q δ' M' → Qv σ' H'
section
variable {K : PySem.W.Frag} {H H' : Hp}
theorem Cont.keep {Q : DQ} {Qv : VK} (k : Keep H H') (c : Cont K H Q Qv) : Cont K H' Q Qv := fun v G d M q => c v G d M (k.trans q)
theorem ContB.keep {Q : Bool → Mp → Prop} {Qv : Bool → Hp → Prop} (k : Keep H H') (c : ContB K H Q Qv) : ContB K H' Q Qv := fun v G M q => c v G M (k.trans q)
theorem ContA.keep {n : Nat} {Q : List D → Mp → Prop} {Qv : List V → Hp → Prop} (k : Keep H H') (c : ContA K H n Q Qv) : ContA K H' n Q Qv := fun v G d M l q => c v G d M l (k.trans q)
theorem ContS.keep {Q : Dst → Mp → Prop} {Qv : St → Hp → Prop} (k : Keep H H') (c : ContS K H Q Qv) : ContS K H' Q Qv := fun v G d M q => c v G d M (k.trans q)
end
structure ContD (X : Cx) (H : Hp) (P : DEnds) (E : Ends) : Prop where
  nx : ContS X.K H P.nx E.nx
  rt : Cont X.K H P.rt E.rt
  bk : ContS X.K H P.bk E.bk
  ct : ContS X.K H P.ct E.ct
  ex : ContX X H P.ex
theorem ContD.keep {X : Cx} {H H' : Hp} {P : DEnds} {E : Ends} (k : Keep H H') (c : ContD X H P E) : ContD X H' P E := ⟨c.nx.keep k, c.rt.keep k, c.bk.keep k, c.ct.keep k, c.ex.keep k⟩
structure JE (X : Cx) (e : Expr) (t : RE) : Prop where
  run : ∀ δ M Q E σ H Qv, t δ M Q E → RepS X.K H σ δ → RepM X.K H M → Cont X.K H Q Qv → ContX X H E → wpE X e σ H Qv
structure JT (X : Cx) (e : Expr) (t : RT) : Prop where
  run : ∀ δ M Q E σ H Qv, t δ M Q E → RepS X.K H σ δ → RepM X.K H M → ContB X.K H Q Qv → ContX X H E → wpT X e σ H Qv
structure JW (X : Cx) (e : Expr) (t : RT) : Prop where
  run : ∀ δ M Q E σ H Qv, t δ M Q E → RepS X.K H σ δ → RepM X.K H M → ContB X.K H Q Qv → ContX X H E → wpW X e σ H Qv
structure JA (X : Cx) (e : List Expr) (t : RA) : Prop where
  run : ∀ δ M Q E σ H Qv, t δ M Q E → RepS X.K H σ δ → RepM X.K H M → ContA X.K H e.length Q Qv → ContX X H E → wpA X e σ H Qv
structure JS (X : Cx) (e : Stmt) (t : RS) : Prop where
  run : ∀ δ M P σ H E, t P δ M → RepS X.K H σ δ → RepM X.K H M → ContD X H P E → wpS X e E σ H
structure JB (X : Cx) (e : List Stmt) (t : RS) : Prop where
  run : ∀ δ M P σ H E, t P δ M → RepS X.K H σ δ → RepM X.K H M → ContD X H P E → wpB X e E σ H
structure JG (X : Cx) (e : Expr) (t : RG) : Prop where
  run : ∀ d δ M Q E v σ H Qv, t d δ M Q E → Rep X.K H v d → RepS X.K H σ δ → RepM X.K H M → ContS X.K H Q Qv → ContX X H E → wpG X e v σ H Qv
structure JGs (X : Cx) (e : List Expr) (t : RGs) : Prop where
  run : ∀ ds δ M Q E vs σ H Qv, t ds δ M Q E → Reps X.K H vs ds → RepS X.K H σ δ → RepM X.K H M → ContS X.K H Q Qv → ContX X H E → wpGs X e vs σ H Qv
end Tal
set_option maxHeartbeats 4000000
namespace Tal
open PySem PySem.Spec PyProof.Rows L2

/-! ### expressions -/
def rVar (i : Nat) : RE := fun δ M Q _ => match δ[i]? with
  | some (some d) => Q d M
  | _ => False
theorem rVar_at {i : Nat} {δ : Dst} {M : Mp} {Q : DQ} {E : XQ} (h : rVar i δ M Q E) : ∃ d, δ[i]? = some (some d) ∧ Q d M := by
  unfold rVar at h
  split at h
  · rename_i d e; exact ⟨d, e, h⟩
  · exact h.elim
/-- a truth behind which k stands; a branch by it -/
def isBl (x : D) (k : Bool → Prop) : Prop := match x with
  | .bl c => k c
  | _ => False
theorem isBl_at {x : D} {k : Bool → Prop} (h : isBl x k) : ∃ c, x = .bl c ∧ k c := by
  unfold isBl at h
  split at h
  · exact ⟨_, rfl, h⟩
  · exact h.elim
def br (c : Bool) (a b : Prop) : Prop := match c with
  | true => a
  | false => b
theorem br_by {c : Bool} {a b : Prop} (h1 : c = true → a) (h2 : c = false → b) : br c a b := by
  cases c
  · exact h2 rfl
  · exact h1 rfl
theorem br_p {p : Prop} [Decidable p] {a b : Prop} (h1 : p → a) (h2 : ¬ p → b) : br (decide p) a b := br_by (fun h => h1 (of_decide_eq_true h)) fun h => h2 (of_decide_eq_false h)
theorem br_np {p : Prop} [Decidable p] {a b : Prop} (h1 : ¬ p → a) (h2 : p → b) : br (!decide p) a b := br_by (fun h => h1 (by simpa using h)) fun h => h2 (by simpa using h)
def rC (d : D) : RE := fun _ M Q _ => Q d M
section
variable {X : Cx} {a b c e : Expr} {ta tb tc : RE} {pos : Pos}
theorem je_var (i : Nat) {x : Str} (hN : X.N[i]? = some x := by rfl) (hv : Vis X.env.scope x := by first | exact Or.inl rfl | exact Or.inr (Or.inl rfl) | exact Or.inr (Or.inr rfl)) (hd : (x == ("__debug__" : Str)) = false := by decide)
    (hcd : (x == ("__classdict__" : Str)) = false := by decide) : JE X (.Name x pos) (rVar i) := by
  refine ⟨fun δ M Q E σ H Qv q hs hm hc hx => wpE_of (pe_var hN hv hd hcd) ?_⟩
  obtain ⟨d, e, q⟩ := rVar_at q
  obtain ⟨v, ev, r⟩ := hs.2 i d e
  exact ⟨v, ev, hc v H d M (.refl H) r hm q⟩
theorem je_of {v : V} {d : D} (p : PE X e (tC v)) (r : ∀ H, Rep X.K H v d) : JE X e (rC d) :=
  ⟨fun δ M Q E σ H Qv q hs hm hc hx => wpE_of p (hc v H d M (.refl H) (r H) hm q)⟩
theorem je_int {i : Int} {j : Nat} : JE X (.Constant (.int i) j pos) (rC (.int i)) := je_of pe_int fun _ => .int i
theorem je_bl {i : Bool} {j : Nat} : JE X (.Constant (.bool i) j pos) (rC (.bl i)) := je_of pe_bl fun _ => .bl i
theorem je_non {j : Nat} : JE X (.Constant .none j pos) (rC .non) := je_of pe_non fun _ => .non
theorem je_str {x : Str} {j : Nat} : JE X (.Constant (.str x) j pos) (rC (.str x)) := je_of pe_str fun _ => .str x

/-! ### two-place operations -/
abbrev F2 := D → D → Mp → DQ → Prop
def rOp (f : F2) (ta tb : RE) : RE := fun δ M Q E => ta δ M (fun x M1 => tb δ M1 (fun y M2 => f x y M2 Q) E) E
/-- f is the data's face of r -/
def Lift2 (K : PySem.W.Frag) (r : R2) (f : F2) : Prop := ∀ x y vx vy H M Q Qv, f x y M Q → Rep K H vx x → Rep K H vy y → RepM K H M → Cont K H Q Qv → r vx vy H Qv
theorem je_two {r : R2} {f : F2} (l : Lift2 X.K r f) (p : PE X e (tOp r (wpE X a) (wpE X b))) (ha : JE X a ta) (hb : JE X b tb) : JE X e (rOp f ta tb) := by
  refine ⟨fun δ M Q E σ H Qv q hs hm hc hx => wpE_of p ?_⟩
  refine ha.run δ M _ E σ H _ q hs hm (fun vx H1 x M1 k1 rx m1 q1 => ?_) hx
  refine hb.run δ M1 _ E σ H1 _ q1 (hs.keep k1) m1 (fun vy H2 y M2 k2 ry m2 q2 => ?_) (hx.keep k1)
  exact l x y vx vy H2 M2 Q Qv q2 (rx.keep k2) ry m2 (hc.keep (k1.trans k2))
theorem je_op {op : Operator} {r : R2} {f : F2} (l : OpR X (binaryOp op) r ∧ Lift2 X.K r f) (ha : JE X a ta) (hb : JE X b tb) : JE X (.BinOp a op b pos) (rOp f ta tb) := je_two l.2 (pe_op l.1 pe_wp pe_wp) ha hb
theorem je_cmp {op : CmpOp} {r : R2} {f : F2} (l : OpR X (compareOp op) r ∧ Lift2 X.K r f) (ha : JE X a ta) (hb : JE X b tb) (hm : behindInMarks op b = false := by first | exact nomark _ | rfl) : JE X (.Compare a [op] [b] pos) (rOp f ta tb) := je_two l.2 (pe_cmpR l.1 pe_wp pe_wp hm) ha hb
/-- a value that is a truth, as a test -/
def rB (t : RE) : RT := fun δ M Q E => t δ M (fun x M1 => isBl x fun c => Q c M1) E
theorem jt_cmp {op : CmpOp} {r : R2} {f : F2} (l : OpR X (compareOp op) r ∧ Lift2 X.K r f) (ha : JE X a ta) (hb : JE X b tb) (hm : behindInMarks op b = false := by first | exact nomark _ | rfl) : JT X (.Compare a [op] [b] pos) (rB (rOp f ta tb)) := by
  refine ⟨fun δ M Q E σ H Qv q hs hm' hc hx => wpT_of (pt_cmpR l.1 pe_wp pe_wp hm) ?_⟩
  refine ha.run δ M _ E σ H _ q hs hm' (fun vx H1 x M1 k1 rx m1 q1 => ?_) hx
  refine hb.run δ M1 _ E σ H1 _ q1 (hs.keep k1) m1 (fun vy H2 y M2 k2 ry m2 q2 => ?_) (hx.keep k1)
  refine l.2 x y vx vy H2 M2 _ _ q2 (rx.keep k2) ry m2 fun v H3 d M3 k3 r3 m3 q3 => ?_
  obtain ⟨c, rfl, q3⟩ := isBl_at q3
  cases r3
  exact ⟨c, rfl, hc c H3 M3 ((k1.trans k2).trans k3) m3 q3⟩
theorem jt_val (h : JE X e ta) (he : ∀ whole, isTrue e X.env whole = (do let v ← whole; standAt e.pos; holding [v] (truthy v)) := by intro _; rfl) : JT X e (rB ta) := by
  refine ⟨fun δ M Q E σ H Qv q hs hm hc hx => wpT_of (pt_val pe_wp he) ?_⟩
  refine h.run δ M _ E σ H _ q hs hm (fun v H1 x M1 k1 r1 m1 q1 => ?_) hx
  obtain ⟨c, rfl, q1⟩ := isBl_at q1
  cases r1
  exact ⟨c, rfl, hc c H1 M1 k1 m1 q1⟩
end

/-! ### and, or, not -/
section
variable {X : Cx} {a b c e : Expr} {rest : List Expr} {ta tb : RT} {ua ub : RE} {pos : Pos}
def rAnd (t u : RT) : RT := fun δ M Q E => t δ M (fun c M1 => br c (u δ M1 Q E) (Q false M1)) E
def rOr (t u : RT) : RT := fun δ M Q E => t δ M (fun c M1 => br c (Q true M1) (u δ M1 Q E)) E
def rNot (t : RT) : RT := fun δ M Q E => t δ M (fun c M1 => Q (!c) M1) E
theorem jw_and1 (h : JT X a ta) : JW X (.BoolOp .And [a] pos) ta := ⟨fun δ M Q E σ H Qv q hs hm hc hx => wpW_of (pw_and1 pt_wp) (h.run δ M Q E σ H Qv q hs hm hc hx)⟩
theorem jw_or1 (h : JT X a ta) : JW X (.BoolOp .Or [a] pos) ta := ⟨fun δ M Q E σ H Qv q hs hm hc hx => wpW_of (pw_or1 pt_wp) (h.run δ M Q E σ H Qv q hs hm hc hx)⟩
theorem jw_and (h : JT X a ta) (k : JW X (.BoolOp .And (b :: rest) pos) tb) : JW X (.BoolOp .And (a :: b :: rest) pos) (rAnd ta tb) := by
  refine ⟨fun δ M Q E σ H Qv q hs hm hc hx => wpW_of (pw_and pt_wp pw_wp) ?_⟩
  refine h.run δ M _ E σ H _ q hs hm (fun c H1 M1 k1 m1 q1 => ?_) hx
  cases c with
  | true => exact k.run δ M1 Q E σ H1 Qv q1 (hs.keep k1) m1 (hc.keep k1) (hx.keep k1)
  | false => exact hc false H1 M1 k1 m1 q1
theorem jw_or (h : JT X a ta) (k : JW X (.BoolOp .Or (b :: rest) pos) tb) : JW X (.BoolOp .Or (a :: b :: rest) pos) (rOr ta tb) := by
  refine ⟨fun δ M Q E σ H Qv q hs hm hc hx => wpW_of (pw_or pt_wp pw_wp) ?_⟩
  refine h.run δ M _ E σ H _ q hs hm (fun c H1 M1 k1 m1 q1 => ?_) hx
  cases c with
  | false => exact k.run δ M1 Q E σ H1 Qv q1 (hs.keep k1) m1 (hc.keep k1) (hx.keep k1)
  | true => exact hc true H1 M1 k1 m1 q1
theorem jw_t (h : JW X e ta) : JT X e ta := ⟨fun δ M Q E σ H Qv q hs hm hc hx => wpT_of (PW.pt pw_wp) (h.run δ M Q E σ H Qv q hs hm hc hx)⟩
theorem jt_not (h : JT X a ta) : JT X (.UnaryOp .Not a pos) (rNot ta) :=
  ⟨fun δ M Q E σ H Qv q hs hm hc hx => wpT_of (pt_not pt_wp) (h.run δ M _ E σ H _ q hs hm (fun c H1 M1 k1 m1 q1 => hc (!c) H1 M1 k1 m1 q1) hx)⟩
def rAndV (t u : RE) : RE := fun δ M Q E => t δ M (fun x M1 => isBl x fun c => br c (u δ M1 Q E) (Q (.bl false) M1)) E
def rOrV (t u : RE) : RE := fun δ M Q E => t δ M (fun x M1 => isBl x fun c => br c (Q (.bl true) M1) (u δ M1 Q E)) E
def rNotV (t : RE) : RE := fun δ M Q E => t δ M (fun x M1 => isBl x fun c => Q (.bl (!c)) M1) E
theorem je_one {op : BoolOp} (h : JE X a ua) : JE X (.BoolOp op [a] pos) ua := ⟨fun δ M Q E σ H Qv q hs hm hc hx => wpE_of (pe_one pe_wp) (h.run δ M Q E σ H Qv q hs hm hc hx)⟩
theorem je_and (h : JE X a ua) (k : JE X (.BoolOp .And (b :: rest) pos) ub) : JE X (.BoolOp .And (a :: b :: rest) pos) (rAndV ua ub) := by
  refine ⟨fun δ M Q E σ H Qv q hs hm hc hx => wpE_of (pe_and pe_wp pe_wp) ?_⟩
  refine h.run δ M _ E σ H _ q hs hm (fun v H1 x M1 k1 r1 m1 q1 => ?_) hx
  obtain ⟨c, rfl, q1⟩ := isBl_at q1
  cases r1
  refine ⟨c, rfl, ?_⟩
  cases c with
  | true => exact k.run δ M1 Q E σ H1 Qv q1 (hs.keep k1) m1 (hc.keep k1) (hx.keep k1)
  | false => exact hc _ H1 _ M1 k1 (.bl false) m1 q1
theorem je_or (h : JE X a ua) (k : JE X (.BoolOp .Or (b :: rest) pos) ub) : JE X (.BoolOp .Or (a :: b :: rest) pos) (rOrV ua ub) := by
  refine ⟨fun δ M Q E σ H Qv q hs hm hc hx => wpE_of (pe_or pe_wp pe_wp) ?_⟩
  refine h.run δ M _ E σ H _ q hs hm (fun v H1 x M1 k1 r1 m1 q1 => ?_) hx
  obtain ⟨c, rfl, q1⟩ := isBl_at q1
  cases r1
  refine ⟨c, rfl, ?_⟩
  cases c with
  | false => exact k.run δ M1 Q E σ H1 Qv q1 (hs.keep k1) m1 (hc.keep k1) (hx.keep k1)
  | true => exact hc _ H1 _ M1 k1 (.bl true) m1 q1
theorem je_not (h : JE X a ua) : JE X (.UnaryOp .Not a pos) (rNotV ua) := by
  refine ⟨fun δ M Q E σ H Qv q hs hm hc hx => wpE_of (pe_not pe_wp) ?_⟩
  refine h.run δ M _ E σ H _ q hs hm (fun v H1 x M1 k1 r1 m1 q1 => ?_) hx
  obtain ⟨c, rfl, q1⟩ := isBl_at q1
  cases r1
  exact ⟨c, rfl, hc _ H1 _ M1 k1 (.bl _) m1 q1⟩
def rIfE (t : RT) (u v : RE) : RE := fun δ M Q E => t δ M (fun c M1 => br c (u δ M1 Q E) (v δ M1 Q E)) E
theorem je_if (hc : JT X c ta) (ha : JE X a ua) (hb : JE X b ub) : JE X (.IfExp c a b pos) (rIfE ta ua ub) := by
  refine ⟨fun δ M Q E σ H Qv q hs hm hq hx => wpE_of (pe_ifExp pt_wp pe_wp pe_wp) ?_⟩
  refine hc.run δ M _ E σ H _ q hs hm (fun c H1 M1 k1 m1 q1 => ?_) hx
  cases c with
  | true => exact ha.run δ M1 Q E σ H1 Qv q1 (hs.keep k1) m1 (hq.keep k1) (hx.keep k1)
  | false => exact hb.run δ M1 Q E σ H1 Qv q1 (hs.keep k1) m1 (hq.keep k1) (hx.keep k1)
end

/-! ### the operations on data -/
def fSub : F2 := fun x y M Q => ∃ i j, x = .int i ∧ y = .int j ∧ Q (.int (i - j)) M
def fMod : F2 := fun x y M Q => ∃ i j, x = .int i ∧ y = .int j ∧ 0 < j ∧ Q (.int (i % j)) M
def fDiv : F2 := fun x y M Q => ∃ i j, x = .int i ∧ y = .int j ∧ (0 < j ∧ j < 1073741824) ∧ Q (.int (i / j)) M
def fPow : F2 := fun x y M Q => ∃ i j, x = .int i ∧ y = .int j ∧ CPow i j ∧ Q (.int (i ^ j.toNat)) M
def fCmp (p : Int → Int → Bool) : F2 := fun x y M Q => ∃ i j, x = .int i ∧ y = .int j ∧ Q (.bl (p i j)) M
theorem lift_i0 {K : PySem.W.Frag} {g : Int → Int → Int} : Lift2 K (rI0 fun i j => .int (g i j)) (fun x y M Q => ∃ i j, x = .int i ∧ y = .int j ∧ Q (.int (g i j)) M) := by
  rintro x y vx vy H M Q Qv ⟨i, j, rfl, rfl, q⟩ rx ry hm hc
  cases rx; cases ry
  exact ⟨i, j, rfl, rfl, hc _ H _ M (.refl H) (.int _) hm q⟩
theorem lift_b0 {K : PySem.W.Frag} {g : Int → Int → Bool} : Lift2 K (rI0 fun i j => .bl (g i j)) (fCmp g) := by
  rintro x y vx vy H M Q Qv ⟨i, j, rfl, rfl, q⟩ rx ry hm hc
  cases rx; cases ry
  exact ⟨i, j, rfl, rfl, hc _ H _ M (.refl H) (.bl _) hm q⟩
theorem lift_i {K : PySem.W.Frag} {C : Int → Int → Prop} {g : Int → Int → Int} : Lift2 K (rI C fun i j => .int (g i j)) (fun x y M Q => ∃ i j, x = .int i ∧ y = .int j ∧ C i j ∧ Q (.int (g i j)) M) := by
  rintro x y vx vy H M Q Qv ⟨i, j, rfl, rfl, h, q⟩ rx ry hm hc
  cases rx; cases ry
  exact ⟨i, j, rfl, rfl, h, hc _ H _ M (.refl H) (.int _) hm q⟩
section
variable {X : Cx}
theorem o_sub : OpR X (binaryOp .Sub) (rI0 fun i j => .int (i - j)) ∧ Lift2 X.K (rI0 fun i j => .int (i - j)) fSub := ⟨op_sub, lift_i0⟩
theorem o_mod : OpR X (binaryOp .Mod) (rI (fun _ j => 0 < j) fun i j => .int (i % j)) ∧ Lift2 X.K (rI (fun _ j => 0 < j) fun i j => .int (i % j)) fMod := ⟨op_mod, lift_i⟩
theorem o_div : OpR X (binaryOp .FloorDiv) (rI CDiv fun i j => .int (i / j)) ∧ Lift2 X.K (rI CDiv fun i j => .int (i / j)) fDiv := ⟨op_fdiv, lift_i⟩
theorem o_pow : OpR X (binaryOp .Pow) (rI CPow fun i j => .int (i ^ j.toNat)) ∧ Lift2 X.K (rI CPow fun i j => .int (i ^ j.toNat)) fPow := ⟨op_pow, lift_i⟩
theorem o_lt : OpR X (compareOp .Lt) (rI0 fun i j => .bl (decide (i < j))) ∧ Lift2 X.K (rI0 fun i j => .bl (decide (i < j))) (fCmp fun i j => decide (i < j)) := ⟨op_lt, lift_b0⟩
theorem o_le : OpR X (compareOp .LtE) (rI0 fun i j => .bl (decide (i ≤ j))) ∧ Lift2 X.K (rI0 fun i j => .bl (decide (i ≤ j))) (fCmp fun i j => decide (i ≤ j)) := ⟨op_le, lift_b0⟩
theorem o_gt : OpR X (compareOp .Gt) (rI0 fun i j => .bl (decide (j < i))) ∧ Lift2 X.K (rI0 fun i j => .bl (decide (j < i))) (fCmp fun i j => decide (j < i)) := ⟨op_gt, lift_b0⟩
theorem o_ge : OpR X (compareOp .GtE) (rI0 fun i j => .bl (decide (j ≤ i))) ∧ Lift2 X.K (rI0 fun i j => .bl (decide (j ≤ i))) (fCmp fun i j => decide (j ≤ i)) := ⟨op_ge, lift_b0⟩
end
/-- x + y -/
def fAdd : F2 := fun x y M Q => (∃ i j, x = .int i ∧ y = .int j ∧ Q (.int (i + j)) M) ∨ (∃ i j, x = .str i ∧ y = .str j ∧ i.length + j.length ≤ sizeLine ∧ Q (.str (i ++ j)) M) ∨
  (∃ as bs, x = .tup as ∧ y = .tup bs ∧ as.length + bs.length ≤ sizeLine ∧ Q (.tup (as ++ bs)) M) ∨
  ∃ a b as bs, x = .ref a ∧ y = .ref b ∧ M a = some (.lst as) ∧ M b = some (.lst bs) ∧ as.length + bs.length ≤ sizeLine ∧ ∀ p, M p = none → Q (.ref p) (mup M p (.lst (as ++ bs)))
def rAddAll (K : PySem.W.Frag) : R2 := fun x y H Q => rI0 (fun i j => .int (i + j)) x y H Q ∨ (∃ i j, x = .str i ∧ y = .str j ∧ i.length + j.length ≤ sizeLine ∧ Q (.str (i ++ j)) H) ∨ rCatA K x y H Q ∨ rCat x y H Q
theorem rep_new {K : PySem.W.Frag} {H : Hp} {xs : List V} {ds : List D} {p : Addr} (r : Reps K H xs ds) (n : H p = none) : Rep K (upd H p (.tup xs)) (.ref p) (.tup ds) := .tup (.of upd_same) (r.keep (.new n))
theorem repO_new {K : PySem.W.Frag} {H : Hp} {xs : List V} {ds : List D} {p : Addr} (r : Reps K H xs ds) (n : H p = none) : RepO K (upd H p (.lst xs)) p (.lst ds) := ⟨xs, upd_same, r.keep (.new n)⟩
theorem lift_add {K : PySem.W.Frag} : Lift2 K (rAddAll K) fAdd := by
  rintro x y vx vy H M Q Qv q rx ry hm hc
  rcases q with ⟨i, j, rfl, rfl, q⟩ | ⟨i, j, rfl, rfl, hl, q⟩ | ⟨as, bs, rfl, rfl, hl, q⟩ | ⟨a, b, as, bs, rfl, rfl, ha, hb, hl, q⟩
  · cases rx; cases ry
    exact .inl ⟨i, j, rfl, rfl, hc _ H _ M (.refl H) (.int _) hm q⟩
  · cases rx; cases ry
    exact .inr (.inl ⟨i, j, rfl, rfl, hl, hc _ H _ M (.refl H) (.str _) hm q⟩)
  · cases rx with
    | @tup a xs _ sx rx =>
      cases ry with
      | @tup b ys _ sy ry =>
        refine .inr (.inr (.inl ⟨a, b, xs, ys, rfl, rfl, sx, sy, by rw [rx.length, ry.length]; exact hl, fun e => ?_, fun _ e => ?_, fun _ _ p n => ?_⟩))
        · have z := rx.nil_iff.mp e
          subst z
          exact hc _ H _ M (.refl H) (.tup sy ry) hm q
        · have z := ry.nil_iff.mp e
          subst z
          rw [List.append_nil] at q
          exact hc _ H _ M (.refl H) (.tup sx rx) hm q
        · exact hc _ _ _ M (.new n) (rep_new (rx.append ry) n) (hm.skip n) q
  · cases rx; cases ry
    obtain ⟨xs, h1, r1⟩ := hm a _ ha
    obtain ⟨ys, h2, r2⟩ := hm b _ hb
    exact .inr (.inr (.inr ⟨a, b, xs, ys, rfl, rfl, h1, h2, by rw [r1.length, r2.length]; exact hl, fun p n => hc _ _ _ _ (.new n) (.ref p) (hm.add n (repO_new (r1.append r2) n)) (q p (hm.free n))⟩))
theorem o_add {X : Cx} : OpR X (binaryOp .Add) (rAddAll X.K) ∧ Lift2 X.K (rAddAll X.K) fAdd := ⟨op_add.or (op_add_str.or (op_catA.or op_cat)), lift_add⟩
theorem fAdd_int {i j : Int} {M : Mp} {Q : DQ} (q : Q (.int (i + j)) M) : fAdd (.int i) (.int j) M Q := .inl ⟨i, j, rfl, rfl, q⟩
theorem fAdd_str {i j : Str} {M : Mp} {Q : DQ} (h : i.length + j.length ≤ sizeLine) (q : Q (.str (i ++ j)) M) : fAdd (.str i) (.str j) M Q := .inr (.inl ⟨i, j, rfl, rfl, h, q⟩)
theorem fAdd_tup {i j : List D} {M : Mp} {Q : DQ} (h : i.length + j.length ≤ sizeLine) (q : Q (.tup (i ++ j)) M) : fAdd (.tup i) (.tup j) M Q := .inr (.inr (.inl ⟨i, j, rfl, rfl, h, q⟩))
theorem fAdd_lst {a b : Addr} {i j : List D} {M : Mp} {Q : DQ} (ha : M a = some (.lst i)) (hb : M b = some (.lst j)) (h : i.length + j.length ≤ sizeLine) (q : ∀ p, M p = none → Q (.ref p) (mup M p (.lst (i ++ j)))) : fAdd (.ref a) (.ref b) M Q :=
  .inr (.inr (.inr ⟨a, b, i, j, rfl, rfl, ha, hb, h, q⟩))
/-- x[i] -/
def fIx : F2 := fun x y M Q => (∃ ds i d, x = .tup ds ∧ y = .int i ∧ atI ds i = some d ∧ Q d M) ∨ (∃ a ds i d, x = .ref a ∧ y = .int i ∧ M a = some (.lst ds) ∧ atI ds i = some d ∧ Q d M) ∨
  ∃ z i c, x = .str z ∧ y = .int i ∧ z.length ≤ sizeLine ∧ atI z.cps.toList i = some c ∧ Q (.str ⟨#[c]⟩) M
theorem Reps.atI {K : PySem.W.Frag} {H : Hp} {vs : List V} {ds : List D} {i : Int} {d : D} (r : Reps K H vs ds) (h : L2.atI ds i = some d) : ∃ v, L2.atI vs i = some v ∧ Rep K H v d := by
  unfold L2.atI at h ⊢
  rw [r.length]
  cases q : ixN ds.length i with
  | none => rw [q] at h; cases h
  | some j =>
    rw [q] at h
    obtain ⟨v, e, z⟩ := r.get (i := j) h
    exact ⟨v, e, z⟩
theorem lift_ix {K : PySem.W.Frag} : Lift2 K (rIx K) fIx := by
  rintro x y vx vy H M Q Qv q rx ry hm hc
  rcases q with ⟨ds, i, d, rfl, rfl, hi, q⟩ | ⟨a, ds, i, d, rfl, rfl, ha, hi, q⟩ | ⟨z, i, c, rfl, rfl, hl, hi, q⟩
  · cases ry
    cases rx with
    | @tup a xs _ sx rx =>
      obtain ⟨v, hv, r⟩ := rx.atI hi
      exact .inr (.inl ⟨a, xs, i, v, rfl, rfl, sx, hv, hc _ H _ M (.refl H) r hm q⟩)
  · cases rx; cases ry
    obtain ⟨xs, h1, r1⟩ := hm a _ ha
    obtain ⟨v, hv, r⟩ := r1.atI hi
    exact .inl ⟨a, xs, i, v, rfl, rfl, .of h1, hv, hc _ H _ M (.refl H) r hm q⟩
  · cases rx; cases ry
    exact .inr (.inr ⟨z, i, c, rfl, rfl, hl, hi, hc _ H _ M (.refl H) (.str _) hm q⟩)
theorem je_ix {X : Cx} {a b : Expr} {ta tb : RE} {pos : Pos} (ha : JE X a ta) (hb : JE X b tb) (hs : PlainIx b := by intro _ _; rfl) : JE X (.Subscript a b pos) (rOp fIx ta tb) := je_two lift_ix (pe_ix ix_seq pe_wp pe_wp hs) ha hb
theorem fIx_tup {ds : List D} {i : Int} {d : D} {M : Mp} {Q : DQ} (h : atI ds i = some d) (q : Q d M) : fIx (.tup ds) (.int i) M Q := .inl ⟨ds, i, d, rfl, rfl, h, q⟩
theorem fIx_lst {a : Addr} {ds : List D} {i : Int} {d : D} {M : Mp} {Q : DQ} (ha : M a = some (.lst ds)) (h : atI ds i = some d) (q : Q d M) : fIx (.ref a) (.int i) M Q := .inr (.inl ⟨a, ds, i, d, rfl, rfl, ha, h, q⟩)
theorem fIx_str {z : Str} {i : Int} {c : Nat} {M : Mp} {Q : DQ} (hl : z.length ≤ sizeLine) (h : atI z.cps.toList i = some c) (q : Q (.str ⟨#[c]⟩) M) : fIx (.str z) (.int i) M Q := .inr (.inr ⟨z, i, c, rfl, rfl, hl, h, q⟩)
end Tal
set_option maxHeartbeats 4000000
namespace Tal
open PySem PySem.Spec PyProof.Rows L2

/-! ### a tuple times one is itself -/
section
open PySem.AutoSeq1 (wpAny_loadPart')
open PySem.SeqAt PySem.MeetsSeq PySem.MeetsSeq2 PySem.MeetsSeq3
theorem once_tuple (l : Addr) (its : Array Value) (n : Nat) (u : Tok) (sl : Array (Option Value)) (dd : Option Addr) :
    Meets (Builtin.«tuple.__mul__» ⟨[.ref l, .int 1 u], []⟩) (fun _ R s => s.heap.get? l = some { cls := .type "tuple", dict := dd, data := .seq its n, slots := sl } ∧ R (.ok (.ret (.ref l))) s) :=
  .of_wp fun prog w A R s h => by
    obtain ⟨hp, g, d, tk, os⟩ := s
    obtain ⟨hl, h⟩ := h
    have f1 := AutoSeq1.idx_int
    have e1 : (its.isEmpty || (1 : Int) == 1) = true := by simp
    have e0 : (decide ((1 : Int) < -(2 ^ 63)) || decide ((1 : Int) ≥ 2 ^ 63)) = false := by decide
    wp_walk using wpAny_loadPart' hl
    repeat (first
      | (refine wpAny_ite_false (decide_eq_false (by rw [e0]; exact Bool.false_ne_true)) ?_; wp_walk using wpAny_loadPart' hl)
      | (refine wpAny_ite_true (decide_eq_true e1) ?_; wp_walk using wpAny_loadPart' hl))
    exact ⟨_, rfl, h⟩
end

def rRep1 (K : PySem.W.Frag) : R2 := fun x y H Q => ∃ l xs, x = .ref l ∧ y = .int 1 ∧ SqT K H l xs ∧ Q (.ref l) H
theorem op_rep1 {X : Cx} : OpR X (binaryOp .Mult) (rRep1 X.K) := by
  intro pins s σ H x y v u Q I rx ry h
  obtain ⟨l, xs, rfl, rfl, hT, q⟩ := h
  cases rx
  obtain ⟨t, rfl⟩ := ry
  obtain ⟨its, r, ⟨⟨cls, dd, data, sl⟩, ho, hc, n, hd⟩, hs⟩ := I.tuple hT
  simp only at hc hd
  subst hc hd
  refine wpAny_binaryOp_repeat_ref (T := "tuple") (U := "int") (by decide) ⟨_, ho, rfl⟩ (fun s' => typeIs_int s' 1 t) noFill_tuple_mul F.fills_int_mul F.slot_int_rmul repeat_tuple F.slot_int_index.lookup ?_
  refine call_meets F.slot_int_rmul (typeIs_int s 1 t) F.entry_int_rmul (F.args_int_rmul_2 _ _) (int_rmul_tuple 1 t l its.toArray n dd sl) ?_
  refine ⟨ho, rfl, ⟨_, ho, rfl⟩, ?_⟩
  exact call_meets F.slot_tuple_mul ⟨_, ho, rfl⟩ F.entry_tuple_mul (F.args_tuple_mul_2 _ _) (once_tuple l its.toArray n t sl dd) ⟨ho, ⟨.ref l, H, I, rfl, q⟩⟩
/-- x * y -/
def fMul : F2 := fun x y M Q => (∃ i j, x = .int i ∧ y = .int j ∧ CMul i j ∧ Q (.int (i * j)) M) ∨ (∃ d k, x = .tup [d] ∧ y = .int k ∧ 1 ≤ k ∧ k ≤ 1000 ∧ Q (.tup (List.replicate k.toNat d)) M) ∨
  ∃ a d k, x = .ref a ∧ y = .int k ∧ M a = some (.lst [d]) ∧ 0 ≤ k ∧ k ≤ 1000 ∧ ∀ p, M p = none → Q (.ref p) (mup M p (.lst (List.replicate k.toNat d)))
def rMulAll (K : PySem.W.Frag) : R2 := fun x y H Q => rI CMul (fun i j => .int (i * j)) x y H Q ∨ rRepT K x y H Q ∨ rRep1 K x y H Q ∨ rRep x y H Q
theorem flat1 {α : Type} (v : α) : ∀ n : Nat, (List.replicate n [v]).flatten = List.replicate n v
  | 0 => rfl
  | n + 1 => by rw [List.replicate_succ, List.flatten_cons, flat1 v n]; rfl
theorem lift_mul {K : PySem.W.Frag} : Lift2 K (rMulAll K) fMul := by
  rintro x y vx vy H M Q Qv q rx ry hm hc
  rcases q with ⟨i, j, rfl, rfl, h, q⟩ | ⟨d, k, rfl, rfl, h1, h2, q⟩ | ⟨a, d, k, rfl, rfl, ha, h1, h2, q⟩
  · cases rx; cases ry
    exact .inl ⟨i, j, rfl, rfl, h, hc _ H _ M (.refl H) (.int _) hm q⟩
  · cases ry
    cases rx with
    | @tup a xs _ sx rx =>
      cases rx with
      | @cons v _ vs _ rv rn =>
        cases rn
        by_cases e : k = 1
        · subst e
          exact .inr (.inr (.inl ⟨a, _, rfl, rfl, sx, hc _ H _ M (.refl H) (.tup sx (.cons rv .nil)) hm q⟩))
        · refine .inr (.inl ⟨a, k, [v], rfl, rfl, sx, List.cons_ne_nil _ _, by omega, h2, by simp, fun p n => ?_⟩)
          rw [flat1]
          exact hc _ _ _ M (.new n) (rep_new (Reps.replicate rv k.toNat) n) (hm.skip n) q
  · cases rx; cases ry
    obtain ⟨xs, e, r⟩ := hm a _ ha
    cases r with
    | @cons v _ vs _ rv rn =>
      cases rn
      refine .inr (.inr (.inr ⟨a, k, [v], rfl, rfl, e, by omega, by omega, ?_, fun p n => ?_⟩))
      · have : sizeLine = 16777216 := sizeLine_eq
        simp only [List.length_singleton]
        omega
      · rw [flat1]
        exact hc _ _ _ _ (.new n) (.ref p) (hm.add n (repO_new (Reps.replicate rv k.toNat) n)) (q p (hm.free n))
theorem o_mul {X : Cx} : OpR X (binaryOp .Mult) (rMulAll X.K) ∧ Lift2 X.K (rMulAll X.K) fMul := ⟨op_mul.or (op_repT.or (op_rep1.or op_rep)), lift_mul⟩
theorem fMul_int {i j : Int} {M : Mp} {Q : DQ} (h : CMul i j) (q : Q (.int (i * j)) M) : fMul (.int i) (.int j) M Q := .inl ⟨i, j, rfl, rfl, h, q⟩
theorem fMul_tup {d : D} {k : Int} {M : Mp} {Q : DQ} (h1 : 1 ≤ k) (h2 : k ≤ 1000) (q : Q (.tup (List.replicate k.toNat d)) M) : fMul (.tup [d]) (.int k) M Q := .inr (.inl ⟨d, k, rfl, rfl, h1, h2, q⟩)
theorem fMul_lst {a : Addr} {d : D} {k : Int} {M : Mp} {Q : DQ} (ha : M a = some (.lst [d])) (h1 : 0 ≤ k) (h2 : k ≤ 1000) (q : ∀ p, M p = none → Q (.ref p) (mup M p (.lst (List.replicate k.toNat d)))) : fMul (.ref a) (.int k) M Q := .inr (.inr ⟨a, d, k, rfl, rfl, ha, h1, h2, q⟩)

/-! ### == and != -/
mutual
inductive PyOf (M : Mp) : D → PyData → Prop
  | non : PyOf M .non .none
  | bl (b : Bool) : PyOf M (.bl b) (.bool b)
  | int (i : Int) : PyOf M (.int i) (.int i)
  | str (x : Str) : PyOf M (.str x) (.str x)
  | tup {ds : List D} {ps : List PyData} : PyOfs M ds ps → PyOf M (.tup ds) (.tuple ps)
  | lst {a : Addr} {ds : List D} {ps : List PyData} : M a = some (.lst ds) → PyOfs M ds ps → PyOf M (.ref a) (.list ps)
inductive PyOfs (M : Mp) : List D → List PyData → Prop
  | nil : PyOfs M [] []
  | cons {d : D} {p : PyData} {ds : List D} {ps : List PyData} : PyOf M d p → PyOfs M ds ps → PyOfs M (d :: ds) (p :: ps)
end
mutual
theorem PyOf.dp {K : PySem.W.Frag} {H : Hp} {M : Mp} (m : RepM K H M) : ∀ {d : D} {p : PyData} {v : V}, PyOf M d p → Rep K H v d → Dp K H v p
  | _, _, _, .non, .non => .non
  | _, _, _, .bl b, .bl _ => .bl b
  | _, _, _, .int b, .int _ => .int b
  | _, _, _, .str b, .str _ => .str b
  | _, _, _, .tup h, .tup s r => .tup s (PyOfs.dp m h r)
  | _, _, v, .lst (a := a) e h, hr => by
    obtain ⟨xs, h1, r⟩ := m a _ e
    have z := PyOfs.dp m h r
    cases hr
    exact .lst (.of h1) z
theorem PyOfs.dp {K : PySem.W.Frag} {H : Hp} {M : Mp} (m : RepM K H M) : ∀ {ds : List D} {ps : List PyData} {vs : List V}, PyOfs M ds ps → Reps K H vs ds → DpAll K H vs ps
  | _, _, _, .nil, .nil => .nil
  | _, _, _, .cons h t, .cons r s => .cons (PyOf.dp m h r) (PyOfs.dp m t s)
end
def scalEq : D → D → Option Bool
  | .non, .non => some true
  | .non, .int _ => some false | .int _, .non => some false | .non, .bl _ => some false | .bl _, .non => some false | .non, .str _ => some false | .str _, .non => some false
  | .int i, .int j => some (decide (i = j)) | .bl i, .bl j => some (decide (i = j)) | .str i, .str j => some (decide (i = j))
  | .int _, .str _ => some false | .str _, .int _ => some false | .bl _, .str _ => some false | .str _, .bl _ => some false
  | _, _ => none
theorem scalEq_ok {K : PySem.W.Frag} {H : Hp} {x y : D} {vx vy : V} {b : Bool} (h : scalEq x y = some b) (rx : Rep K H vx x) (ry : Rep K H vy y) : scal vx vy = true ∧ decide (vx = vy) = b := by
  cases rx <;> cases ry <;> first
    | (simp only [scalEq, Option.some.injEq] at h; subst h; exact ⟨rfl, by simp⟩)
    | (simp [scalEq] at h)
def fEq : F2 := fun x y M Q => (∃ b, scalEq x y = some b ∧ Q (.bl b) M) ∨ ∃ d e, PyOf M x d ∧ PyOf M y e ∧ SeqAt.shaped d = true ∧ SeqAt.shaped e = true ∧ Q (.bl (PyData.eqv d e)) M
def fNe : F2 := fun x y M Q => (∃ b, scalEq x y = some b ∧ Q (.bl (!b)) M) ∨ ∃ d e, PyOf M x d ∧ PyOf M y e ∧ SeqAt.shaped d = true ∧ SeqAt.shaped e = true ∧ Q (.bl (!PyData.eqv d e)) M
def rEqAll (K : PySem.W.Frag) : R2 := fun x y H Q => rEq x y H Q ∨ rEqD K x y H Q
def rNeAll (K : PySem.W.Frag) : R2 := fun x y H Q => rNe x y H Q ∨ rNeD K x y H Q
theorem lift_eq {K : PySem.W.Frag} : Lift2 K (rEqAll K) fEq := by
  rintro x y vx vy H M Q Qv q rx ry hm hc
  rcases q with ⟨b, e, q⟩ | ⟨d, e, hd, he, h1, h2, q⟩
  · obtain ⟨s, r⟩ := scalEq_ok e rx ry
    exact .inl ⟨s, by rw [r]; exact hc _ H _ M (.refl H) (.bl _) hm q⟩
  · exact .inr ⟨d, e, hd.dp hm rx, he.dp hm ry, h1, h2, hc _ H _ M (.refl H) (.bl _) hm q⟩
theorem lift_ne {K : PySem.W.Frag} : Lift2 K (rNeAll K) fNe := by
  rintro x y vx vy H M Q Qv q rx ry hm hc
  rcases q with ⟨b, e, q⟩ | ⟨d, e, hd, he, h1, h2, q⟩
  · obtain ⟨s, r⟩ := scalEq_ok e rx ry
    exact .inl ⟨s, by rw [r]; exact hc _ H _ M (.refl H) (.bl _) hm q⟩
  · exact .inr ⟨d, e, hd.dp hm rx, he.dp hm ry, h1, h2, hc _ H _ M (.refl H) (.bl _) hm q⟩
section
variable {X : Cx}
theorem o_eq (hu : X.A.units + 64 < cLine) : OpR X (compareOp .Eq) (rEqAll X.K) ∧ Lift2 X.K (rEqAll X.K) fEq := ⟨op_eq.or (op_eqD hu), lift_eq⟩
theorem o_ne (hu : X.A.units + 64 < cLine) : OpR X (compareOp .NotEq) (rNeAll X.K) ∧ Lift2 X.K (rNeAll X.K) fNe := ⟨op_ne.or (op_neD hu), lift_ne⟩
end
theorem fEq_s {x y : D} {b : Bool} {M : Mp} {Q : DQ} (h : scalEq x y = some b) (q : Q (.bl b) M) : fEq x y M Q := .inl ⟨b, h, q⟩
theorem fNe_s {x y : D} {b : Bool} {M : Mp} {Q : DQ} (h : scalEq x y = some b) (q : Q (.bl (!b)) M) : fNe x y M Q := .inl ⟨b, h, q⟩
theorem fEq_d {x y : D} {d e : PyData} {M : Mp} {Q : DQ} (hx : PyOf M x d) (hy : PyOf M y e) (h1 : SeqAt.shaped d = true) (h2 : SeqAt.shaped e = true) (q : Q (.bl (PyData.eqv d e)) M) : fEq x y M Q := .inr ⟨d, e, hx, hy, h1, h2, q⟩
theorem fNe_d {x y : D} {d e : PyData} {M : Mp} {Q : DQ} (hx : PyOf M x d) (hy : PyOf M y e) (h1 : SeqAt.shaped d = true) (h2 : SeqAt.shaped e = true) (q : Q (.bl (!PyData.eqv d e)) M) : fNe x y M Q := .inr ⟨d, e, hx, hy, h1, h2, q⟩

/-! ### is None, in -/
def isN : D → Bool
  | .non => true
  | _ => false
theorem isN_ok {K : PySem.W.Frag} {H : Hp} {x : D} {v : V} (r : Rep K H v x) : decide (v = .non) = isN x := by
  cases r <;> simp [isN]
def fIs : F2 := fun x y M Q => y = .non ∧ Q (.bl (isN x)) M
def fIsNot : F2 := fun x y M Q => y = .non ∧ Q (.bl (!isN x)) M
def rIsAll : R2 := fun x y H Q => y = .non ∧ Q (.bl (decide (x = .non))) H
def rIsNotAll : R2 := fun x y H Q => y = .non ∧ Q (.bl (!decide (x = .non))) H
theorem lift_is {K : PySem.W.Frag} : Lift2 K rIsAll fIs := by
  rintro x y vx vy H M Q Qv ⟨rfl, q⟩ rx ry hm hc
  cases ry
  exact ⟨rfl, by rw [isN_ok rx]; exact hc _ H _ M (.refl H) (.bl _) hm q⟩
theorem lift_isnot {K : PySem.W.Frag} : Lift2 K rIsNotAll fIsNot := by
  rintro x y vx vy H M Q Qv ⟨rfl, q⟩ rx ry hm hc
  cases ry
  exact ⟨rfl, by rw [isN_ok rx]; exact hc _ H _ M (.refl H) (.bl _) hm q⟩
theorem o_is {X : Cx} : OpR X (compareOp .Is) rIsAll ∧ Lift2 X.K rIsAll fIs := ⟨op_isN, lift_is⟩
theorem o_isnot {X : Cx} : OpR X (compareOp .IsNot) rIsNotAll ∧ Lift2 X.K rIsNotAll fIsNot := ⟨op_notN, lift_isnot⟩
theorem fIs_n {x : D} {M : Mp} {Q : DQ} (q : Q (.bl (isN x)) M) : fIs x .non M Q := ⟨rfl, q⟩
theorem fIsNot_n {x : D} {M : Mp} {Q : DQ} (q : Q (.bl (!isN x)) M) : fIsNot x .non M Q := ⟨rfl, q⟩
/-- the items of a list or a tuple -/
def Items (M : Mp) (y : D) (ds : List D) : Prop := y = .tup ds ∨ ∃ a, y = .ref a ∧ M a = some (.lst ds)
theorem Items.sq {K : PySem.W.Frag} {H : Hp} {M : Mp} {y : D} {ds : List D} {v : V} (h : Items M y ds) (r : Rep K H v y) (m : RepM K H M) : ∃ a xs, v = .ref a ∧ (SqL K H a xs ∨ SqT K H a xs) ∧ Reps K H xs ds := by
  rcases h with rfl | ⟨a, rfl, e⟩
  · cases r with
    | @tup a xs _ s rx => exact ⟨a, xs, rfl, .inr s, rx⟩
  · cases r
    obtain ⟨xs, h1, r⟩ := m a _ e
    exact ⟨a, xs, rfl, .inl (.of h1), r⟩
/-- an int among ints, a truth among truths, a sign in a text -/
def fIn (neg : Bool) : F2 := fun x y M Q => (∃ (i : Int) (ns : List Int), x = .int i ∧ Items M y (ns.map D.int) ∧ Q (.bl (if neg then !decide (i ∈ ns) else decide (i ∈ ns))) M) ∨
  (∃ (i : Bool) (ns : List Bool), x = .bl i ∧ Items M y (ns.map D.bl) ∧ Q (.bl (if neg then !decide (i ∈ ns) else decide (i ∈ ns))) M) ∨
  ∃ c z, x = .str ⟨#[c]⟩ ∧ y = .str z ∧ Q (.bl (if neg then !decide (c ∈ z.cps.toList) else decide (c ∈ z.cps.toList))) M
theorem inV_int (i : Int) : ∀ ns : List Int, inV (.int i) (ns.map V.int) = decide (i ∈ ns)
  | [] => rfl
  | n :: ns => by
    have h := inV_int i ns
    unfold inV at h ⊢
    rw [List.map_cons, List.any_cons, h]
    by_cases e : i = n
    · subst e; simp [eqV]
    · have e' : ¬ n = i := fun z => e z.symm
      simp [eqV, e, e']
theorem inV_bl (i : Bool) : ∀ ns : List Bool, inV (.bl i) (ns.map V.bl) = decide (i ∈ ns)
  | [] => rfl
  | n :: ns => by
    have h := inV_bl i ns
    unfold inV at h ⊢
    rw [List.map_cons, List.any_cons, h]
    cases i <;> cases n <;> simp [eqV]
theorem flat_ints (ns : List Int) : (ns.map V.int).all flatV = true := by simp [flatV]
theorem flat_bls (ns : List Bool) : (ns.map V.bl).all flatV = true := by simp [flatV]
def rInAll (K : PySem.W.Frag) (neg : Bool) : R2 := fun x y H Q => rIn K neg x y H Q ∨ ∃ (c : Nat) (z : Str), x = .str ⟨#[c]⟩ ∧ y = .str z ∧ Q (.bl (if neg then !decide (c ∈ z.cps.toList) else decide (c ∈ z.cps.toList))) H
theorem lift_in {K : PySem.W.Frag} {neg : Bool} : Lift2 K (rInAll K neg) (fIn neg) := by
  rintro x y vx vy H M Q Qv q rx ry hm hc
  rcases q with ⟨i, ns, rfl, hy, q⟩ | ⟨i, ns, rfl, hy, q⟩ | ⟨c, z, rfl, rfl, q⟩
  · cases rx
    obtain ⟨a, xs, rfl, h, r⟩ := hy.sq ry hm
    have e := r.ints
    subst e
    refine .inl ⟨a, _, rfl, h, rfl, flat_ints _, ?_⟩
    rw [inV_int]
    exact hc _ H _ M (.refl H) (.bl _) hm q
  · cases rx
    obtain ⟨a, xs, rfl, h, r⟩ := hy.sq ry hm
    have e := r.bls
    subst e
    refine .inl ⟨a, _, rfl, h, rfl, flat_bls _, ?_⟩
    rw [inV_bl]
    exact hc _ H _ M (.refl H) (.bl _) hm q
  · cases rx; cases ry
    exact .inr ⟨c, z, rfl, rfl, hc _ H _ M (.refl H) (.bl _) hm q⟩
theorem o_in {X : Cx} : OpR X (compareOp .In) (rInAll X.K false) ∧ Lift2 X.K (rInAll X.K false) (fIn false) := ⟨op_in_seq.or op_in_sign, lift_in⟩
theorem o_notin {X : Cx} : OpR X (compareOp .NotIn) (rInAll X.K true) ∧ Lift2 X.K (rInAll X.K true) (fIn true) := ⟨op_notIn_seq.or op_notIn_sign, lift_in⟩

/-! ### a negative number, a chain of two comparisons -/
def fNeg : D → Mp → DQ → Prop := fun x M Q => ∃ i, x = .int i ∧ Q (.int (-i)) M
def rUn (f : D → Mp → DQ → Prop) (t : RE) : RE := fun δ M Q E => t δ M (fun x M1 => f x M1 Q) E
theorem je_neg {X : Cx} {a : Expr} {ta : RE} {pos : Pos} (ha : JE X a ta) : JE X (.UnaryOp .USub a pos) (rUn fNeg ta) := by
  refine ⟨fun δ M Q E σ H Qv q hs hm hc hx => wpE_of (pe_un un_neg pe_wp) ?_⟩
  refine ha.run δ M _ E σ H _ q hs hm (fun v H1 x M1 k1 r1 m1 q1 => ?_) hx
  obtain ⟨i, rfl, q1⟩ := q1
  cases r1
  exact ⟨i, rfl, hc _ H1 _ M1 k1 (.int _) m1 q1⟩
def rChain (f g : F2) (ta tb tc : RE) : RE := fun δ M Q E => ta δ M (fun x M1 => tb δ M1 (fun y M2 => f x y M2 (fun z M3 => isBl z fun c => br c (tc δ M3 (fun w M4 => g y w M4 Q) E) (Q (.bl false) M3))) E) E
theorem je_chain {X : Cx} {a b c : Expr} {ta tb tc : RE} {op op' : CmpOp} {r r' : R2} {f g : F2} {pos : Pos} (l : OpR X (compareOp op) r ∧ Lift2 X.K r f) (l' : OpR X (compareOp op') r' ∧ Lift2 X.K r' g) (ha : JE X a ta) (hb : JE X b tb) (hc : JE X c tc)
    (hm : lastMarks [op, op'] [b, c] = false := by with_unfolding_all rfl) : JE X (.Compare a [op, op'] [b, c] pos) (rChain f g ta tb tc) := by
  refine ⟨fun δ M Q E σ H Qv q hs hm' hq hx => wpE_of (pe_chain l.1 l'.1 pe_wp pe_wp pe_wp hm) ?_⟩
  refine ha.run δ M _ E σ H _ q hs hm' (fun vx H1 x M1 k1 rx m1 q1 => ?_) hx
  refine hb.run δ M1 _ E σ H1 _ q1 (hs.keep k1) m1 (fun vy H2 y M2 k2 ry m2 q2 => ?_) (hx.keep k1)
  refine l.2 x y vx vy H2 M2 _ _ q2 (rx.keep k2) ry m2 fun v H3 d M3 k3 r3 m3 q3 => ?_
  obtain ⟨k, rfl, q3⟩ := isBl_at q3
  cases r3
  refine ⟨k, rfl, ?_⟩
  have k13 := (k1.trans k2).trans k3
  cases k with
  | false => exact hq _ H3 _ M3 k13 (.bl false) m3 q3
  | true =>
    refine hc.run δ M3 _ E σ H3 _ q3 (hs.keep k13) m3 (fun vw H4 w M4 k4 rw m4 q4 => ?_) (hx.keep k13)
    exact l'.2 y w vy vw H4 M4 Q Qv q4 ((ry.keep k3).keep k4) rw m4 (hq.keep (k13.trans k4))
end Tal
set_option maxHeartbeats 4000000
namespace Tal
open PySem PySem.Spec PyProof.Rows L2

/-! ### arguments, tuples, lists -/
def rNil : RA := fun _ M Q _ => Q [] M
def rCons (t : RE) (u : RA) : RA := fun δ M Q E => t δ M (fun x M1 => u δ M1 (fun xs M2 => Q (x :: xs) M2) E) E
section
variable {X : Cx} {e : Expr} {es : List Expr} {te : RE} {t : RA} {pos : Pos}
theorem ja_nil : JA X [] rNil := ⟨fun δ M Q E σ H Qv q hs hm hc hx => wpA_of pa_nil (hc [] H [] M rfl (.refl H) .nil hm q)⟩
theorem ja_cons (h : JE X e te) (k : JA X es t) (hst : starEach (e :: es) X.env = (false, eval e X.env) :: starEach es X.env := by rfl) : JA X (e :: es) (rCons te t) := by
  refine ⟨fun δ M Q E σ H Qv q hs hm hc hx => wpA_of (pa_cons pe_wp pa_wp hst) ?_⟩
  refine h.run δ M _ E σ H _ q hs hm (fun v H1 x M1 k1 r1 m1 q1 => ?_) hx
  refine k.run δ M1 _ E σ H1 _ q1 (hs.keep k1) m1 (fun vs H2 ds M2 l k2 r2 m2 q2 => ?_) (hx.keep k1)
  exact hc _ H2 _ M2 (by rw [List.length_cons, List.length_cons, l]) (k1.trans k2) (.cons (r1.keep k2) r2) m2 q2
def rTup (t : RA) : RE := fun δ M Q E => t δ M (fun ds M1 => Q (.tup ds) M1) E
def rLst (t : RA) : RE := fun δ M Q E => t δ M (fun ds M1 => ∀ p, M1 p = none → Q (.ref p) (mup M1 p (.lst ds))) E
theorem len1000 {n : Nat} (h : Nat.ble n 1000 = true) : n ≤ sizeLine := by
  have h1 := Nat.le_of_ble_eq_true h
  rw [sizeLine_eq]; omega
theorem je_tup {x1 : Nat} (h : JA X es t) (hn : Nat.ble es.length 1000 = true := by rfl) : JE X (.Tuple es x1 pos) (rTup t) := by
  refine ⟨fun δ M Q E σ H Qv q hs hm hc hx => wpE_of (pe_tup pa_wp) ?_⟩
  refine h.run δ M _ E σ H _ q hs hm (fun vs H1 ds M1 l k1 r1 m1 q1 => ⟨by rw [r1.length, l]; exact len1000 hn, fun p n => ?_⟩) hx
  exact hc _ _ _ M1 (k1.trans (.new n)) (rep_new r1 n) (m1.skip n) q1
theorem je_lst (h : JA X es t) (hn : Nat.ble es.length 1000 = true := by rfl) : JE X (.List es pos) (rLst t) := by
  refine ⟨fun δ M Q E σ H Qv q hs hm hc hx => wpE_of (pe_lst pa_wp) ?_⟩
  refine h.run δ M _ E σ H _ q hs hm (fun vs H1 ds M1 l k1 r1 m1 q1 => ⟨by rw [r1.length, l]; exact len1000 hn, fun p n => ?_⟩) hx
  exact hc _ _ _ _ (k1.trans (.new n)) (.ref p) (m1.add n (repO_new r1 n)) (q1 p (m1.free n))
end

/-! ### constants of the module, built-in names -/
section
variable {X : Cx} {pos : Pos}
theorem je_glob {x : Str} {v : V} {d : D} {u : Value} (hg : Gl X x) (hm : X.mg x = some u) (r : RelV v u) (z : ∀ H, Rep X.K H v d) (hd : (x == ("__debug__" : Str)) = false := by decide) : JE X (.Name x pos) (rC d) := je_of (pe_glob hg hm r hd) z
theorem je_ty {x : Str} {n : String} (hg : Gl X x) (hm : X.mg x = none) (hv : bootBuiltins x = some (.type n)) (hn : x ≠ "__name__" := by decide) (hd : (x == ("__debug__" : Str)) = false := by decide) : JE X (.Name x pos) (rC (.ty n)) :=
  je_of (v := .ty n) (pe_bltn hg hm hv rfl hn hd) fun _ => .ty n
end

/-! ### calls of built-in functions -/
abbrev FC := List D → Mp → DQ → Prop
def rCB (f : FC) (t : RA) : RE := fun δ M Q E => t δ M (fun ds M1 => f ds M1 Q) E
def LiftC (K : PySem.W.Frag) (r : List V → Hp → VK → Prop) (f : FC) : Prop := ∀ ds vs H M Q Qv, f ds M Q → Reps K H vs ds → RepM K H M → Cont K H Q Qv → r vs H Qv
section
variable {X : Cx} {x : Str} {e : Expr} {es : List Expr} {t : RA} {id T : String} {r : List V → Hp → VK → Prop} {f : FC} {p pos : Pos}
theorem je_callB (l : CallR X (.builtin id) r ∧ LiftC X.K r f) (hg : Gl X x) (hm : X.mg x = none) (hv : bootBuiltins x = some (.builtin id)) (ha : JA X (e :: es) t) (hn : x ≠ "__name__" := by decide) (hdb : (x == ("__debug__" : Str)) = false := by decide)
    (he : starEach (e :: es) X.env = (false, eval e X.env) :: starEach es X.env := by rfl) (hpl : (backTo pos (starEach es X.env)).any (·.1) = false := by rfl) : JE X (.Call (.Name x p) (e :: es) [] pos) (rCB f t) := by
  refine ⟨fun δ M Q E σ H Qv q hs hm' hc hx => wpE_of (pe_callB l.1 hg hm hv pa_wp hn hdb he hpl) ?_⟩
  exact ha.run δ M _ E σ H _ q hs hm' (fun vs H1 ds M1 _ k1 r1 m1 q1 => l.2 ds vs H1 M1 Q Qv q1 r1 m1 (hc.keep k1)) hx
theorem je_callTy (l : CallR X (.type T) r ∧ LiftC X.K r f) (hg : Gl X x) (hm : X.mg x = none) (hv : bootBuiltins x = some (.type T)) (ha : JA X (e :: es) t) (hn : x ≠ "__name__" := by decide) (hdb : (x == ("__debug__" : Str)) = false := by decide)
    (he : starEach (e :: es) X.env = (false, eval e X.env) :: starEach es X.env := by rfl) (hpl : (backTo pos (starEach es X.env)).any (·.1) = false := by rfl) : JE X (.Call (.Name x p) (e :: es) [] pos) (rCB f t) := by
  refine ⟨fun δ M Q E σ H Qv q hs hm' hc hx => wpE_of (pe_callTy l.1 hg hm hv pa_wp hn hdb he hpl) ?_⟩
  exact ha.run δ M _ E σ H _ q hs hm' (fun vs H1 ds M1 _ k1 r1 m1 q1 => l.2 ds vs H1 M1 Q Qv q1 r1 m1 (hc.keep k1)) hx
end
theorem reps1 {K : PySem.W.Frag} {H : Hp} {vs : List V} {d : D} (r : Reps K H vs [d]) : ∃ v, vs = [v] ∧ Rep K H v d := by
  cases r with
  | cons r t => cases t; exact ⟨_, rfl, r⟩
theorem reps2 {K : PySem.W.Frag} {H : Hp} {vs : List V} {d e : D} (r : Reps K H vs [d, e]) : ∃ v w, vs = [v, w] ∧ Rep K H v d ∧ Rep K H w e := by
  cases r with
  | cons r t =>
    obtain ⟨w, rfl, z⟩ := reps1 t
    exact ⟨_, _, rfl, r, z⟩
/-- len -/
def fLen : FC := fun ds M Q => (∃ y xs, ds = [y] ∧ Items M y xs ∧ Q (.int xs.length) M) ∨ ∃ z, ds = [.str z] ∧ z.length ≤ sizeLine ∧ Q (.int z.length) M
def rLenV (K : PySem.W.Frag) : List V → Hp → VK → Prop := fun xs H Q => ∃ x n, xs = [x] ∧ LenV K x H n ∧ Q (.int n) H
theorem o_len {X : Cx} : CallR X (.builtin "len") (rLenV X.K) ∧ LiftC X.K (rLenV X.K) fLen := by
  refine ⟨call_len, ?_⟩
  rintro ds vs H M Q Qv (⟨y, xs, rfl, hy, q⟩ | ⟨z, rfl, hz, q⟩) r hm hc
  · obtain ⟨v, rfl, r1⟩ := reps1 r
    obtain ⟨a, ys, rfl, h, ry⟩ := hy.sq r1 hm
    refine ⟨_, xs.length, rfl, ?_, hc _ H _ M (.refl H) (.int _) hm q⟩
    rcases h with h | h
    · exact .inl ⟨ys, h, ry.length.symm⟩
    · exact .inr ⟨ys, h, ry.length.symm⟩
  · obtain ⟨v, rfl, r1⟩ := reps1 r
    cases r1
    exact ⟨_, z.length, rfl, ⟨hz, rfl⟩, hc _ H _ M (.refl H) (.int _) hm q⟩
theorem fLen_tup {xs : List D} {M : Mp} {Q : DQ} (q : Q (.int xs.length) M) : fLen [.tup xs] M Q := .inl ⟨_, xs, rfl, .inl rfl, q⟩
theorem fLen_lst {a : Addr} {xs : List D} {M : Mp} {Q : DQ} (h : M a = some (.lst xs)) (q : Q (.int xs.length) M) : fLen [.ref a] M Q := .inl ⟨_, xs, rfl, .inr ⟨a, rfl, h⟩, q⟩
theorem fLen_str {z : Str} {M : Mp} {Q : DQ} (h : z.length ≤ sizeLine) (q : Q (.int z.length) M) : fLen [.str z] M Q := .inr ⟨z, rfl, h, q⟩
/-- max, min of two ints -/
def fMax2 : FC := fun ds M Q => ∃ i j, ds = [.int i, .int j] ∧ Q (.int (max i j)) M
def fMin2 : FC := fun ds M Q => ∃ i j, ds = [.int i, .int j] ∧ Q (.int (min i j)) M
theorem max_if (i j : Int) : (if j > i then j else i) = max i j := by
  by_cases h : j > i
  · rw [if_pos h]; omega
  · rw [if_neg h]; omega
theorem min_if (i j : Int) : (if j < i then j else i) = min i j := by
  by_cases h : j < i
  · rw [if_pos h]; omega
  · rw [if_neg h]; omega
theorem o_max2 {X : Cx} (hc : X.calm = true) : CallR X (.builtin "max") (fun xs H Q => ∃ i j, xs = [.int i, .int j] ∧ Q (.int (if j > i then j else i)) H) ∧ LiftC X.K (fun xs H Q => ∃ i j, xs = [.int i, .int j] ∧ Q (.int (if j > i then j else i)) H) fMax2 := by
  refine ⟨call_max2 hc, ?_⟩
  rintro ds vs H M Q Qv ⟨i, j, rfl, q⟩ r hm hc
  obtain ⟨v, w, rfl, r1, r2⟩ := reps2 r
  cases r1; cases r2
  exact ⟨i, j, rfl, by rw [max_if]; exact hc _ H _ M (.refl H) (.int _) hm q⟩
theorem o_min2 {X : Cx} (hc : X.calm = true) : CallR X (.builtin "min") (fun xs H Q => ∃ i j, xs = [.int i, .int j] ∧ Q (.int (if j < i then j else i)) H) ∧ LiftC X.K (fun xs H Q => ∃ i j, xs = [.int i, .int j] ∧ Q (.int (if j < i then j else i)) H) fMin2 := by
  refine ⟨call_min2 hc, ?_⟩
  rintro ds vs H M Q Qv ⟨i, j, rfl, q⟩ r hm hc
  obtain ⟨v, w, rfl, r1, r2⟩ := reps2 r
  cases r1; cases r2
  exact ⟨i, j, rfl, by rw [min_if]; exact hc _ H _ M (.refl H) (.int _) hm q⟩
theorem fMax2_i {i j : Int} {M : Mp} {Q : DQ} (q : Q (.int (max i j)) M) : fMax2 [.int i, .int j] M Q := ⟨i, j, rfl, q⟩
theorem fMin2_i {i j : Int} {M : Mp} {Q : DQ} (q : Q (.int (min i j)) M) : fMin2 [.int i, .int j] M Q := ⟨i, j, rfl, q⟩
/-- max, min of a list of ints -/
def fMaxL : FC := fun ds M Q => ∃ (a : Addr) (ns : List Int), ds = [.ref a] ∧ M a = some (.lst (ns.map D.int)) ∧ 0 < ns.length ∧ ∀ m, m ∈ ns → (∀ y, y ∈ ns → y ≤ m) → Q (.int m) M
def fMinL : FC := fun ds M Q => ∃ (a : Addr) (ns : List Int), ds = [.ref a] ∧ M a = some (.lst (ns.map D.int)) ∧ 0 < ns.length ∧ ∀ m, m ∈ ns → (∀ y, y ∈ ns → m ≤ y) → Q (.int m) M
theorem intsAt {K : PySem.W.Frag} {H : Hp} {M : Mp} {a : Addr} {ns : List Int} (m : RepM K H M) (h : M a = some (.lst (ns.map D.int))) : SqL K H a (ns.map V.int) := by
  obtain ⟨xs, e, r⟩ := m a _ h
  rw [← r.ints]; exact .of e
theorem o_maxL {X : Cx} (hc : X.calm = true) : CallR X (.builtin "max") (rMax X.K) ∧ LiftC X.K (rMax X.K) fMaxL := by
  refine ⟨cr_max hc, ?_⟩
  rintro ds vs H M Q Qv ⟨a, ns, rfl, ha, h0, q⟩ r hm hc
  obtain ⟨v, rfl, r1⟩ := reps1 r
  cases r1
  exact ⟨a, ns, rfl, intsAt hm ha, h0, fun m h1 h2 => hc _ H _ M (.refl H) (.int _) hm (q m h1 h2)⟩
theorem o_minL {X : Cx} (hc : X.calm = true) : CallR X (.builtin "min") (rMin X.K) ∧ LiftC X.K (rMin X.K) fMinL := by
  refine ⟨cr_min hc, ?_⟩
  rintro ds vs H M Q Qv ⟨a, ns, rfl, ha, h0, q⟩ r hm hc
  obtain ⟨v, rfl, r1⟩ := reps1 r
  cases r1
  exact ⟨a, ns, rfl, intsAt hm ha, h0, fun m h1 h2 => hc _ H _ M (.refl H) (.int _) hm (q m h1 h2)⟩
/-- all of a list of truths -/
def fAll : FC := fun ds M Q => ∃ (a : Addr) (bs : List Bool), ds = [.ref a] ∧ M a = some (.lst (bs.map D.bl)) ∧ Q (.bl (bs.all id)) M
theorem o_all {X : Cx} (hc : X.calm = true) : CallR X (.builtin "all") (rAll X.K) ∧ LiftC X.K (rAll X.K) fAll := by
  refine ⟨cr_all hc, ?_⟩
  rintro ds vs H M Q Qv ⟨a, bs, rfl, ha, q⟩ r hm hc
  obtain ⟨v, rfl, r1⟩ := reps1 r
  cases r1
  obtain ⟨xs, e, r⟩ := hm a _ ha
  exact ⟨a, bs, rfl, by rw [← r.bls]; exact .of e, hc _ H _ M (.refl H) (.bl _) hm q⟩
theorem fAll_i {a : Addr} {bs : List Bool} {M : Mp} {Q : DQ} (h : M a = some (.lst (bs.map D.bl))) (q : Q (.bl (bs.all id)) M) : fAll [.ref a] M Q := ⟨a, bs, rfl, h, q⟩
/-- int of a truth -/
def fInt : FC := fun ds M Q => ∃ b, ds = [.bl b] ∧ Q (.int (if b = true then 1 else 0)) M
def rInt1 : List V → Hp → VK → Prop := fun xs H Q => (∃ i, xs = [.int i] ∧ Q (.int i) H) ∨ ∃ k, xs = [.bl k] ∧ Q (.int (if k then 1 else 0)) H
theorem o_int {X : Cx} : CallR X (.type "int") rInt1 ∧ LiftC X.K rInt1 fInt := by
  refine ⟨call_int1, ?_⟩
  rintro ds vs H M Q Qv ⟨b, rfl, q⟩ r hm hc
  obtain ⟨v, rfl, r1⟩ := reps1 r
  cases r1
  exact .inr ⟨b, rfl, hc _ H _ M (.refl H) (.int _) hm q⟩
theorem fInt_i {b : Bool} {M : Mp} {Q : DQ} (q : Q (.int (if b = true then 1 else 0)) M) : fInt [.bl b] M Q := ⟨b, rfl, q⟩
/-- tuple, list of a list -/
def fTupOf : FC := fun ds M Q => ∃ a xs, ds = [.ref a] ∧ M a = some (.lst xs) ∧ Q (.tup xs) M
def rTupOf (K : PySem.W.Frag) : List V → Hp → VK → Prop := fun xs H Q => ∃ p ys, xs = [.ref p] ∧ ((SqL K H p ys ∧ ∀ l, H l = none → Q (.ref l) (upd H l (.tup ys))) ∨ (SqT K H p ys ∧ Q (.ref p) H))
theorem o_tupOf {X : Cx} : CallR X (.type "tuple") (rTupOf X.K) ∧ LiftC X.K (rTupOf X.K) fTupOf := by
  refine ⟨call_tuple_of, ?_⟩
  rintro ds vs H M Q Qv ⟨a, xs, rfl, ha, q⟩ r hm hc
  obtain ⟨v, rfl, r1⟩ := reps1 r
  cases r1
  obtain ⟨ys, e, r⟩ := hm a _ ha
  exact ⟨a, ys, rfl, .inl ⟨.of e, fun l n => hc _ _ _ M (.new n) (rep_new r n) (hm.skip n) q⟩⟩
theorem fTupOf_i {a : Addr} {xs : List D} {M : Mp} {Q : DQ} (h : M a = some (.lst xs)) (q : Q (.tup xs) M) : fTupOf [.ref a] M Q := ⟨a, xs, rfl, h, q⟩
def fLstOf : FC := fun ds M Q => ∃ a xs, ds = [.ref a] ∧ M a = some (.lst xs) ∧ ∀ p, M p = none → Q (.ref p) (mup M p (.lst xs))
def rLstOf (K : PySem.W.Frag) : List V → Hp → VK → Prop := fun xs H Q => ∃ p ys, xs = [.ref p] ∧ (SqL K H p ys ∨ SqT K H p ys) ∧ ∀ l, H l = none → Q (.ref l) (upd H l (.lst ys))
theorem o_lstOf {X : Cx} : CallR X (.type "list") (rLstOf X.K) ∧ LiftC X.K (rLstOf X.K) fLstOf := by
  refine ⟨call_list_of, ?_⟩
  rintro ds vs H M Q Qv ⟨a, xs, rfl, ha, q⟩ r hm hc
  obtain ⟨v, rfl, r1⟩ := reps1 r
  cases r1
  obtain ⟨ys, e, r⟩ := hm a _ ha
  exact ⟨a, ys, rfl, .inl (.of e), fun l n => hc _ _ _ _ (.new n) (.ref l) (hm.add n (repO_new r n)) (q l (hm.free n))⟩
theorem fLstOf_i {a : Addr} {xs : List D} {M : Mp} {Q : DQ} (h : M a = some (.lst xs)) (q : ∀ p, M p = none → Q (.ref p) (mup M p (.lst xs))) : fLstOf [.ref a] M Q := ⟨a, xs, rfl, h, q⟩

/-! ### isinstance -/
inductive Ty where
  | non | bl | int | str | tup | lst
  deriving DecidableEq
def Ty.name : Ty → String
  | .non => "NoneType" | .bl => "bool" | .int => "int" | .str => "str" | .tup => "tuple" | .lst => "list"
def Ty.isa (t n : Ty) : Bool := decide (t = n) || (decide (t = .bl) && decide (n = .int))
theorem Ty.kit (t n : Ty) (h : n ≠ .non) : kitB t.name n.name = some (t.isa n) := by
  cases n <;> first
    | exact absurd rfl h
    | (cases t <;> decide +kernel)
inductive TyD (M : Mp) : D → Ty → Prop
  | non : TyD M .non .non
  | bl {b : Bool} : TyD M (.bl b) .bl
  | int {i : Int} : TyD M (.int i) .int
  | str {x : Str} : TyD M (.str x) .str
  | tup {ds : List D} : TyD M (.tup ds) .tup
  | lst {a : Addr} {ds : List D} (h : M a = some (.lst ds)) : TyD M (.ref a) .lst
theorem TyD.ok {K : PySem.W.Frag} {H : Hp} {M : Mp} {x : D} {t : Ty} {v : V} (h : TyD M x t) (r : Rep K H v x) (m : RepM K H M) : TyX K H v (.type t.name) := by
  cases h with
  | non => cases r; exact .base .non
  | bl => cases r; exact .base (.bl _)
  | int => cases r; exact .base (.int _)
  | str => cases r; exact .base (.str _)
  | tup =>
    cases r with
    | @tup a xs _ s _ =>
      rcases s with (s | ⟨o, s⟩) | ⟨o, its, n, s, c, _⟩
      · exact .base (.tup s)
      · exact .fTuple s
      · exact .kTuple s c
  | lst h =>
    cases r
    obtain ⟨xs, e, _⟩ := m _ _ h
    exact .base (.lst e)
def fIsi : FC := fun ds M Q => ∃ x t n, ds = [x, .ty (Ty.name n)] ∧ n ≠ .non ∧ TyD M x t ∧ Q (.bl (t.isa n)) M
theorem o_isi {X : Cx} : CallR X (.builtin "isinstance") (rIsi X.K) ∧ LiftC X.K (rIsi X.K) fIsi := by
  refine ⟨call_isi, ?_⟩
  rintro ds vs H M Q Qv ⟨x, t, n, rfl, hn, ht, q⟩ r hm hc
  obtain ⟨v, w, rfl, r1, r2⟩ := reps2 r
  cases r2
  exact ⟨v, _, _, _, _, rfl, .ty _, ht.ok r1 hm, kit_ty (Ty.kit t n hn), hc _ H _ M (.refl H) (.bl _) hm q⟩
theorem fIsi_i {x : D} {t : Ty} (n : Ty) {M : Mp} {Q : DQ} (h : TyD M x t) (q : Q (.bl (t.isa n)) M) (hn : n ≠ .non := by decide) : fIsi [x, .ty n.name] M Q := ⟨x, t, n, rfl, hn, h, q⟩
/-- isinstance(x, (T1, T2)) -/
def rIsi2 (n1 n2 : Ty) (t : RE) : RE := fun δ M Q E => t δ M (fun x M1 => ∃ k, TyD M1 x k ∧ Q (.bl (k.isa n1 || k.isa n2)) M1) E
theorem je_isi2 {X : Cx} {x y z : Str} {a : Expr} {ta : RE} {x1 : Nat} {p p1 p2 p3 pos : Pos} (n1 n2 : Ty) (h1 : n1 ≠ .non) (h2 : n2 ≠ .non) (hg : Gl X x) (hm : X.mg x = none) (hv : bootBuiltins x = some (.builtin "isinstance"))
    (g1 : Gl X y) (m1 : X.mg y = none) (v1 : bootBuiltins y = some (.type n1.name)) (g2 : Gl X z) (m2 : X.mg z = none) (v2 : bootBuiltins z = some (.type n2.name)) (ha : JE X a ta)
    (hn : x ≠ "__name__" := by decide) (hdb : (x == ("__debug__" : Str)) = false := by decide) (hny : y ≠ "__name__" := by decide) (hdy : (y == ("__debug__" : Str)) = false := by decide) (hnz : z ≠ "__name__" := by decide) (hdz : (z == ("__debug__" : Str)) = false := by decide)
    (he : starEach [a, .Tuple [.Name y p1, .Name z p2] x1 p3] X.env = (false, eval a X.env) :: starEach [.Tuple [.Name y p1, .Name z p2] x1 p3] X.env := by rfl) (hpl : (backTo pos (starEach [.Tuple [.Name y p1, .Name z p2] x1 p3] X.env)).any (·.1) = false := by rfl)
    (s1 : starEach [.Name y p1, .Name z p2] X.env = (false, eval (.Name y p1) X.env) :: starEach [.Name z p2] X.env := by rfl) (s2 : starEach [.Name z p2] X.env = (false, eval (.Name z p2) X.env) :: starEach [] X.env := by rfl)
    (s3 : starEach [.Tuple [.Name y p1, .Name z p2] x1 p3] X.env = (false, eval (.Tuple [.Name y p1, .Name z p2] x1 p3) X.env) :: starEach [] X.env := by rfl) :
    JE X (.Call (.Name x p) [a, .Tuple [.Name y p1, .Name z p2] x1 p3] [] pos) (rIsi2 n1 n2 ta) := by
  refine ⟨fun δ M Q E σ H Qv q hs hm' hc hx => wpE_of (pe_callB call_isiT hg hm hv (pa_cons pe_wp (pa_cons (pe_tup (pa_cons (pe_bltn (v := .ty n1.name) g1 m1 v1 rfl hny hdy) (pa_cons (pe_bltn (v := .ty n2.name) g2 m2 v2 rfl hnz hdz) pa_nil s2) s1)) pa_nil s3) he) hn hdb he hpl) ?_⟩
  refine ha.run δ M _ E σ H _ q hs hm' (fun v H1 d M1 k1 r1 mm q1 => ?_) hx
  obtain ⟨k, hk, q1⟩ := q1
  refine ⟨by show 2 ≤ sizeLine; rw [sizeLine_eq]; decide, fun tp nt => ⟨v, tp, _, _, _, _, rfl, upd_same, .cons (.ty _) (.cons (.ty _) .nil), hk.ok (r1.keep (.new nt)) (mm.skip nt), ?_, hc _ _ _ M1 (k1.trans (.new nt)) (.bl _) (mm.skip nt) q1⟩⟩
  refine kitAny_cons (kit_ty (Ty.kit k n1 h1)) (fun e => ?_) fun e => by rw [e]; rfl
  rw [e, Bool.false_or]
  refine kitAny_cons (kit_ty (Ty.kit k n2 h2)) (fun e => by rw [e]; exact kitAny_nil) fun e => e

/-! ### slices -/
abbrev RO := Dst → Mp → (Option Int → Mp → Prop) → XQ → Prop
def ContO (K : PySem.W.Frag) (H : Hp) (Q : Option Int → Mp → Prop) (Qv : Option Int → Hp → Prop) : Prop := ∀ o H' M', Keep H H' → RepM K H' M' → Q o M' → Qv o H'
def wpO (X : Cx) (e : Option Expr) : TO := fun σ H Q => ∀ pins s, Inv X pins σ H s → wpAny (model X.prog X.w) X.A (evalPart e X.env) (fun u s' => ∃ o H', Inv X pins σ H' s' ∧ IsPart u o ∧ Q o H') X.xe s
theorem po_wp {X : Cx} {e : Option Expr} : PO X e (wpO X e) := ⟨fun pins s σ H Q I h => h pins s I⟩
theorem wpO_of {X : Cx} {e : Option Expr} {t : TO} (p : PO X e t) {σ : St} {H : Hp} {Q : Option Int → Hp → Prop} (h : t σ H Q) : wpO X e σ H Q := fun pins s I => p.run pins s σ H Q I h
structure JO (X : Cx) (e : Option Expr) (t : RO) : Prop where
  run : ∀ δ M Q E σ H Qv, t δ M Q E → RepS X.K H σ δ → RepM X.K H M → ContO X.K H Q Qv → ContX X H E → wpO X e σ H Qv
def rNoPart : RO := fun _ M Q _ => Q none M
def isInt (x : D) (k : Int → Prop) : Prop := match x with
  | .int i => k i
  | _ => False
theorem isInt_at {x : D} {k : Int → Prop} (h : isInt x k) : ∃ c, x = .int c ∧ k c := by
  unfold isInt at h
  split at h
  · exact ⟨_, rfl, h⟩
  · exact h.elim
def rPart (t : RE) : RO := fun δ M Q E => t δ M (fun x M1 => isInt x fun i => Q (some i) M1) E
theorem jo_none {X : Cx} : JO X none rNoPart := ⟨fun δ M Q E σ H Qv q hs hm hc hx => wpO_of po_none (hc none H M (.refl H) hm q)⟩
theorem jo_some {X : Cx} {e : Expr} {t : RE} (h : JE X e t) : JO X (some e) (rPart t) := by
  refine ⟨fun δ M Q E σ H Qv q hs hm hc hx => wpO_of (po_some pe_wp) ?_⟩
  refine h.run δ M _ E σ H _ q hs hm (fun v H1 x M1 k1 r1 m1 q1 => ?_) hx
  obtain ⟨i, rfl, q1⟩ := isInt_at q1
  cases r1
  exact ⟨i, rfl, hc _ H1 M1 k1 m1 q1⟩
/-- the items from lo to hi -/
def cutD (xs : List D) (lo hi : Option Int) : List D := (xs.drop (HT.sIx xs.length 0 lo)).take (HT.sIx xs.length xs.length hi - HT.sIx xs.length 0 lo)
theorem Reps.cut {K : PySem.W.Frag} {H : Hp} {vs : List V} {ds : List D} (r : Reps K H vs ds) (lo hi : Option Int) : Reps K H (cutV vs lo hi) (cutD ds lo hi) := by
  unfold cutV cutD
  rw [r.length]
  exact (r.drop _).take _
def fSl (x : D) (lo hi : Option Int) (M : Mp) (Q : DQ) : Prop := (∃ ds, x = .tup ds ∧ Q (.tup (cutD ds lo hi)) M) ∨ (∃ a ds, x = .ref a ∧ M a = some (.lst ds) ∧ ∀ p, M p = none → Q (.ref p) (mup M p (.lst (cutD ds lo hi)))) ∨
  ∃ z, x = .str z ∧ z.length ≤ sizeLine ∧ Q (.str (cutS z lo hi)) M
def gSl (x : D) (lo hi : Option Int) (M : Mp) (Q : DQ) : Prop := match x with
  | .tup ds => Q (.tup (cutD ds lo hi)) M
  | .ref a => ∃ ds, M a = some (.lst ds) ∧ ∀ p, M p = none → Q (.ref p) (mup M p (.lst (cutD ds lo hi)))
  | .str z => z.length ≤ sizeLine ∧ Q (.str (cutS z lo hi)) M
  | _ => False
theorem gSl_at {x : D} {lo hi : Option Int} {M : Mp} {Q : DQ} (h : gSl x lo hi M Q) : fSl x lo hi M Q := by
  unfold gSl at h
  split at h
  · exact .inl ⟨_, rfl, h⟩
  · obtain ⟨ds, h1, h2⟩ := h; exact .inr (.inl ⟨_, ds, rfl, h1, h2⟩)
  · exact .inr (.inr ⟨_, rfl, h.1, h.2⟩)
  · exact h.elim
def rSlD (t : RE) (u v : RO) : RE := fun δ M Q E => t δ M (fun x M1 => u δ M1 (fun lo M2 => v δ M2 (fun hi M3 => gSl x lo hi M3 Q) E) E) E
theorem cut_whole {ds : List D} {lo hi : Option Int} (h : HT.sIx ds.length 0 lo = 0 ∧ HT.sIx ds.length ds.length hi = ds.length) : cutD ds lo hi = ds := by
  unfold cutD
  rw [h.1, h.2]
  simp
theorem je_slice {X : Cx} {e : Expr} {lo hi : Option Expr} {te : RE} {tl th : RO} {pos p2 : Pos} (he : JE X e te) (hl : JO X lo tl) (hh : JO X hi th) : JE X (.Subscript e (.Slice lo hi none p2) pos) (rSlD te tl th) := by
  refine ⟨fun δ M Q E σ H Qv q hs hm hc hx => wpE_of (pe_slice (sl_tupA.or (sl_list.or sl_str)) pe_wp po_wp po_wp) ?_⟩
  refine he.run δ M _ E σ H _ q hs hm (fun v H1 x M1 k1 r1 m1 q1 => ?_) hx
  refine hl.run δ M1 _ E σ H1 _ q1 (hs.keep k1) m1 (fun l H2 M2 k2 m2 q2 => ?_) (hx.keep k1)
  refine hh.run δ M2 _ E σ H2 _ q2 (hs.keep (k1.trans k2)) m2 (fun u H3 M3 k3 m3 q3 => ?_) (hx.keep (k1.trans k2))
  have k13 := (k1.trans k2).trans k3
  have r3 := r1.keep (k2.trans k3)
  rcases gSl_at q3 with ⟨ds, rfl, q⟩ | ⟨a, ds, rfl, ha, q⟩ | ⟨z, rfl, hz, q⟩
  · cases r3 with
    | @tup a xs _ s rx =>
      refine .inl ⟨a, xs, rfl, s, fun w => ?_, fun w p n => ?_⟩
      · rw [rx.length] at w
        rw [cut_whole w] at q
        exact hc _ H3 _ M3 k13 (.tup s rx) m3 q
      · exact hc _ _ _ M3 (k13.trans (.new n)) (rep_new (rx.cut l u) n) (m3.skip n) q
  · cases r3
    obtain ⟨xs, e, rx⟩ := m3 a _ ha
    exact .inr (.inl ⟨a, xs, rfl, .of e, fun p n => hc _ _ _ _ (k13.trans (.new n)) (.ref p) (m3.add n (repO_new (rx.cut l u) n)) (q p (m3.free n))⟩)
  · cases r3
    exact .inr (.inr ⟨z, rfl, hz, hc _ H3 _ M3 k13 (.str _) m3 q⟩)
theorem fSl_tup {ds : List D} {lo hi : Option Int} {M : Mp} {Q : DQ} (q : Q (.tup (cutD ds lo hi)) M) : fSl (.tup ds) lo hi M Q := .inl ⟨ds, rfl, q⟩
theorem fSl_lst {a : Addr} {ds : List D} {lo hi : Option Int} {M : Mp} {Q : DQ} (h : M a = some (.lst ds)) (q : ∀ p, M p = none → Q (.ref p) (mup M p (.lst (cutD ds lo hi)))) : fSl (.ref a) lo hi M Q := .inr (.inl ⟨a, ds, rfl, h, q⟩)
theorem fSl_str {z : Str} {lo hi : Option Int} {M : Mp} {Q : DQ} (h : z.length ≤ sizeLine) (q : Q (.str (cutS z lo hi)) M) : fSl (.str z) lo hi M Q := .inr (.inr ⟨z, rfl, h, q⟩)
end Tal
set_option maxHeartbeats 4000000
namespace Tal
open PySem PySem.Spec PyProof.Rows L2

/-! ### blocks -/
def rNext : RS := fun P δ M => P.nx δ M
def rSeq (t u : RS) : RS := fun P δ M => t { P with nx := fun δ' M' => u P δ' M' } δ M
def rSet (i : Nat) (t : RE) : RS := fun P δ M => t δ M (fun d M1 => P.nx (δ.set i (some d)) M1) P.ex
def rRet (t : RE) : RS := fun P δ M => t δ M P.rt P.ex
def rDrop (t : RE) : RS := fun P δ M => t δ M (fun _ M1 => P.nx δ M1) P.ex
def rIfS (c : RT) (t u : RS) : RS := fun P δ M => c δ M (fun b M1 => br b (t P δ M1) (u P δ M1)) P.ex
def rAsg (t : RE) (g : RG) : RS := fun P δ M => t δ M (fun d M1 => g d δ M1 P.nx P.ex) P.ex
section
variable {X : Cx} {e : Expr} {st : Stmt} {rest : List Stmt} {te : RE} {t u : RS} {pos : Pos}
theorem jb_nil : JB X [] rNext := ⟨fun δ M P σ H E q hs hm hc => wpB_of pss_nil (hc.nx σ H δ M (.refl H) hs hm q)⟩
theorem jb_cons (h : JS X st t) (k : JB X rest u) : JB X (st :: rest) (rSeq t u) := by
  refine ⟨fun δ M P σ H E q hs hm hc => wpB_of (pss_cons ps_wp pb_wp) ?_⟩
  exact h.run δ M { P with nx := fun δ' M' => u P δ' M' } σ H { E with nx := wpB X rest E } q hs hm
    ⟨fun σ' H' δ' M' k' s' m' q' => k.run δ' M' P σ' H' E q' s' m' (hc.keep k'), hc.rt, hc.bk, hc.ct, hc.ex⟩
theorem jb_one (h : JS X st t) : JB X [st] t := ⟨fun δ M P σ H E q hs hm hc => wpB_of (pss_one ps_wp) (h.run δ M P σ H E q hs hm hc)⟩
theorem js_set (i : Nat) {x : Str} {pos' : Pos} (hN : X.N.Nodup) (he : JE X e te) (hi : X.N[i]? = some x := by rfl) (hx : Loc X.env.scope x := by exact Or.inl rfl) (hs : swapsWith e (some (.Name x pos')) pos.line X.env = pure false := by rfl)
    (hf : X.fn x = true ∨ X.env.scope.names.lookup x = some .local := by first | exact .inl rfl | exact .inr rfl | assumption) : JS X (.Assign [.Name x pos'] e pos) (rSet i te) := by
  refine ⟨fun δ M P σ H E q hs' hm hc => wpS_of (ps_set hN hi hx pe_wp hs hf) ?_⟩
  exact he.run δ M _ _ σ H _ q hs' hm (fun v H1 d M1 k1 r1 m1 q1 => hc.nx _ H1 _ M1 k1 ((hs'.keep k1).set i r1) m1 q1) hc.ex
theorem js_ret (he : JE X e te) : JS X (.Return (some e) pos) (rRet te) := ⟨fun δ M P σ H E q hs hm hc => wpS_of (ps_ret pe_wp) (he.run δ M _ _ σ H _ q hs hm hc.rt hc.ex)⟩
theorem js_expr (he : JE X e te) (hs : swapsWith e none pos.line X.env = pure false := by rfl) : JS X (.Expr e pos) (rDrop te) :=
  ⟨fun δ M P σ H E q hs' hm hc => wpS_of (ps_expr pe_wp hs) (he.run δ M _ _ σ H _ q hs' hm (fun v H1 d M1 k1 _ m1 q1 => hc.nx σ H1 δ M1 k1 (hs'.keep k1) m1 q1) hc.ex)⟩
theorem js_if {c : Expr} {a b : List Stmt} {tc : RT} (h : JT X c tc) (ha : JB X a t) (hb : JB X b u) : JS X (.If c a b pos) (rIfS tc t u) := by
  refine ⟨fun δ M P σ H E q hs hm hc => wpS_of (ps_if pt_wp pb_wp pb_wp) ?_⟩
  refine h.run δ M _ _ σ H _ q hs hm (fun k H1 M1 k1 m1 q1 => ?_) hc.ex
  cases k with
  | true => exact ha.run δ M1 P σ H1 E q1 (hs.keep k1) m1 (hc.keep k1)
  | false => exact hb.run δ M1 P σ H1 E q1 (hs.keep k1) m1 (hc.keep k1)
end

/-! ### targets -/
def gnD (i : Nat) : RG := fun d δ M Q _ => Q (δ.set i (some d)) M
def gsNil : RGs := fun ds δ M Q _ => match ds with
  | [] => Q δ M
  | _ => False
def gsCons (t : RG) (u : RGs) : RGs := fun ds δ M Q E => match ds with
  | d :: r => t d δ M (fun δ' M' => u r δ' M' Q E) E
  | _ => False
def gtD (n : Nat) (t : RGs) : RG := fun d δ M Q E => match d with
  | .tup ds => ds.length = n ∧ t ds δ M Q E
  | _ => False
theorem gsNil_at {ds : List D} {δ : Dst} {M : Mp} {Q : Dst → Mp → Prop} {E : XQ} (h : gsNil ds δ M Q E) : ds = [] ∧ Q δ M := by
  unfold gsNil at h
  split at h
  · exact ⟨rfl, h⟩
  · exact h.elim
theorem gsCons_at {t : RG} {u : RGs} {ds : List D} {δ : Dst} {M : Mp} {Q : Dst → Mp → Prop} {E : XQ} (h : gsCons t u ds δ M Q E) : ∃ d r, ds = d :: r ∧ t d δ M (fun δ' M' => u r δ' M' Q E) E := by
  unfold gsCons at h
  split at h
  · exact ⟨_, _, rfl, h⟩
  · exact h.elim
theorem gtD_at {n : Nat} {t : RGs} {d : D} {δ : Dst} {M : Mp} {Q : Dst → Mp → Prop} {E : XQ} (h : gtD n t d δ M Q E) : ∃ ds, d = .tup ds ∧ ds.length = n ∧ t ds δ M Q E := by
  unfold gtD at h
  split at h
  · exact ⟨_, rfl, h.1, h.2⟩
  · exact h.elim
def gbD (to ti : RE) : RG := fun d δ M Q E => to δ M (fun o M1 => ti δ M1 (fun i M2 => ∃ a xs k j, o = .ref a ∧ i = .int k ∧ M2 a = some (.lst xs) ∧ ixN xs.length k = some j ∧ Q δ (mup M2 a (.lst (xs.set j d)))) E) E
section
variable {X : Cx} {pos : Pos}
theorem jg_name (i : Nat) {x : Str} (hN : X.N.Nodup) (hi : X.N[i]? = some x := by rfl) (hx : Loc X.env.scope x := by exact Or.inl rfl) (hf : X.fn x = true ∨ X.env.scope.names.lookup x = some .local := by first | exact .inl rfl | exact .inr rfl | assumption) : JG X (.Name x pos) (gnD i) :=
  ⟨fun d δ M Q E v σ H Qv q r hs hm hc hx' => wpG_of (pg_name hN hi hx hf) (hc _ H _ M (.refl H) (hs.set i r) hm q)⟩
theorem jgs_nil : JGs X [] gsNil := ⟨fun ds δ M Q E vs σ H Qv q r hs hm hc hx => wpGs_of pgs_nil (by obtain ⟨e, q⟩ := gsNil_at q; subst e; cases r; exact ⟨rfl, hc σ H δ M (.refl H) hs hm q⟩)⟩
theorem jgs_cons {e : Expr} {es : List Expr} {t : RG} {u : RGs} (h : JG X e t) (k : JGs X es u) (hst : (assignEach (e :: es) X.env).map (·.2) = assign e X.env :: (assignEach es X.env).map (·.2) := by rfl) : JGs X (e :: es) (gsCons t u) := by
  refine ⟨fun ds δ M Q E vs σ H Qv q rr hs hm hc hx => wpGs_of (pgs_cons pg_wp pgs_wp hst) ?_⟩
  obtain ⟨d, r, e1, q⟩ := gsCons_at q
  subst e1
  cases rr with
  | @cons v _ ws _ r1 r2 =>
    refine ⟨v, ws, rfl, ?_⟩
    refine h.run d δ M _ E v σ H _ q r1 hs hm (fun σ' H' δ' M' k' s' m' q' => ?_) hx
    exact k.run r δ' M' Q E ws σ' H' Qv q' (r2.keep k') s' m' (hc.keep k') (hx.keep k')
theorem jg_tup {es : List Expr} {k : Nat} {t : RGs} {n : Nat} (hc : X.calm = true) (h : JGs X es t) (hn : (assignEach es X.env).length = n := by rfl) (hst : (assignEach es X.env).findIdx? (·.1) = none := by rfl) : JG X (.Tuple es k pos) (gtD n t) := by
  refine ⟨fun d δ M Q E v σ H Qv q r hs hm hq hx => wpG_of (pg_tup hc pgs_wp hn hst) ?_⟩
  obtain ⟨ds, e, hl, q2⟩ := gtD_at q
  subst e
  cases r with
  | @tup a xs _ s rx =>
    refine ⟨a, xs, rfl, s, by rw [rx.length]; exact hl, ?_⟩
    exact h.run ds δ M Q E xs σ H Qv q2 rx hs hm hq hx
theorem jg_sub {o i : Expr} {to ti : RE} (ho : JE X o to) (hi : JE X i ti)
    (ha : ∀ v, assign (.Subscript o i pos) X.env v = (do
      let ov ← holding [v] (eval o X.env)
      let iv ← holding [v, ov] (eval i X.env)
      standAt pos
      holding [v, ov, iv] (setItem ov iv v)
      release [v, ov, iv] []) := by intro _; rfl) : JG X (.Subscript o i pos) (gbD to ti) := by
  refine ⟨fun d δ M Q E v σ H Qv q r hs hm hc hx => wpG_of (pg_sub pe_wp pe_wp set_list ha) ?_⟩
  refine ho.run δ M _ E σ H _ q hs hm (fun ov H1 x M1 k1 r1 m1 q1 => ?_) hx
  refine hi.run δ M1 _ E σ H1 _ q1 (hs.keep k1) m1 (fun iv H2 y M2 k2 r2 m2 q2 => ?_) (hx.keep k1)
  obtain ⟨a, xs, k, j, rfl, rfl, e, hj, q2⟩ := q2
  have r1' := r1.keep k2
  cases r1'; cases r2
  obtain ⟨ys, h, ry⟩ := m2 a _ e
  refine ⟨a, ys, k, j, rfl, rfl, h, by rw [ry.length]; exact hj, ?_⟩
  have ks : Keep H2 (upd H2 a (.lst (ys.set j v))) := .set h True.intro
  have k3 := (k1.trans k2).trans ks
  exact hc σ _ δ _ k3 (hs.keep k3) (m2.put (o := .lst (xs.set j d)) h True.intro ⟨_, upd_same, (ry.set j (r.keep (k1.trans k2))).keep ks⟩) q2
end
section
variable {X : Cx} {tg e : Expr} {te : RE} {g : RG} {pos : Pos}
theorem js_asg (he : JE X e te) (hg : JG X tg g) (hs : swapsWithSole [tg] e pos.line X.env = pure false := by rfl) (hw : swappedStores [tg] e X.env = pure none := by rfl)
    (h1 : (assignEach [tg] X.env).map (·.2) = [assign tg X.env] := by rfl) : JS X (.Assign [tg] e pos) (rAsg te g) := by
  refine ⟨fun δ M P σ H E q hs' hm hc => wpS_of (ps_asg pe_wp pg_wp hs hw h1) ?_⟩
  refine he.run δ M _ _ σ H _ q hs' hm (fun v H1 d M1 k1 r1 m1 q1 => ?_) hc.ex
  exact hg.run d δ M1 _ _ v σ H1 _ q1 r1 (hs'.keep k1) m1 (hc.nx.keep k1) (hc.ex.keep k1)
end

/-! ### loops -/
/-- a state of data that stands at σ, H, behind H0 -/
def Stand (K : PySem.W.Frag) (H0 : Hp) (I : Dst → Mp → Prop) (σ : St) (H : Hp) : Prop := ∃ δ M, RepS K H σ δ ∧ RepM K H M ∧ Keep H0 H ∧ I δ M
/-- one turn: the target, then the body; I' what is to hold behind it -/
def turnD (g : RG) (b : RS) (P : DEnds) (I' : Dst → Mp → Prop) (d : D) (δ : Dst) (M : Mp) : Prop := g d δ M (fun δ' M' => b { P with nx := I', ct := I', bk := P.nx } δ' M') P.ex
section
variable {X : Cx} {tg : Expr} {body : List Stmt} {g : RG} {b : RS}
theorem turn_ok {P : DEnds} {E : Ends} {I' : Dst → Mp → Prop} {d : D} {δ : Dst} {M : Mp} {v : V} {σ : St} {H0 H : Hp} (hg : JG X tg g) (hb : JB X body b) (q : turnD g b P I' d δ M) (r : Rep X.K H v d) (hs : RepS X.K H σ δ) (hm : RepM X.K H M) (k0 : Keep H0 H) (hc : ContD X H0 P E) :
    wpG X tg v σ H fun σ2 H2 => wpB X body { E with nx := Stand X.K H0 I', ct := Stand X.K H0 I', bk := E.nx } σ2 H2 := by
  refine hg.run d δ M _ _ v σ H _ q r hs hm (fun σ' H' δ' M' k' s' m' q' => ?_) (hc.ex.keep k0)
  have kk := k0.trans k'
  refine hb.run δ' M' _ σ' H' _ q' s' m' ⟨fun σ2 H2 δ2 M2 k2 s2 m2 q2 => ⟨δ2, M2, s2, m2, kk.trans k2, q2⟩, hc.rt.keep kk, (hc.nx.keep kk), fun σ2 H2 δ2 M2 k2 s2 m2 q2 => ⟨δ2, M2, s2, m2, kk.trans k2, q2⟩, hc.ex.keep kk⟩
/-- for tg in range(e) -/
def rForR (t : RE) (g : RG) (b : RS) : RS := fun P δ M => t δ M (fun x M1 => ∃ n : Int, x = .int n ∧ -(2 ^ 62) ≤ n ∧ n < 2 ^ 62 ∧ ∃ I : Nat → Dst → Mp → Prop, I 0 δ M1 ∧
  (∀ (i : Nat) δ M, i < n.toNat → I i δ M → turnD g b P (I (i + 1)) (.int i) δ M) ∧ ∀ δ M, I n.toNat δ M → P.nx δ M) P.ex
theorem js_forR {a : Expr} {t : RE} {p pos pos' : Pos} (hp : PassesOwn (model X.prog X.w) X.A X.env X.xe) (hc : X.calm = true) (hgl : Gl X "range") (hm : X.mg "range" = none) (ha : JE X a t) (hg : JG X tg g) (hb : JB X body b)
    (hs1 : starEach [a] X.env = [(false, eval a X.env)] := by rfl) (hs : ∀ x, foldedSetIterable (.Call (.Name "range" p) [a] [] pos) X.env x = pure x := by intro _; rfl) : JS X (.For tg (.Call (.Name "range" p) [a] [] pos) body [] pos') (rForR t g b) := by
  refine ⟨fun δ M P σ H E q hs' hm' hq => wpS_of (ps_for hp hc (pi_range1 hgl hm (pa_cons pe_wp pa_nil hs1) hs1) pg_wp pb_wp hs) ?_⟩
  refine ha.run δ M _ _ σ H _ q hs' hm' (fun v H1 x M1 k1 r1 m1 q1 => ?_) hq.ex
  obtain ⟨n, rfl, l1, l2, I, i0, st, dn⟩ := q1
  cases r1
  refine ⟨n, rfl, l1, l2, for_range (lo := 0) (n := n.toNat) (fun i σ' H' => Stand X.K H (I i) σ' H') ⟨δ, M1, hs'.keep k1, m1, k1, i0⟩ (fun i σ' H' hi ⟨δ', M', s', m', k', I'⟩ => ?_) fun σ' H' ⟨δ', M', s', m', k', I'⟩ => hq.nx σ' H' δ' M' k' s' m' (dn δ' M' I')⟩
  rw [Int.zero_add]
  exact turn_ok hg hb (st i δ' M' hi I') (.int _) s' m' k' hq
/-- for tg in a tuple -/
def rForT (t : RE) (g : RG) (b : RS) : RS := fun P δ M => t δ M (fun x M1 => ∃ ds, x = .tup ds ∧ ∃ I : Nat → Dst → Mp → Prop, I 0 δ M1 ∧
  (∀ (i : Nat) d δ M, ds[i]? = some d → I i δ M → turnD g b P (I (i + 1)) d δ M) ∧ ∀ δ M, I ds.length δ M → P.nx δ M) P.ex
theorem js_forT {a : Expr} {t : RE} {pos' : Pos} (hp : PassesOwn (model X.prog X.w) X.A X.env X.xe) (hc : X.calm = true) (ha : JE X a t) (hg : JG X tg g) (hb : JB X body b)
    (hs : ∀ x, foldedSetIterable a X.env x = pure x := by intro _; rfl) : JS X (.For tg a body [] pos') (rForT t g b) := by
  refine ⟨fun δ M P σ H E q hs' hm' hq => wpS_of (ps_for hp hc (pi_tup pe_wp) pg_wp pb_wp hs) ?_⟩
  refine ha.run δ M _ _ σ H _ q hs' hm' (fun v H1 x M1 k1 r1 m1 q1 => ?_) hq.ex
  obtain ⟨ds, rfl, I, i0, st, dn⟩ := q1
  cases r1 with
  | @tup a xs _ s rx =>
    refine ⟨a, rfl, ⟨_, s⟩, for_tup (K := X.K) (a := a) (xs := xs) (fun i σ' H' => Stand X.K H1 (I i) σ' H') ⟨δ, M1, hs'.keep k1, m1, .refl H1, i0⟩ (fun i σ' H' _ ⟨_, _, _, _, k', _⟩ => k'.sqT s) (fun i y σ' H' hi ⟨δ', M', s', m', k', I'⟩ => ?_)
      fun σ' H' ⟨δ', M', s', m', k', I'⟩ => hq.nx σ' H' δ' M' (k1.trans k') s' m' (dn δ' M' (by rw [← rx.length]; exact I'))⟩
    obtain ⟨d, hd, rd⟩ := rx.get' hi
    exact turn_ok hg hb (st i d δ' M' hd I') (rd.keep k') s' m' k' (hq.keep k1)
/-- for tg in a list that the body leaves as it is -/
def rForL (t : RE) (g : RG) (b : RS) : RS := fun P δ M => t δ M (fun x M1 => ∃ a ds, x = .ref a ∧ M1 a = some (.lst ds) ∧ ∃ I : Nat → Dst → Mp → Prop, I 0 δ M1 ∧ (∀ (i : Nat) δ M, I i δ M → M a = some (.lst ds)) ∧
  (∀ (i : Nat) d δ M, ds[i]? = some d → I i δ M → turnD g b P (I (i + 1)) d δ M) ∧ ∀ δ M, I ds.length δ M → P.nx δ M) P.ex
theorem js_forL {a : Expr} {t : RE} {pos' : Pos} (hp : PassesOwn (model X.prog X.w) X.A X.env X.xe) (hc : X.calm = true) (ha : JE X a t) (hg : JG X tg g) (hb : JB X body b)
    (hs : ∀ x, foldedSetIterable a X.env x = pure x := by intro _; rfl) : JS X (.For tg a body [] pos') (rForL t g b) := by
  refine ⟨fun δ M P σ H E q hs' hm' hq => wpS_of (ps_for hp hc (pi_list pe_wp) pg_wp pb_wp hs) ?_⟩
  refine ha.run δ M _ _ σ H _ q hs' hm' (fun v H1 x M1 k1 r1 m1 q1 => ?_) hq.ex
  obtain ⟨a, ds, rfl, ha1, I, i0, hl, st, dn⟩ := q1
  cases r1
  obtain ⟨xs, e1, rx⟩ := m1 a _ ha1
  refine ⟨a, rfl, ⟨_, .of e1⟩, fun i m σ' H' => m = ds.length - i ∧ i ≤ ds.length ∧ Stand X.K H1 (I i) σ' H', ⟨_, rfl, Nat.zero_le _, δ, M1, hs'.keep k1, m1, .refl H1, i0⟩, ?_⟩
  rintro i m σ' H' ⟨rfl, hi, δ', M', s', m', k', I'⟩
  obtain ⟨ys, e, ry⟩ := m' a _ (hl i δ' M' I')
  by_cases hlt : i < ds.length
  · have hy : i < ys.length := by rw [ry.length]; exact hlt
    refine .inr ⟨⟨ys, ys[i], .of e, by simp [hy]⟩, Stand X.K H1 (I (i + 1)), fun σ2 H2 p => ⟨_, by omega, rfl, hlt, p⟩, fun y H2 ⟨e2, hz⟩ => ?_⟩
    subst e2
    obtain ⟨d, hd, rd⟩ := ry.get' (hz ys (.of e))
    exact turn_ok hg hb (st i d δ' M' hd I') rd s' m' k' (hq.keep k1)
  · have e3 : i = ds.length := by omega
    subst e3
    exact .inl ⟨⟨ys, .of e, by rw [ry.length]; exact Nat.le_refl _⟩, hq.nx σ' H' δ' M' (k1.trans k') s' m' (dn δ' M' I')⟩
/-- for i, x in enumerate(a list that the body leaves as it is) -/
def rForE (t : RE) (g : RG) (b : RS) : RS := fun P δ M => t δ M (fun x M1 => ∃ a ds, x = .ref a ∧ M1 a = some (.lst ds) ∧ ∃ I : Nat → Dst → Mp → Prop, I 0 δ M1 ∧ (∀ (i : Nat) δ M, I i δ M → M a = some (.lst ds)) ∧
  (∀ (i : Nat) d δ M, ds[i]? = some d → I i δ M → turnD g b P (I (i + 1)) (.tup [.int i, d]) δ M) ∧ ∀ δ M, I ds.length δ M → P.nx δ M) P.ex
theorem js_forE {a : Expr} {t : RE} {elts : List Expr} {kk : Nat} {tpos p pos pos' : Pos} (hp : PassesOwn (model X.prog X.w) X.A X.env X.xe) (hc : X.calm = true) (hgl : Gl X "enumerate") (hm : X.mg "enumerate" = none) (ha : JE X a t) (hg : JG X (.Tuple elts kk tpos) g) (hb : JB X body b)
    (hs1 : starEach [a] X.env = [(false, eval a X.env)] := by rfl) (hs : ∀ x, foldedSetIterable (.Call (.Name "enumerate" p) [a] [] pos) X.env x = pure x := by intro _; rfl) : JS X (.For (.Tuple elts kk tpos) (.Call (.Name "enumerate" p) [a] [] pos) body [] pos') (rForE t g b) := by
  refine ⟨fun δ M P σ H E q hs' hm' hq => wpS_of (ps_for hp hc (pi_enum hgl hm (pa_cons pe_wp pa_nil hs1) hs1) pg_wp pb_wp hs) ?_⟩
  refine ha.run δ M _ _ σ H _ q hs' hm' (fun v H1 x M1 k1 r1 m1 q1 => ?_) hq.ex
  obtain ⟨a, ds, rfl, ha1, I, i0, hl, st, dn⟩ := q1
  cases r1
  obtain ⟨xs, e1, rx⟩ := m1 a _ ha1
  refine ⟨a, _, rfl, .of e1, fun i m σ' H' => m = ds.length - i ∧ i ≤ ds.length ∧ Stand X.K H1 (I i) σ' H', ⟨_, rfl, Nat.zero_le _, δ, M1, hs'.keep k1, m1, .refl H1, i0⟩, ?_⟩
  rintro i m σ' H' ⟨rfl, hi, δ', M', s', m', k', I'⟩
  obtain ⟨ys, e, ry⟩ := m' a _ (hl i δ' M' I')
  by_cases hlt : i < ds.length
  · have hy : i < ys.length := by rw [ry.length]; exact hlt
    refine .inr ⟨⟨ys, ys[i], .of e, by simp [hy]⟩, Stand X.K H1 (I (i + 1)), fun σ2 H2 p => ⟨_, by omega, rfl, hlt, p⟩, fun y H2 ⟨T, z, ey, nT, eH, hz⟩ => ?_⟩
    subst ey eH
    obtain ⟨d, hd, rd⟩ := ry.get' (hz ys (.of e))
    have kn : Keep H' (upd H' T (.tup [.int (i : Nat), z])) := .new nT
    exact turn_ok hg hb (st i d δ' M' hd I') (rep_new (.cons (.int _) (.cons rd .nil)) nT) (s'.keep kn) (m'.skip nT) (k'.trans kn) (hq.keep k1)
  · have e3 : i = ds.length := by omega
    subst e3
    exact .inl ⟨⟨ys, .of e, by rw [ry.length]; exact Nat.le_refl _⟩, hq.nx σ' H' δ' M' (k1.trans k') s' m' (dn δ' M' I')⟩
/-- while c: b; I by a measure -/
def rWhile (c : RT) (b : RS) : RS := fun P δ M => ∃ I : Nat → Dst → Mp → Prop, (∃ m, I m δ M) ∧ ∀ m δ M, I m δ M →
  c δ M (fun k M1 => br k (b { P with nx := fun δ' M' => ∃ m', m' < m ∧ I m' δ' M', ct := fun δ' M' => ∃ m', m' < m ∧ I m' δ' M', bk := P.nx } δ M1) (P.nx δ M1)) P.ex
theorem js_while {c : Expr} {tc : RT} {pos : Pos} (hp : PassesOwn (model X.prog X.w) X.A X.env X.xe) (hc : JT X c tc) (hb : JB X body b) : JS X (.While c body [] pos) (rWhile tc b) := by
  refine ⟨fun δ M P σ H E q hs hm hq => wpS_of (ps_while hp pt_wp pb_wp) ?_⟩
  obtain ⟨I, ⟨m0, i0⟩, st⟩ := q
  refine ⟨fun m σ' H' => Stand X.K H (I m) σ' H', ⟨m0, δ, M, hs, hm, .refl H, i0⟩, ?_⟩
  rintro m σ' H' ⟨δ', M', s', m', k', I'⟩
  refine hc.run δ' M' _ _ σ' H' _ (st m δ' M' I') s' m' (fun k H1 M1 k1 m1 q1 => ?_) (hq.ex.keep k')
  have kk := k'.trans k1
  cases k with
  | true =>
    refine ⟨Stand X.K H (fun δ' M' => ∃ m', m' < m ∧ I m' δ' M'), fun σ2 H2 ⟨δ2, M2, s2, m2, k2, mm, hmm, I2⟩ => ⟨mm, hmm, δ2, M2, s2, m2, k2, I2⟩, ?_⟩
    exact hb.run δ' M1 _ σ' H1 _ q1 (s'.keep k1) m1 ⟨fun σ2 H2 δ2 M2 k2 s2 m2 q2 => ⟨δ2, M2, s2, m2, kk.trans k2, q2⟩, hq.rt.keep kk, hq.nx.keep kk, fun σ2 H2 δ2 M2 k2 s2 m2 q2 => ⟨δ2, M2, s2, m2, kk.trans k2, q2⟩, hq.ex.keep kk⟩
  | false => exact hq.nx σ' H1 δ' M1 kk (s'.keep k1) m1 q1
end
end Tal
set_option maxHeartbeats 4000000
namespace Tal
open PySem PySem.Spec PyProof.Rows L2

/-! ### methods of lists and texts -/
abbrev FM := D → List D → Mp → DQ → Prop
/-- the receiver is of that type -/
def RcvD (T : String) (x : D) (M : Mp) : Prop := (T = "list" ∧ ∃ a ds, x = .ref a ∧ M a = some (.lst ds)) ∨ (T = "str" ∧ ∃ z, x = .str z)
theorem RcvD.ok {K : PySem.W.Frag} {H : Hp} {M : Mp} {T : String} {x : D} {v : V} (h : RcvD T x M) (r : Rep K H v x) (m : RepM K H M) : tyV K T v H := by
  rcases h with ⟨rfl, a, ds, rfl, e⟩ | ⟨rfl, z, rfl⟩
  · cases r
    obtain ⟨xs, h, _⟩ := m a _ e
    exact .inl ⟨rfl, xs, .of h⟩
  · cases r; exact rfl
def LiftM (K : PySem.W.Frag) (r : V → List V → Hp → VK → Prop) (f : FM) : Prop := ∀ x ds v vs H M Q Qv, f x ds M Q → Rep K H v x → Reps K H vs ds → RepM K H M → Cont K H Q Qv → r v vs H Qv
def rBM0 (T : String) (f : FM) (t : RE) : RE := fun δ M Q E => t δ M (fun x M1 => RcvD T x M1 ∧ f x [] M1 Q) E
def rBM (T : String) (f : FM) (t : RE) (u : RA) : RE := fun δ M Q E => t δ M (fun x M1 => RcvD T x M1 ∧ u δ M1 (fun ds M2 => f x ds M2 Q) E) E
section
variable {X : Cx} {o e : Expr} {es : List Expr} {to : RE} {t : RA} {name : Str} {apos cpos : Pos} {T id : String} {r : V → List V → Hp → VK → Prop} {f : FM}
theorem je_bm0 (pa : PlainAttrs T) (slot : Slot T name id) (hty : typeOf (.builtin id) = pure (.type "method_descriptor")) (l : MtR X id r ∧ LiftM X.K r f) (ho : JE X o to)
    (hbase : attributeBase o name X.env (eval o X.env) = eval o X.env := by rfl) (hline : (apos.endLine == cpos.line) = true := by rfl) : JE X (.Call (.Attribute o name apos) [] [] cpos) (rBM0 T f to) := by
  refine ⟨fun δ M Q E σ H Qv q hs hm hc hx => wpE_of (pe_bm0 pa slot hty l.1 pe_wp hbase hline) ?_⟩
  exact ho.run δ M _ E σ H _ q hs hm (fun v H1 x M1 k1 r1 m1 q1 => ⟨q1.1.ok r1 m1, l.2 x [] v [] H1 M1 Q Qv q1.2 r1 .nil m1 (hc.keep k1)⟩) hx
theorem je_bm (pa : PlainAttrs T) (slot : Slot T name id) (hty : typeOf (.builtin id) = pure (.type "method_descriptor")) (l : MtR X id r ∧ LiftM X.K r f) (ho : JE X o to) (ha : JA X (e :: es) t)
    (hbase : attributeBase o name X.env (eval o X.env) = eval o X.env := by rfl)
    (hfew : ((backTo cpos (starEach (e :: es) X.env)).all (fun x => !x.1) && (backToKw cpos (keywordEach [] X.env)).all (fun x => x.1.isSome)
      && decide ((e :: es).length + ([] : List Keyword).length + (if ([] : List Keyword).isEmpty then 0 else 1) < 30)) = true := by rfl)
    (hline : (apos.endLine == cpos.line) = true := by rfl) (hst : starEach (e :: es) X.env = (false, eval e X.env) :: starEach es X.env := by rfl) (hplain : (backTo cpos (starEach es X.env)).any (·.1) = false := by rfl) :
    JE X (.Call (.Attribute o name apos) (e :: es) [] cpos) (rBM T f to t) := by
  refine ⟨fun δ M Q E σ H Qv q hs hm hc hx => wpE_of (pe_bm pa slot hty l.1 pe_wp pa_wp hbase hfew hline hst hplain) ?_⟩
  refine ho.run δ M _ E σ H _ q hs hm (fun v H1 x M1 k1 r1 m1 q1 => ⟨q1.1.ok r1 m1, ?_⟩) hx
  exact ha.run δ M1 _ E σ H1 _ q1.2 (hs.keep k1) m1 (fun vs H2 ds M2 _ k2 r2 m2 q2 => l.2 x ds v vs H2 M2 Q Qv q2 (r1.keep k2) r2 m2 (hc.keep (k1.trans k2))) (hx.keep k1)
end
theorem MtM.mt {X : Cx} {id : String} {r : V → List V → Hp → VK → Prop} (h : MtM X id r) : MtR X id r := h
/-- append, pop, extend -/
def fAppend : FM := fun x ds M Q => ∃ a xs d, x = .ref a ∧ ds = [d] ∧ M a = some (.lst xs) ∧ xs.length < sizeLine ∧ Q .non (mup M a (.lst (xs ++ [d])))
def fPop : FM := fun x ds M Q => ∃ a xs d, x = .ref a ∧ ds = [] ∧ M a = some (.lst xs) ∧ xs[xs.length - 1]? = some d ∧ Q d (mup M a (.lst xs.dropLast))
def fExtend : FM := fun x ds M Q => ∃ a b xs ys, x = .ref a ∧ ds = [.ref b] ∧ M a = some (.lst xs) ∧ M b = some (.lst ys) ∧ xs.length + ys.length ≤ sizeLine ∧ Q .non (mup M a (.lst (xs ++ ys)))
theorem o_append {X : Cx} : MtR X "list.append" rAppend ∧ LiftM X.K rAppend fAppend := by
  refine ⟨mt_append, ?_⟩
  rintro x ds v vs H M Q Qv ⟨a, xs, d, rfl, rfl, e, l, q⟩ rx rs hm hc
  cases rx
  obtain ⟨w, rfl, rw1⟩ := reps1 rs
  obtain ⟨ys, h, ry⟩ := hm a _ e
  have ks : Keep H (upd H a (.lst (ys ++ [w]))) := .set h True.intro
  exact ⟨a, ys, w, rfl, rfl, h, by rw [ry.length]; exact l, hc _ _ _ _ ks .non (hm.put (o := .lst (xs ++ [d])) h True.intro ⟨_, upd_same, (ry.append (.cons rw1 .nil)).keep ks⟩) q⟩
theorem o_pop {X : Cx} : MtR X "list.pop" rPop ∧ LiftM X.K rPop fPop := by
  refine ⟨mt_pop, ?_⟩
  rintro x ds v vs H M Q Qv ⟨a, xs, d, rfl, rfl, e, l, q⟩ rx rs hm hc
  cases rx; cases rs
  obtain ⟨ys, h, ry⟩ := hm a _ e
  obtain ⟨w, hw, rw1⟩ := ry.get l
  have ks : Keep H (upd H a (.lst ys.dropLast)) := .set h True.intro
  exact ⟨a, ys, w, rfl, rfl, h, by rw [ry.length]; exact hw, hc _ _ _ _ ks (rw1.keep ks) (hm.put (o := .lst xs.dropLast) h True.intro ⟨_, upd_same, ry.dropLast.keep ks⟩) q⟩
theorem o_extend {X : Cx} : MtR X "list.extend" rExtend ∧ LiftM X.K rExtend fExtend := by
  refine ⟨mt_extend, ?_⟩
  rintro x ds v vs H M Q Qv ⟨a, b, xs, ys, rfl, rfl, ea, eb, l, q⟩ rx rs hm hc
  cases rx
  obtain ⟨w, rfl, rw1⟩ := reps1 rs
  cases rw1
  obtain ⟨us, h, ru⟩ := hm a _ ea
  obtain ⟨ws, h', rw2⟩ := hm b _ eb
  have ks : Keep H (upd H a (.lst (us ++ ws))) := .set h True.intro
  exact ⟨a, b, us, ws, rfl, rfl, h, h', by rw [ru.length, rw2.length]; exact l, hc _ _ _ _ ks .non (hm.put (o := .lst (xs ++ ys)) h True.intro ⟨_, upd_same, (ru.append rw2).keep ks⟩) q⟩
theorem rcv_lst {a : Addr} {ds : List D} {M : Mp} (h : M a = some (.lst ds)) : RcvD "list" (.ref a) M := .inl ⟨rfl, a, ds, rfl, h⟩
theorem rcv_str {z : Str} {M : Mp} : RcvD "str" (.str z) M := .inr ⟨rfl, z, rfl⟩
theorem fAppend_i {a : Addr} {xs : List D} {d : D} {M : Mp} {Q : DQ} (h : M a = some (.lst xs)) (l : xs.length < sizeLine) (q : Q .non (mup M a (.lst (xs ++ [d])))) : fAppend (.ref a) [d] M Q := ⟨a, xs, d, rfl, rfl, h, l, q⟩
theorem fPop_i {a : Addr} {xs : List D} {d : D} {M : Mp} {Q : DQ} (h : M a = some (.lst xs)) (l : xs[xs.length - 1]? = some d) (q : Q d (mup M a (.lst xs.dropLast))) : fPop (.ref a) [] M Q := ⟨a, xs, d, rfl, rfl, h, l, q⟩
theorem fExtend_i {a b : Addr} {xs ys : List D} {M : Mp} {Q : DQ} (h : M a = some (.lst xs)) (h' : M b = some (.lst ys)) (l : xs.length + ys.length ≤ sizeLine) (q : Q .non (mup M a (.lst (xs ++ ys)))) : fExtend (.ref a) [.ref b] M Q := ⟨a, b, xs, ys, rfl, rfl, h, h', l, q⟩
/-- index of a text, of a truth -/
def fIndexS : FM := fun x ds M Q => ∃ (a : Addr) (xs : List Str) (y : Str) (j : Nat), x = .ref a ∧ ds = [.str y] ∧ M a = some (.lst (xs.map D.str)) ∧ xs[j]? = some y ∧ (∀ m : Nat, m < j → xs[m]? ≠ some y) ∧ Q (.int (j : Nat)) M
def fIndexB : FM := fun x ds M Q => ∃ (a : Addr) (xs : List Bool) (y : Bool) (j : Nat), x = .ref a ∧ ds = [.bl y] ∧ M a = some (.lst (xs.map D.bl)) ∧ xs[j]? = some y ∧ (∀ m : Nat, m < j → xs[m]? ≠ some y) ∧ Q (.int (j : Nat)) M
theorem o_indexS {X : Cx} : MtR X "list.index" (rIndex X.K) ∧ LiftM X.K (rIndex X.K) fIndexS := by
  refine ⟨mt_index, ?_⟩
  rintro x ds v vs H M Q Qv ⟨a, xs, y, j, rfl, rfl, e, hj, hno, q⟩ rx rs hm hc
  cases rx
  obtain ⟨w, rfl, rw1⟩ := reps1 rs
  cases rw1
  obtain ⟨us, h, ru⟩ := hm a _ e
  have eu := ru.strs
  subst eu
  refine ⟨a, _, _, j, .str y, rfl, rfl, .of h, rfl, by simp [flatV], by rw [List.getElem?_map, hj]; rfl, by simp [eqV], fun m z hmj hz => ?_, hc _ H _ M (.refl H) (.int _) hm q⟩
  rw [List.getElem?_map] at hz
  cases e2 : xs[m]? with
  | none => rw [e2] at hz; cases hz
  | some u =>
    rw [e2] at hz; cases hz
    have ne : ¬ u = y := fun z => hno m hmj (by rw [e2, z])
    simp [eqV, ne]
theorem o_indexB {X : Cx} : MtR X "list.index" (rIndex X.K) ∧ LiftM X.K (rIndex X.K) fIndexB := by
  refine ⟨mt_index, ?_⟩
  rintro x ds v vs H M Q Qv ⟨a, xs, y, j, rfl, rfl, e, hj, hno, q⟩ rx rs hm hc
  cases rx
  obtain ⟨w, rfl, rw1⟩ := reps1 rs
  cases rw1
  obtain ⟨us, h, ru⟩ := hm a _ e
  have eu := ru.bls
  subst eu
  refine ⟨a, _, _, j, .bl y, rfl, rfl, .of h, rfl, by simp [flatV], by rw [List.getElem?_map, hj]; rfl, by cases y <;> rfl, fun m z hmj hz => ?_, hc _ H _ M (.refl H) (.int _) hm q⟩
  rw [List.getElem?_map] at hz
  cases e2 : xs[m]? with
  | none => rw [e2] at hz; cases hz
  | some u =>
    rw [e2] at hz; cases hz
    have ne : ¬ u = y := fun z => hno m hmj (by rw [e2, z])
    cases u <;> cases y <;> first | exact absurd rfl ne | rfl
/-- count of an int -/
def fCount : FM := fun x ds M Q => ∃ (a : Addr) (ns : List Int) (k : Int), x = .ref a ∧ ds = [.int k] ∧ M a = some (.lst (ns.map D.int)) ∧ Q (.int (ns.count k : Nat)) M
theorem o_count {X : Cx} : MtR X "list.count" (rCntI X.K) ∧ LiftM X.K (rCntI X.K) fCount := by
  refine ⟨mt_lcount, ?_⟩
  rintro x ds v vs H M Q Qv ⟨a, ns, k, rfl, rfl, e, q⟩ rx rs hm hc
  cases rx
  obtain ⟨w, rfl, rw1⟩ := reps1 rs
  cases rw1
  exact ⟨a, ns, k, rfl, rfl, intsAt hm e, hc _ H _ M (.refl H) (.int _) hm q⟩
/-- count of a truth -/
def rCntB (K : PySem.W.Frag) : V → List V → Hp → VK → Prop := fun x xs H Q => ∃ (p : Addr) (bs : List Bool) (k : Bool), x = .ref p ∧ xs = [.bl k] ∧ SqL K H p (bs.map V.bl) ∧ Q (.int (bs.count k : Nat)) H
def isB (k : Bool) (v : Value) : Bool := match v with
  | .bool b => b == k
  | _ => false
theorem mt_countB {X : Cx} : MtR X "list.count" (rCntB X.K) := by
  intro pins s σ H x xs v us Q I rx rxs h
  obtain ⟨p, bs, k, rfl, rfl, hs, q⟩ := h
  cases rx
  obtain ⟨u, rfl, ru⟩ := rxs.one
  obtain rfl : u = .bool k := ru
  obtain ⟨its, rv, ⟨⟨cls, dd, data, sl⟩, n, ho, hc, hdn, hd⟩, hlen⟩ := I.list hs
  simp only at hc hd
  subst hc hd
  have hi := rv.bls
  subst hi
  refine call_meets PySem.F.slot_list_count ⟨_, ho, rfl⟩ PySem.F.entry_list_count (PySem.F.args_list_count_2 _ _)
    (SeqAt.list_countAt p (bs.map Value.bool).toArray n dd sl (.bool k) (isB k)) ⟨ho, fun y hy => ?_, ?_⟩
  · obtain ⟨b, _, rfl⟩ := List.mem_map.mp (List.mem_toArray.mp hy)
    exact SeqAt.EqAt.bool_bool b k
  · have ec : (bs.map Value.bool).toArray.toList.countP (isB k) = bs.count k := by
      rw [List.countP_map]
      rfl
    refine ⟨.int (bs.count k : Nat), H, I.tok _, ⟨s.toks, ?_⟩, q⟩
    show Value.int (((bs.map Value.bool).toArray.toList.countP (isB k) : Nat) : Int) s.toks = Value.int ((bs.count k : Nat) : Int) s.toks
    rw [ec]
def fCountB : FM := fun x ds M Q => ∃ (a : Addr) (bs : List Bool) (k : Bool), x = .ref a ∧ ds = [.bl k] ∧ M a = some (.lst (bs.map D.bl)) ∧ Q (.int (bs.count k : Nat)) M
theorem o_countB {X : Cx} : MtR X "list.count" (rCntB X.K) ∧ LiftM X.K (rCntB X.K) fCountB := by
  refine ⟨mt_countB, ?_⟩
  rintro x ds v vs H M Q Qv ⟨a, bs, k, rfl, rfl, e, q⟩ rx rs hm hc
  cases rx
  obtain ⟨w, rfl, rw1⟩ := reps1 rs
  cases rw1
  obtain ⟨us, h, ru⟩ := hm a _ e
  exact ⟨a, bs, k, rfl, rfl, by rw [← ru.bls]; exact .of h, hc _ H _ M (.refl H) (.int _) hm q⟩
/-- join of a list of texts -/
def fJoin : FM := fun x ds M Q => ∃ (s : Str) (a : Addr) (ys : List Str), x = .str s ∧ ds = [.ref a] ∧ M a = some (.lst (ys.map D.str)) ∧ (ys.map (·.length)).sum + ys.length * s.length ≤ 16777216 ∧ Q (.str (Txt.join s ys)) M
def rJoin (K : PySem.W.Frag) : V → List V → Hp → VK → Prop := fun x xs H Q => ∃ a p, ∃ ys : List Str, x = .str a ∧ xs = [.ref p] ∧ (SqL K H p (ys.map V.str) ∨ SqT K H p (ys.map V.str)) ∧ (ys.map (·.length)).sum + ys.length * a.length ≤ 16777216 ∧ Q (.str (Txt.join a ys)) H
theorem o_join {X : Cx} : MtR X "str.join" (rJoin X.K) ∧ LiftM X.K (rJoin X.K) fJoin := by
  refine ⟨mt_join, ?_⟩
  rintro x ds v vs H M Q Qv ⟨s, a, ys, rfl, rfl, e, l, q⟩ rx rs hm hc
  cases rx
  obtain ⟨w, rfl, rw1⟩ := reps1 rs
  cases rw1
  obtain ⟨us, h, ru⟩ := hm a _ e
  exact ⟨s, a, ys, rfl, rfl, .inl (by rw [← ru.strs]; exact .of h), l, hc _ H _ M (.refl H) (.str _) hm q⟩
end Tal
set_option maxHeartbeats 4000000
namespace Tal
open PySem PySem.Spec PyProof.Rows L2

/-! ### comprehensions: one for over a name, an if or none; the turns leave the known memory as it is -/
abbrev XQ0 : XQ := fun _ _ _ _ => False
abbrev blkX (X : Cx) (scope : Scope) (s : Shared) (H : Hp) (C : Addr) (cl : List (Str × Addr)) (fp : List Addr) : Cx := X.blk s H scope (compEnvC scope cl C X.env) fp
def blkE (X : Cx) (scope : Scope) (e : Expr) : TE := fun σ H Q => ∀ s0 H0 C cl fp, wpE (blkX X scope s0 H0 C cl fp) e σ H Q
def blkT (X : Cx) (scope : Scope) (e : Expr) : TT := fun σ H Q => ∀ s0 H0 C cl fp, wpT (blkX X scope s0 H0 C cl fp) e σ H Q
theorem pe_blk {X : Cx} {scope : Scope} {e : Expr} (s : Shared) (H : Hp) (C : Addr) (cl : List (Str × Addr)) (fp : List Addr) : PE (blkX X scope s H C cl fp) e (blkE X scope e) := ⟨fun pins s' σ H' Q I h => h s H C cl fp pins s' I⟩
theorem pt_blk {X : Cx} {scope : Scope} {e : Expr} (s : Shared) (H : Hp) (C : Addr) (cl : List (Str × Addr)) (fp : List Addr) : PTs (blkX X scope s H C cl fp) [e] (blkT X scope e) := pts_one ⟨fun pins s' σ H' Q I h => h s H C cl fp pins s' I⟩
def JEb (X : Cx) (scope : Scope) (e : Expr) (t : RE) : Prop := ∀ s H C cl fp, JE (blkX X scope s H C cl fp) e t
def JTb (X : Cx) (scope : Scope) (e : Expr) (t : RT) : Prop := ∀ s H C cl fp, JT (blkX X scope s H C cl fp) e t
/-- what a turn asks: the memory M holds the list so far -/
def turnC (te : RE) (J : List D → Prop) (acc : List D) (δ : Dst) (M : Mp) : Prop := te δ M (fun y M' => Le M M' ∧ J (acc ++ [y])) XQ0
def turnCT (tt : RT) (te : RE) (J : List D → Prop) (acc : List D) (δ : Dst) (M : Mp) : Prop := tt δ M (fun b M' => Le M M' ∧ if b = true then turnC te J acc δ M else J acc) XQ0
theorem wipe_one (σ : St) (i : Nat) : wipe σ [i] = σ.set i none := rfl
/-- what the kit's reading asks of a turn, by what ours does -/
def NxC (K : PySem.W.Frag) (H1 : Hp) (M1 : Mp) (p : Addr) (i n : Nat) (J : Nat → List D → Prop) : Hp → Prop := fun H => ∃ acc, RepM K H (mup M1 p (.lst acc)) ∧ Keep H1 H ∧ acc.length ≤ i ∧ J i acc
section
variable {X : Cx} {scope : Scope} {elt c : Expr} {te : RE} {tt : RT} {i : Nat}
theorem elt_ok (he : JEb X scope elt te) {σ : St} {δ : Dst} {H1 H' : Hp} {M1 : Mp} {p : Addr} {k n : Nat} {J : Nat → List D → Prop} {acc : List D} (q : turnC te (J (k + 1)) acc δ (mup M1 p (.lst acc))) (hs : RepS X.K H' σ δ) (hm : RepM X.K H' (mup M1 p (.lst acc)))
    (k1 : Keep H1 H') (hl : acc.length ≤ k) (hk : k < 100000) : blkE X scope elt σ H' fun y H4 => ∃ acc, H4 p = some (.lst acc) ∧ acc.length < sizeLine ∧ NxC X.K H1 M1 p (k + 1) n J (upd H4 p (.lst (acc ++ [y]))) := by
  intro s0 H0 C cl fp
  refine (he s0 H0 C cl fp).run δ _ _ XQ0 σ H' _ q hs hm (fun v H4 y M4 k4 r4 m4 ⟨le, q4⟩ => ?_) .no
  have m4' := m4.le le
  obtain ⟨xs, e, rx⟩ := m4' p _ mup_same
  have ks : Keep H4 (upd H4 p (.lst (xs ++ [v]))) := .set e True.intro
  refine ⟨xs, e, by rw [rx.length, sizeLine_eq]; omega, acc ++ [y], ?_, (k1.trans k4).trans ks, by rw [List.length_append, List.length_singleton]; omega, q4⟩
  have z := m4'.put (o := .lst (acc ++ [y])) e True.intro ⟨_, upd_same, (rx.append (.cons r4 .nil)).keep ks⟩
  rwa [mup_mup] at z
theorem tst_ok (hc : JTb X scope c tt) (he : JEb X scope elt te) {σ : St} {δ : Dst} {H1 H' : Hp} {M1 : Mp} {p : Addr} {k n : Nat} {J : Nat → List D → Prop} {acc : List D} (q : turnCT tt te (J (k + 1)) acc δ (mup M1 p (.lst acc))) (hs : RepS X.K H' σ δ) (hm : RepM X.K H' (mup M1 p (.lst acc)))
    (k1 : Keep H1 H') (hl : acc.length ≤ k) (hk : k < 100000) : blkT X scope c σ H' fun b H3 => if b = true then blkE X scope elt σ H3 (fun y H4 => ∃ acc, H4 p = some (.lst acc) ∧ acc.length < sizeLine ∧ NxC X.K H1 M1 p (k + 1) n J (upd H4 p (.lst (acc ++ [y])))) else NxC X.K H1 M1 p (k + 1) n J H3 := by
  intro s0 H0 C cl fp
  refine (hc s0 H0 C cl fp).run δ _ _ XQ0 σ H' _ q hs hm (fun b H3 M3 k3 m3 ⟨le, q3⟩ => ?_) .no
  have m3' := m3.le le
  cases b with
  | true => exact elt_ok he q3 (hs.keep k3) m3' (k1.trans k3) hl hk
  | false => exact ⟨acc, m3', k1.trans k3, Nat.le_succ_of_le hl, q3⟩
end
/-- the walk of a comprehension by its items: n of them, the k-th one d -/
def lcAll (Jt : It) (n : Nat) (item : Nat → D → Prop) (K : PySem.W.Frag) (H1 : Hp) (M1 : Mp) : Prop :=
  n ≤ 100000 ∧ ∀ k H', Keep H1 H' → RepM K H' M1 → (n ≤ k → Jt.stop k H') ∧ (k < n → Jt.go k H') ∧ ∀ v H2, Jt.yld k H' v H2 → H2 = H' ∧ ∃ d, item k d ∧ Rep K H' v d
/-- what is asked of a comprehension (no if) behind its iterable -/
def rLcD (n : Nat) (item : Nat → D → Prop) (i : Nat) (te : RE) (δ : Dst) (M1 : Mp) (Q : DQ) : Prop := ∀ p, M1 p = none → ∃ J : Nat → List D → Prop, J 0 [] ∧
  (∀ k d acc, k < n → item k d → J k acc → turnC te (J (k + 1)) acc (δ.set i (some d)) (mup M1 p (.lst acc))) ∧ ∀ acc, J n acc → Q (.ref p) (mup M1 p (.lst acc))
/-- .. with an if -/
def rLcDT (n : Nat) (item : Nat → D → Prop) (i : Nat) (tt : RT) (te : RE) (δ : Dst) (M1 : Mp) (Q : DQ) : Prop := ∀ p, M1 p = none → ∃ J : Nat → List D → Prop, J 0 [] ∧
  (∀ k d acc, k < n → item k d → J k acc → turnCT tt te (J (k + 1)) acc (δ.set i (some d)) (mup M1 p (.lst acc))) ∧ ∀ acc, J n acc → Q (.ref p) (mup M1 p (.lst acc))
section
variable {X : Cx} {scope : Scope} {elt c : Expr} {te : RE} {tt : RT} {i : Nat}
theorem lc_walk {Jt : It} {n : Nat} {item : Nat → D → Prop} {σ : St} {δ : Dst} {H1 : Hp} {M1 : Mp} {Qv : VK} {D0 : Addr} {tk : TT} {tek : TE} (A : lcAll Jt n item X.K H1 M1) (hs : RepS X.K H1 σ δ) (hm : RepM X.K H1 M1) (hD : H1 D0 = none)
    {J : Nat → List D → Prop} (j0 : J 0 [])
    (st : ∀ k d acc σ' H', k < n → item k d → J k acc → RepS X.K H' σ' (δ.set i (some d)) → RepM X.K H' (mup M1 D0 (.lst acc)) → Keep H1 H' → acc.length ≤ k → tk σ' H' fun b H3 => if b = true then tek σ' H3 (fun y H4 => ∃ acc, H4 D0 = some (.lst acc) ∧ acc.length < sizeLine ∧ NxC X.K H1 M1 D0 (k + 1) n J (upd H4 D0 (.lst (acc ++ [y])))) else NxC X.K H1 M1 D0 (k + 1) n J H3)
    (dn : ∀ acc H', J n acc → RepM X.K H' (mup M1 D0 (.lst acc)) → Keep H1 H' → Qv (.ref D0) H') :
    ∃ W : Nat → Nat → Hp → Prop, (∃ m, W 0 m (upd H1 D0 (.lst []))) ∧ ∀ k m H, W k m H →
      (Jt.stop k H ∧ Qv (.ref D0) H) ∨ (Jt.go k H ∧ ∃ Nx : Hp → Prop, (∀ H', Nx H' → ∃ m', m' < m ∧ W (k + 1) m' H') ∧ ∀ x H', Jt.yld k H x H' → gName i x (wipe σ [i]) H' fun σ2 H2 => wipe σ2 [i] = wipe σ [i] ∧ tk σ2 H2 fun b H3 =>
        if b = true then tek σ2 H3 fun y H4 => ∃ acc, H4 D0 = some (.lst acc) ∧ acc.length < sizeLine ∧ Nx (upd H4 D0 (.lst (acc ++ [y]))) else Nx H3) := by
  obtain ⟨hn, A⟩ := A
  have nD : M1 D0 = none := hm.free hD
  refine ⟨fun k m H => m = n - k ∧ k ≤ n ∧ NxC X.K H1 M1 D0 k n J H, ⟨n, by simp, Nat.zero_le _, [], hm.add hD ⟨[], upd_same, .nil⟩, .new hD, Nat.le_refl _, j0⟩, ?_⟩
  rintro k m H ⟨rfl, hk, acc, m', k', hl, j⟩
  obtain ⟨a1, a2, a3⟩ := A k H k' (m'.le (Le.new nD))
  by_cases hlt : k < n
  · refine .inr ⟨a2 hlt, NxC X.K H1 M1 D0 (k + 1) n J, fun H' z => ⟨n - (k + 1), by omega, rfl, hlt, z⟩, fun x H' hy => ?_⟩
    obtain ⟨e, d, hd, rd⟩ := a3 x H' hy
    subst e
    have hw : ((wipe σ [i]).set i (some x)) = σ.set i (some x) := by rw [wipe_one, List.set_set]
    show wipe ((wipe σ [i]).set i (some x)) [i] = wipe σ [i] ∧ _
    rw [hw]
    refine ⟨by rw [wipe_one, wipe_one, List.set_set], ?_⟩
    exact st k d acc _ H' hlt hd j ((hs.keep k').set i rd) m' k' hl
  · have e : k = n := by omega
    subst e
    exact .inl ⟨a1 (Nat.le_refl _), dn acc H j m' k'⟩
end

/-! ### the rules, by what is walked -/
/-- the items of a tuple, of a list; the numbers below n; the signs of a text -/
def itemL (ds : List D) (k : Nat) (d : D) : Prop := ds[k]? = some d
def itemN (k : Nat) (d : D) : Prop := d = .int k
def itemS (z : Str) (k : Nat) (d : D) : Prop := ∃ c, z.cps[k]? = some c ∧ d = .str ⟨#[c]⟩
theorem all_tup {K : PySem.W.Frag} {H1 : Hp} {M1 : Mp} {a : Addr} {xs : List V} {ds : List D} (s : SqT K H1 a xs) (r : Reps K H1 xs ds) (h : ds.length ≤ 100000) : lcAll (Itt K a) ds.length (itemL ds) K H1 M1 := by
  refine ⟨h, fun k H' k' _ => ⟨fun hk => ⟨xs, k'.sqT s, by rw [r.length]; exact hk⟩, fun hk => ?_, fun v H2 ⟨e, hv⟩ => ⟨e, ?_⟩⟩⟩
  · have hy : k < xs.length := by rw [r.length]; exact hk
    exact ⟨xs, xs[k], k'.sqT s, by simp [hy]⟩
  · obtain ⟨d, hd, rd⟩ := r.get' (hv xs (k'.sqT s))
    exact ⟨d, hd, rd.keep k'⟩
theorem all_lst {K : PySem.W.Frag} {H1 : Hp} {M1 : Mp} {a : Addr} {ds : List D} (e : M1 a = some (.lst ds)) (h : ds.length ≤ 100000) : lcAll (Itl K a) ds.length (itemL ds) K H1 M1 := by
  refine ⟨h, fun k H' k' m' => ?_⟩
  obtain ⟨xs, e', r⟩ := m' a _ e
  refine ⟨fun hk => ⟨xs, .of e', by rw [r.length]; exact hk⟩, fun hk => ?_, fun v H2 ⟨e2, hv⟩ => ⟨e2, ?_⟩⟩
  · have hy : k < xs.length := by rw [r.length]; exact hk
    exact ⟨xs, xs[k], .of e', by simp [hy]⟩
  · obtain ⟨d, hd, rd⟩ := r.get' (hv xs (.of e'))
    exact ⟨d, hd, rd⟩
theorem all_rng {K : PySem.W.Frag} {H1 : Hp} {M1 : Mp} {n : Nat} (h : n ≤ 100000) : lcAll (Itr 0 n) n itemN K H1 M1 := by
  refine ⟨h, fun k H' k' m' => ⟨fun hk => hk, fun hk => hk, fun v H2 ⟨e, hv⟩ => ⟨e, _, rfl, ?_⟩⟩⟩
  rw [hv, Int.zero_add]
  exact .int _
theorem all_str {K : PySem.W.Frag} {H1 : Hp} {M1 : Mp} {z : Str} (h : z.cps.size ≤ 100000) : lcAll (Its z) z.cps.size (itemS z) K H1 M1 := by
  refine ⟨h, fun k H' k' m' => ⟨fun hk => hk, fun hk => hk, fun v H2 ⟨e, c, hc, hv⟩ => ⟨e, _, ⟨c, hc, rfl⟩, ?_⟩⟩⟩
  rw [hv]
  exact .str _
/-- what a name, a call of range .. is to a comprehension -/
structure JIt (X : Cx) (tg iter : Expr) (wi : TI) (t : Dst → Mp → (Nat → (Nat → D → Prop) → Mp → Prop) → XQ → Prop) : Prop where
  pi : PI X tg iter wi
  run : ∀ δ M (R : Nat → (Nat → D → Prop) → Mp → Prop) E σ H (Rv : It → Hp → Prop), t δ M R E → RepS X.K H σ δ → RepM X.K H M → ContX X H E →
    (∀ Jt n item H1 M1, Keep H H1 → RepM X.K H1 M1 → lcAll Jt n item X.K H1 M1 → R n item M1 → Rv Jt H1) → wi σ H Rv
def rItT (t : RE) : Dst → Mp → (Nat → (Nat → D → Prop) → Mp → Prop) → XQ → Prop := fun δ M R E => t δ M (fun x M1 => ∃ ds, x = .tup ds ∧ ds.length ≤ 100000 ∧ R ds.length (itemL ds) M1) E
def rItL (t : RE) : Dst → Mp → (Nat → (Nat → D → Prop) → Mp → Prop) → XQ → Prop := fun δ M R E => t δ M (fun x M1 => ∃ a ds, x = .ref a ∧ M1 a = some (.lst ds) ∧ ds.length ≤ 100000 ∧ R ds.length (itemL ds) M1) E
def rItR (t : RE) : Dst → Mp → (Nat → (Nat → D → Prop) → Mp → Prop) → XQ → Prop := fun δ M R E => t δ M (fun x M1 => ∃ n : Nat, x = .int n ∧ n ≤ 100000 ∧ R n itemN M1) E
def rItS (t : RE) : Dst → Mp → (Nat → (Nat → D → Prop) → Mp → Prop) → XQ → Prop := fun δ M R E => t δ M (fun x M1 => ∃ z, x = .str z ∧ z.cps.size ≤ 100000 ∧ R z.cps.size (itemS z) M1) E
section
variable {X : Cx} {tg a : Expr} {t : RE} {p pos : Pos}
theorem ji_tup (ha : JE X a t) : JIt X tg a (iTup X.K (wpE X a)) (rItT t) := ⟨pi_tup pe_wp, fun δ M R E σ H Rv q hs hm hx k => ha.run δ M _ E σ H _ q hs hm (fun v H1 x M1 k1 r1 m1 ⟨ds, e, hl, q1⟩ => by
  subst e
  cases r1 with
  | @tup b xs _ s rx => exact ⟨b, rfl, ⟨_, s⟩, k _ _ _ H1 M1 k1 m1 (all_tup s rx hl) q1⟩) hx⟩
theorem ji_lst (ha : JE X a t) : JIt X tg a (iList X.K (wpE X a)) (rItL t) := ⟨pi_list pe_wp, fun δ M R E σ H Rv q hs hm hx k => ha.run δ M _ E σ H _ q hs hm (fun v H1 x M1 k1 r1 m1 ⟨b, ds, e, eb, hl, q1⟩ => by
  subst e
  cases r1
  obtain ⟨xs, e', _⟩ := m1 b _ eb
  exact ⟨b, rfl, ⟨_, .of e'⟩, k _ _ _ H1 M1 k1 m1 (all_lst eb hl) q1⟩) hx⟩
theorem ji_str (ha : JE X a t) : JIt X tg a (iStr (wpE X a)) (rItS t) := ⟨pi_str pe_wp, fun δ M R E σ H Rv q hs hm hx k => ha.run δ M _ E σ H _ q hs hm (fun v H1 x M1 k1 r1 m1 ⟨z, e, hl, q1⟩ => by
  subst e
  cases r1
  exact ⟨z, rfl, k _ _ _ H1 M1 k1 m1 (all_str hl) q1⟩) hx⟩
theorem ji_rng (hg : Gl X "range") (hm : X.mg "range" = none) (ha : JE X a t) (hs : starEach [a] X.env = [(false, eval a X.env)] := by rfl) : JIt X tg (.Call (.Name "range" p) [a] [] pos) (iRng1 (tCons (wpE X a) tNil)) (rItR t) :=
  ⟨pi_range1 hg hm (pa_cons pe_wp pa_nil hs) hs, fun δ M R E σ H Rv q hs hm hx k => ha.run δ M _ E σ H _ q hs hm (fun v H1 x M1 k1 r1 m1 ⟨n, e, hl, q1⟩ => by
  subst e
  cases r1
  exact ⟨n, rfl, by omega, by omega, by rw [Int.toNat_natCast]; exact k _ _ _ H1 M1 k1 m1 (all_rng hl) q1⟩) hx⟩
end
def rLc (ti : Dst → Mp → (Nat → (Nat → D → Prop) → Mp → Prop) → XQ → Prop) (i : Nat) (te : RE) : RE := fun δ M Q E => ti δ M (fun n item M1 => rLcD n item i te δ M1 Q) E
def rLcT (ti : Dst → Mp → (Nat → (Nat → D → Prop) → Mp → Prop) → XQ → Prop) (i : Nat) (tt : RT) (te : RE) : RE := fun δ M Q E => ti δ M (fun n item M1 => rLcDT n item i tt te δ M1 Q) E
section
variable {X : Cx} {elt iter c : Expr} {x : Str} {px pos : Pos} {scope : Scope} {wi : TI} {te : RE} {tt : RT} {ti : Dst → Mp → (Nat → (Nat → D → Prop) → Mp → Prop) → XQ → Prop}
/-- the kit's reading from ours -/
theorem lc_of (i : Nat) (hi : JIt X (.Name x px) iter wi ti) (he : JEb X scope elt te) {δ : Dst} {M : Mp} {Q : DQ} {E : XQ} {σ : St} {H : Hp} {Qv : VK} (q : rLc ti i te δ M Q E) (hs : RepS X.K H σ δ) (hm : RepM X.K H M) (hc : Cont X.K H Q Qv) (hx : ContX X H E) :
    tLc wi (gName i) tYes (blkE X scope elt) [i] σ H Qv := by
  refine hi.run δ M _ E σ H _ q hs hm hx fun Jt n item H1 M1 k1 m1 A q1 D0 hD => ?_
  obtain ⟨J, j0, st, dn⟩ := q1 D0 (m1.free hD)
  refine lc_walk (X := X) (tk := tYes) A (hs.keep k1) m1 hD j0 (fun k d acc σ' H' hk hd j s' m' k' hl => ?_) fun acc H' j m' k' => hc _ H' _ _ (k1.trans k') (.ref D0) m' (dn acc j)
  have z := elt_ok (n := n) he (st k d acc hk hd j) s' m' k' hl (Nat.lt_of_lt_of_le hk A.1)
  exact (show if true = true then blkE X scope elt σ' H' (fun y H4 => ∃ acc, H4 D0 = some (.lst acc) ∧ acc.length < sizeLine ∧ NxC X.K H1 M1 D0 (k + 1) n J (upd H4 D0 (.lst (acc ++ [y])))) else NxC X.K H1 M1 D0 (k + 1) n J H' from by rw [if_pos rfl]; exact z)
theorem lcT_of (i : Nat) (hi : JIt X (.Name x px) iter wi ti) (ht : JTb X scope c tt) (he : JEb X scope elt te) {δ : Dst} {M : Mp} {Q : DQ} {E : XQ} {σ : St} {H : Hp} {Qv : VK} (q : rLcT ti i tt te δ M Q E) (hs : RepS X.K H σ δ) (hm : RepM X.K H M) (hc : Cont X.K H Q Qv) (hx : ContX X H E) :
    tLc wi (gName i) (blkT X scope c) (blkE X scope elt) [i] σ H Qv := by
  refine hi.run δ M _ E σ H _ q hs hm hx fun Jt n item H1 M1 k1 m1 A q1 D0 hD => ?_
  obtain ⟨J, j0, st, dn⟩ := q1 D0 (m1.free hD)
  refine lc_walk (X := X) (tk := blkT X scope c) A (hs.keep k1) m1 hD j0 (fun k d acc σ' H' hk hd j s' m' k' hl => ?_) fun acc H' j m' k' => hc _ H' _ _ (k1.trans k') (.ref D0) m' (dn acc j)
  exact tst_ok ht he (st k d acc hk hd j) s' m' k' hl (Nat.lt_of_lt_of_le hk A.1)
/-- [elt for x in iter] -/
theorem je_lc (i : Nat) (hc : X.calm = true) (hN : X.N.Nodup) (ok : BlkOk X.N X.env.scope scope [(x, i)]) (hi : JIt X (.Name x px) iter wi ti) (he : JEb X scope elt te)
    (hg : ∀ (s : Shared) (H : Hp) (C : Addr) (cl : List (Str × Addr)) (fp : List Addr), PG (blkX X scope s H C cl fp) (.Name x px) (gName i)) (hs : ∀ x, foldedSetIterable iter X.env x = pure x := by intro _; rfl) : JE X (.ListComp elt [⟨.Name x px, iter, [], 0⟩] scope pos) (rLc ti i te) :=
  ⟨fun δ M Q E σ H Qv q hs' hm hq hx => wpE_of (pe_lc hc hN hi.pi ok hg (fun _ _ _ _ _ => pts_nil) pe_blk hs) (lc_of i hi he q hs' hm hq hx)⟩
theorem je_lcT (i : Nat) (hc : X.calm = true) (hN : X.N.Nodup) (ok : BlkOk X.N X.env.scope scope [(x, i)]) (hi : JIt X (.Name x px) iter wi ti) (ht : JTb X scope c tt) (he : JEb X scope elt te)
    (hg : ∀ (s : Shared) (H : Hp) (C : Addr) (cl : List (Str × Addr)) (fp : List Addr), PG (blkX X scope s H C cl fp) (.Name x px) (gName i)) (hs : ∀ x, foldedSetIterable iter X.env x = pure x := by intro _; rfl) : JE X (.ListComp elt [⟨.Name x px, iter, [c], 0⟩] scope pos) (rLcT ti i tt te) :=
  ⟨fun δ M Q E σ H Qv q hs' hm hq hx => wpE_of (pe_lc hc hN hi.pi ok hg pt_blk pe_blk hs) (lcT_of i hi ht he q hs' hm hq hx)⟩
/-- y = [elt for x in iter] on one line -/
theorem js_setLc (j i : Nat) {y : Str} {py spos : Pos} (hc : X.calm = true) (hN : X.N.Nodup) (ok : BlkOk X.N X.env.scope scope [(x, i)]) (hi : JIt X (.Name x px) iter wi ti) (he : JEb X scope elt te)
    (hg : ∀ (s : Shared) (H : Hp) (C : Addr) (cl : List (Str × Addr)) (fp : List Addr), PG (blkX X scope s H C cl fp) (.Name x px) (gName i)) (hy : X.N[j]? = some y := by rfl) (hyl : X.env.scope.names.lookup y = some .local := by rfl)
    (hsw : swapsWith (.ListComp elt [⟨.Name x px, iter, [], 0⟩] scope pos) (some (.Name y py)) spos.line X.env = pure true := by exact sw_true rfl rfl rfl (by decide +kernel)) (hs : ∀ x, foldedSetIterable iter X.env x = pure x := by intro _; rfl) :
    JS X (.Assign [.Name y py] (.ListComp elt [⟨.Name x px, iter, [], 0⟩] scope pos) spos) (rSet j (rLc ti i te)) :=
  ⟨fun δ M P σ H E q hs' hm hq => wpS_of (ps_setLc hc hN hy hyl hsw hi.pi ok hg (fun _ _ _ _ _ => pts_nil) pe_blk hs)
    (lc_of i hi he q hs' hm (fun v H1 d M1 k1 r1 m1 q1 => hq.nx _ H1 _ M1 k1 ((hs'.keep k1).set j r1) m1 q1) hq.ex)⟩
theorem js_setLcT (j i : Nat) {y : Str} {py spos : Pos} (hc : X.calm = true) (hN : X.N.Nodup) (ok : BlkOk X.N X.env.scope scope [(x, i)]) (hi : JIt X (.Name x px) iter wi ti) (ht : JTb X scope c tt) (he : JEb X scope elt te)
    (hg : ∀ (s : Shared) (H : Hp) (C : Addr) (cl : List (Str × Addr)) (fp : List Addr), PG (blkX X scope s H C cl fp) (.Name x px) (gName i)) (hy : X.N[j]? = some y := by rfl) (hyl : X.env.scope.names.lookup y = some .local := by rfl)
    (hsw : swapsWith (.ListComp elt [⟨.Name x px, iter, [c], 0⟩] scope pos) (some (.Name y py)) spos.line X.env = pure true := by exact sw_true rfl rfl rfl (by decide +kernel)) (hs : ∀ x, foldedSetIterable iter X.env x = pure x := by intro _; rfl) :
    JS X (.Assign [.Name y py] (.ListComp elt [⟨.Name x px, iter, [c], 0⟩] scope pos) spos) (rSet j (rLcT ti i tt te)) :=
  ⟨fun δ M P σ H E q hs' hm hq => wpS_of (ps_setLc hc hN hy hyl hsw hi.pi ok hg pt_blk pe_blk hs)
    (lcT_of i hi ht he q hs' hm (fun v H1 d M1 k1 r1 m1 q1 => hq.nx _ H1 _ M1 k1 ((hs'.keep k1).set j r1) m1 q1) hq.ex)⟩
end
end Tal
set_option maxHeartbeats 4000000
namespace Tal
open PySem PySem.Spec PyProof.Rows L2

/-! ### promises over data -/
abbrev DSp := List D → Mp → DQ → (Exn → Mp → Prop) → Prop
/-- what may leave a def: nothing; exceptions raised where none is handled; any -/
inductive Md where
  | no | cold | any
def Md.hot : Md → Bool
  | .any => true
  | _ => false
def CXm (m : Md) (P : Program) (w : World) : CXT := match m with
  | .no => CX0
  | .cold => L2N.CX P w
  | .any => L2.CX P w
def ContE (m : Md) (K : PySem.W.Frag) (H : Hp) (Ed : Exn → Mp → Prop) (E : XK) : Prop := m ≠ .no → ∀ cls d H' x M', Keep H H' → XRel K H' cls d x → RepM K H' M' → Ed x M' → E cls d H'
def lift (m : Md) (K : PySem.W.Frag) (dsp : DSp) : Sp := fun vs H Q E => ∃ ds M Qd Ed, Reps K H vs ds ∧ RepM K H M ∧ dsp ds M Qd Ed ∧ Cont K H Qd Q ∧ ContE m K H Ed E
/-- known a def by the module's name x -/
structure Ok (P : Program) (w : World) (K : PySem.W.Frag) (mg : Str → Option Value) (base : Heap) (m : Md) (k : Nat) (x : Str) (ps : List Str) (dsp : DSp) : Prop where
  fn : ∃ fd, FnOk P w K mg base (CXm m P w) k (He.ga K x) fd ps (lift m K dsp) ∧ Binds K fd ps []
  mg : mg x = some (.ref (He.ga K x))
  kp : PySem.W.keepIn K (.ref (He.ga K x)) = true
def xOf (m : Md) (E : XQ) (δ : Dst) : Exn → Mp → Prop := fun x M => E x m.hot δ M
def rCall (m : Md) (dsp : DSp) (t : RA) : RE := fun δ M Q E => t δ M (fun ds M1 => dsp ds M1 Q (xOf m E δ)) E
section
variable {X : Cx} {σ : St}
def accM (m : Md) (X : Cx) (σ : St) : XK := fun cls d H => match m with
  | .no => False
  | .cold => accN X cls d σ H
  | .any => acc2 X cls d σ H
theorem passM (m : Md) (σ : St) : PassesAt (CXm m X.prog X.w) X σ (accM m X σ) := by
  cases m with
  | no => exact fun _ _ _ _ _ _ h => h.elim
  | cold => exact L2N.passAt (takesN X) σ
  | any => exact L2.passAt (takes2 X) σ
theorem contE {m : Md} {H : Hp} {E : XQ} {δ : Dst} (hx : ContX X H E) (hs : RepS X.K H σ δ) : ContE m X.K H (xOf m E δ) (accM m X σ) := by
  intro hm cls d H' x M' k r m' e
  obtain ⟨h1, h2⟩ := hx cls d σ H' x m.hot δ M' k r (hs.keep k) m' e
  cases m with
  | no => exact absurd rfl hm
  | cold => exact h1 rfl
  | any => exact h2 rfl
end
section
variable {X : Cx} {m : Md} {k : Nat} {x : Str} {ps : List Str} {dsp : DSp} {e : Expr} {es : List Expr} {t : RA} {p pos : Pos}
/-- f(e, ..) -/
theorem je_call (F : Ok X.prog X.w X.K X.mg X.base m k x ps dsp) (hr : Room k X.A) (ha : JA X (e :: es) t) (hg : Gl X x := by rfl) (hdb : (x == ("__debug__" : Str)) = false := by decide) (he : starEach (e :: es) X.env = (false, eval e X.env) :: starEach es X.env := by rfl)
    (hpl : (backTo pos (starEach es X.env)).any (·.1) = false := by rfl) : JE X (.Call (.Name x p) (e :: es) [] pos) (rCall m dsp t) := by
  obtain ⟨⟨fd, FF, b⟩, hm, hk⟩ := F
  refine ⟨fun δ M Q E σ H Qv q hs hm' hc hx => wpE_of (pe_callS (E := accM m X) FF hr hg hm hk b (passM m) pa_wp hdb he hpl) ?_⟩
  exact ha.run δ M _ E σ H _ q hs hm' (fun vs H1 ds M1 _ k1 r1 m1 q1 => ⟨ds, M1, Q, _, r1, m1, q1, hc.keep k1, contE (hx.keep k1) (hs.keep k1)⟩) hx
end

/-! ### instances -/
/-- a method by its def -/
structure OkM (P : Program) (w : World) (K : PySem.W.Frag) (mg : Str → Option Value) (base : Heap) (m : Md) (k : Nat) (C : Addr) (x : Str) (ps : List Str) (dsp : DSp) : Prop where
  fn : ∃ (f : Addr) (fd : FuncData), FnOk P w K mg base (CXm m P w) k f fd ps (lift m K dsp) ∧ Binds K fd ps [] ∧ Meth K C x f
  cl : Cls K C
def rMeth (C : Addr) (x : Str) (m : Md) (dsp : DSp) (t : RE) (u : RA) : RE := fun δ M Q E => t δ M (fun o M1 => ∃ a dx fs, o = .ref a ∧ M1 a = some (.ins C dx fs) ∧ x ∉ fs.map (·.1) ∧ u δ M1 (fun ds M2 => dsp (o :: ds) M2 Q (xOf m E δ)) E) E
theorem lookup_none {gs : List (Str × V)} {x : Str} (h : x ∉ gs.map (·.1)) : gs.lookup x = none := by
  cases q : gs.lookup x with
  | none => rfl
  | some v => exact absurd (List.mem_map.mpr ⟨(x, v), PySem.mem_of_lookup q, rfl⟩) h
theorem run_fnM {X : Cx} {m : Md} {k : Nat} {f : Addr} {fd : FuncData} {ps : List Str} {dsp : DSp} {pins : List (Addr × Obj)} {σ : St} {H : Hp} {s : Shared} {Q : VK} {us : List Value} {vs : List V} (F : FnOk X.prog X.w X.K X.mg X.base (CXm m X.prog X.w) k f fd ps (lift m X.K dsp)) (hr : Room k X.A) (hb : Binds X.K fd ps [])
    (I : Inv X pins σ H s) (r : Vals vs us) (h : lift m X.K dsp vs H Q (accM m X σ)) : wpAny (model X.prog X.w) X.A (call (.ref f) us) (EP X pins σ Q) X.xe s := run_fnS (E := accM m X) F hr hb (passM m σ) I r h
/-- o.m(e, ..), o.m() -/
theorem je_meth {X : Cx} {m : Md} {k : Nat} {C : Addr} {x : Str} {ps : List Str} {dsp : DSp} {o e : Expr} {es : List Expr} {to : RE} {t : RA} {pos apos : Pos} {pl : Sem Bool} (F : OkM X.prog X.w X.K X.mg X.base m k C x ps dsp) (hr : Room k X.A) (ho : JE X o to) (ha : JA X (e :: es) t)
    (hst : starEach (e :: es) X.env = (false, eval e X.env) :: starEach es X.env := by rfl) (hpl : (backTo pos (starEach es X.env)).any (·.1) = false := by rfl)
    (ht : eval (.Call (.Attribute o x apos) (e :: es) [] pos) X.env = (do
      let ov ← eval o X.env
      standAt apos.atName
      let (f, first) ← holding [ov] (getMethod ov x pl)
      callWith pos f first (backTo pos (starEach (e :: es) X.env)) (backToKw pos (keywordEach [] X.env))) := by rfl) :
    JE X (.Call (.Attribute o x apos) (e :: es) [] pos) (rMeth C x m dsp to t) := by
  obtain ⟨⟨f, fd, FF, b, me⟩, cl⟩ := F
  refine ⟨fun δ M Q E σ H Qv q hs hm hc hx pins s I => ?_⟩
  refine PySem.W.methodCall_KW (pl := pl) ?_ ht
  refine thn (ho.run δ M _ E σ H (fun x1 H1 => ∃ a dx fs, x1 = .ref a ∧ H1 a = some (.ins C dx fs) ∧ fs.lookup x = none ∧ wpA X (e :: es) σ H1 (fun vs H2 => lift m X.K dsp (x1 :: vs) H2 Qv (accM m X σ))) q hs hm (fun v H1 d M1 k1 r1 m1 q1 => ?_) hx pins s I) fun u s1 ⟨x1, H1, I1, rx, a, dx, fs, ex, ea, l, q2⟩ => ?_
  · obtain ⟨a, dx, fs, rfl, ea, l, q2⟩ := q1
    cases r1
    obtain ⟨gs, eg, en, rg⟩ := m1 a _ ea
    refine ⟨a, dx, gs, rfl, eg, lookup_none (by rw [en]; exact l), ?_⟩
    exact ha.run δ M1 _ E σ H1 _ q2 (hs.keep k1) m1 (fun vs H2 ds M2 _ k2 r2 m2 q3 => ⟨_, M2, Q, _, .cons (.ref a) r2, m2, q3, hc.keep (k1.trans k2), contE (hx.keep (k1.trans k2)) (hs.keep (k1.trans k2))⟩) (hx.keep k1)
  · subst ex
    obtain rfl : u = Value.ref a := rx
    refine getmeth_ok I1 ea cl me l ?_
    refine PySem.W.callWith_K (first := [.ref a]) (h₀ := X.base) I.ok.mod.kin me.kp (thn (q2 pos pins s1 I1) fun us s2 ⟨vs, H2, I2, r, q3⟩ => ⟨I2.kIn, ?_⟩) hst hpl
    exact run_fnM (us := .ref a :: us) (vs := .ref a :: vs) FF hr b I2 (.cons rfl r) q3
theorem je_meth0 {X : Cx} {m : Md} {k : Nat} {C : Addr} {x : Str} {ps : List Str} {dsp : DSp} {o : Expr} {to : RE} {pos apos : Pos} {pl : Sem Bool} (F : OkM X.prog X.w X.K X.mg X.base m k C x ps dsp) (hr : Room k X.A) (ho : JE X o to)
    (ht : eval (.Call (.Attribute o x apos) [] [] pos) X.env = (do
      let ov ← eval o X.env
      standAt apos.atName
      let (f, first) ← holding [ov] (getMethod ov x pl)
      callWith pos f first (backTo pos (starEach [] X.env)) (backToKw pos (keywordEach [] X.env))) := by rfl) :
    JE X (.Call (.Attribute o x apos) [] [] pos) (rMeth C x m dsp to rNil) := by
  obtain ⟨⟨f, fd, FF, b, me⟩, cl⟩ := F
  refine ⟨fun δ M Q E σ H Qv q hs hm hc hx pins s I => ?_⟩
  refine PySem.W.methodCall_KW (pl := pl) ?_ ht
  refine thn (ho.run δ M _ E σ H (fun x1 H1 => ∃ a dx fs, x1 = .ref a ∧ H1 a = some (.ins C dx fs) ∧ fs.lookup x = none ∧ lift m X.K dsp [x1] H1 Qv (accM m X σ)) q hs hm (fun v H1 d M1 k1 r1 m1 q1 => ?_) hx pins s I) fun u s1 ⟨x1, H1, I1, rx, a, dx, fs, ex, ea, l, q2⟩ => ?_
  · obtain ⟨a, dx, fs, rfl, ea, l, q2⟩ := q1
    cases r1
    obtain ⟨gs, eg, en, rg⟩ := m1 a _ ea
    exact ⟨a, dx, gs, rfl, eg, lookup_none (by rw [en]; exact l), ⟨_, M1, Q, _, .cons (.ref a) .nil, m1, q2, hc.keep k1, contE (hx.keep k1) (hs.keep k1)⟩⟩
  · subst ex
    obtain rfl : u = Value.ref a := rx
    refine getmeth_ok I1 ea cl me l ?_
    exact PySem.W.callWith_K0 (first := [.ref a]) I1.kIn me.kp (run_fnM (us := [.ref a]) (vs := [.ref a]) FF hr b I1 (.cons rfl .nil) q2)
/-- a method whose last parameter has a default, called without it -/
structure OkM1 (P : Program) (w : World) (K : PySem.W.Frag) (mg : Str → Option Value) (base : Heap) (m : Md) (k : Nat) (C : Addr) (x : Str) (ps : List Str) (dsp : DSp) (dd : D) : Prop where
  fn : ∃ (f : Addr) (fd : FuncData) (dv : V) (dsv : List Value), FnOk P w K mg base (CXm m P w) k f fd ps (lift m K dsp) ∧ Vals [dv] dsv ∧ Binds K fd ps dsv ∧ Meth K C x f ∧ ∀ H, Rep K H dv dd
  cl : Cls K C
def rMeth1 (C : Addr) (x : Str) (m : Md) (dsp : DSp) (dd : D) (t : RE) : RE := fun δ M Q E => t δ M (fun o M1 => ∃ a dx fs, o = .ref a ∧ M1 a = some (.ins C dx fs) ∧ x ∉ fs.map (·.1) ∧ dsp [o, dd] M1 Q (fun _ _ => False)) E
theorem je_meth1 {X : Cx} {m : Md} {k : Nat} {C : Addr} {x : Str} {ps : List Str} {dsp : DSp} {dd : D} {o : Expr} {to : RE} {pos apos : Pos} {pl : Sem Bool} (F : OkM1 X.prog X.w X.K X.mg X.base m k C x ps dsp dd) (hr : Room k X.A) (ho : JE X o to)
    (hp : Passes (CXm m X.prog X.w) X (fun _ _ _ => False))
    (ht : eval (.Call (.Attribute o x apos) [] [] pos) X.env = (do
      let ov ← eval o X.env
      standAt apos.atName
      let (f, first) ← holding [ov] (getMethod ov x pl)
      callWith pos f first (backTo pos (starEach [] X.env)) (backToKw pos (keywordEach [] X.env))) := by rfl) :
    JE X (.Call (.Attribute o x apos) [] [] pos) (rMeth1 C x m dsp dd to) := by
  obtain ⟨⟨f, fd, dv, dsv, FF, hv, b, me, hd⟩, cl⟩ := F
  refine ⟨fun δ M Q E σ H Qv q hs hm hc hx => wpE_of (pe_meth0 (pl := pl) pe_wp cl me FF hr b hv hp ht) ?_⟩
  refine ho.run δ M _ E σ H _ q hs hm (fun v H1 d M1 k1 r1 m1 q1 => ?_) hx
  obtain ⟨a, dx, fs, rfl, ea, l, q2⟩ := q1
  cases r1
  obtain ⟨gs, eg, en, rg⟩ := m1 a _ ea
  exact ⟨a, dx, gs, rfl, eg, lookup_none (by rw [en]; exact l), ⟨_, M1, Q, _, .cons (.ref a) (.cons (hd H1) .nil), m1, q2, hc.keep k1, fun _ _ _ _ _ _ _ _ _ z => z.elim⟩⟩
/-- C(e, ..) by its __init__ -/
structure OkC (P : Program) (w : World) (K : PySem.W.Frag) (mg : Str → Option Value) (base : Heap) (k : Nat) (x : Str) (ps : List Str) (dsp : DSp) : Prop where
  fn : ∃ (f : Addr) (fd : FuncData), FnOk P w K mg base CX0 k f fd ps (lift .no K dsp) ∧ Binds K fd ps [] ∧ Mk K (He.ga K x) f
  mg : mg x = some (.ref (He.ga K x))
def rMake (C : Addr) (dsp : DSp) (t : RA) : RE := fun δ M Q E => t δ M (fun ds M1 => ∀ p dx, M1 p = none → dsp (.ref p :: ds) (mup M1 p (.ins C dx [])) (fun d M2 => d = .non ∧ Q (.ref p) M2) (fun _ _ => False)) E
theorem je_make {X : Cx} {k : Nat} {x : Str} {ps : List Str} {dsp : DSp} {e : Expr} {es : List Expr} {t : RA} {p pos : Pos} (F : OkC X.prog X.w X.K X.mg X.base k x ps dsp) (hr : Room (k + 1) X.A) (ha : JA X (e :: es) t) (hg : Gl X x := by rfl) (hdb : (x == ("__debug__" : Str)) = false := by decide)
    (he : starEach (e :: es) X.env = (false, eval e X.env) :: starEach es X.env := by rfl) (hpl : (backTo pos (starEach es X.env)).any (·.1) = false := by rfl) : JE X (.Call (.Name x p) (e :: es) [] pos) (rMake (He.ga X.K x) dsp t) := by
  obtain ⟨⟨f, fd, FF, b, mk⟩, hm⟩ := F
  refine ⟨fun δ M Q E σ H Qv q hs hm' hc hx => wpE_of (pe_make mk FF hr hg hm b .nil pass0 pa_wp hdb he hpl) ?_⟩
  refine ha.run δ M _ E σ H _ q hs hm' (fun vs H1 ds M1 _ k1 r1 m1 q1 a dx na nd ne => ?_) hx
  have kA : Keep H1 (upd H1 dx (.own a)) := .new nd
  have nA : upd H1 dx (.own a) a = none := by rw [upd_ne (Ne.symm ne)]; exact na
  have k2 : Keep H1 (upd (upd H1 dx (.own a)) a (.ins (He.ga X.K x) dx [])) := kA.trans (.new nA)
  refine ⟨.ref a :: ds, mup M1 a (.ins (He.ga X.K x) dx []), _, _, .cons (.ref a) ?_, ?_, q1 a dx (m1.free na), ?_, fun z => absurd rfl z⟩
  · rw [List.append_nil]; exact r1.keep k2
  · exact (m1.skip nd).add nA ⟨[], upd_same, rfl, .nil⟩
  · intro v H2 d M2 k3 r2 m2 ⟨e1, q2⟩
    subst e1
    cases r2
    exact ⟨rfl, hc _ H2 _ M2 ((k1.trans k2).trans k3) (.ref a) m2 q2⟩

/-! ### fields -/
def putD (f : Str) (v : D) : List (Str × D) → List (Str × D)
  | [] => [(f, v)]
  | (g, x) :: r => if g = f then (g, v) :: r else (g, x) :: putD f v r
theorem put_rel {K : PySem.W.Frag} {H : Hp} {f : Str} {v : V} {d : D} (r : Rep K H v d) : ∀ {gs : List (Str × V)} {fs : List (Str × D)}, gs.map (·.1) = fs.map (·.1) → Reps K H (gs.map (·.2)) (fs.map (·.2)) →
    (putF f v gs).map (·.1) = (putD f d fs).map (·.1) ∧ Reps K H ((putF f v gs).map (·.2)) ((putD f d fs).map (·.2))
  | [], [], _, _ => ⟨rfl, .cons r .nil⟩
  | [], _ :: _, h, _ => by simp at h
  | _ :: _, [], h, _ => by simp at h
  | (g, x) :: gs, (g', y) :: fs, h, q => by
    simp only [List.map_cons, List.cons.injEq] at h
    obtain ⟨rfl, h⟩ := h
    cases q with
    | cons q1 q2 =>
      have ih := put_rel (f := f) r h q2
      unfold putF putD
      by_cases e : g = f
      · rw [if_pos e, if_pos e]
        exact ⟨by simp only [List.map_cons]; rw [h], .cons r q2⟩
      · rw [if_neg e, if_neg e]
        exact ⟨by simp only [List.map_cons]; rw [ih.1], .cons q1 ih.2⟩
theorem look_rel {K : PySem.W.Frag} {H : Hp} {f : Str} {d : D} : ∀ {gs : List (Str × V)} {fs : List (Str × D)}, gs.map (·.1) = fs.map (·.1) → Reps K H (gs.map (·.2)) (fs.map (·.2)) → fs.lookup f = some d → ∃ v, gs.lookup f = some v ∧ Rep K H v d
  | [], [], _, _, l => by cases l
  | [], _ :: _, h, _, _ => by simp at h
  | _ :: _, [], h, _, _ => by simp at h
  | (g, x) :: gs, (g', y) :: fs, h, q, l => by
    simp only [List.map_cons, List.cons.injEq] at h
    obtain ⟨rfl, h⟩ := h
    cases q with
    | cons q1 q2 =>
      by_cases e : f = g
      · have hb : (f == g) = true := beq_iff_eq.mpr e
        simp only [List.lookup, hb] at l ⊢
        cases l
        exact ⟨x, rfl, q1⟩
      · have hb : (f == g) = false := beq_eq_false_iff_ne.mpr e
        simp only [List.lookup, hb] at l ⊢
        exact look_rel h q2 l
def rFld (K : PySem.W.Frag) (f : Str) (t : RE) : RE := fun δ M Q E => t δ M (fun o M1 => ∃ a C dx fs d, o = .ref a ∧ M1 a = some (.ins C dx fs) ∧ Cls K C ∧ NoAttr K C f ∧ fs.lookup f = some d ∧ Q d M1) E
theorem je_fld {X : Cx} {e : Expr} {f : Str} {te : RE} {pos : Pos} (he : JE X e te) (hb : attributeBase e f X.env (eval e X.env) = eval e X.env := by rfl) : JE X (.Attribute e f pos) (rFld X.K f te) := by
  refine ⟨fun δ M Q E σ H Qv q hs hm hc hx => wpE_of (pe_fld pe_wp hb) ?_⟩
  refine he.run δ M _ E σ H _ q hs hm (fun v H1 d M1 k1 r1 m1 q1 => ?_) hx
  obtain ⟨a, C, dx, fs, d, rfl, ea, cl, na, l, q1⟩ := q1
  cases r1
  obtain ⟨gs, eg, en, rg⟩ := m1 a _ ea
  obtain ⟨w, hw, rw1⟩ := look_rel en rg l
  exact ⟨a, C, dx, gs, w, rfl, eg, cl, na, hw, hc _ H1 _ M1 k1 rw1 m1 q1⟩
def rSetFld (K : PySem.W.Frag) (f : Str) (to te : RE) : RS := fun P δ M => te δ M (fun d M1 => to δ M1 (fun o M2 => ∃ a C dx fs, o = .ref a ∧ M2 a = some (.ins C dx fs) ∧ Cls K C ∧ NoAttr K C f ∧ fs.length < 100 ∧ P.nx δ (mup M2 a (.ins C dx (putD f d fs)))) P.ex) P.ex
theorem js_fld {X : Cx} {o e : Expr} {f : Str} {to te : RE} {pos pos' : Pos} (ho : JE X o to) (he : JE X e te) (hs : swapsWith e (some (.Attribute o f pos')) pos.line X.env = pure false := by rfl) : JS X (.Assign [.Attribute o f pos'] e pos) (rSetFld X.K f to te) := by
  refine ⟨fun δ M P σ H E q hs' hm hc => wpS_of (ps_fld pe_wp pe_wp hs) ?_⟩
  refine he.run δ M _ _ σ H _ q hs' hm (fun v H1 d M1 k1 r1 m1 q1 => ?_) hc.ex
  refine ho.run δ M1 _ _ σ H1 _ q1 (hs'.keep k1) m1 (fun w H2 x M2 k2 r2 m2 q2 => ?_) (hc.ex.keep k1)
  obtain ⟨a, C, dx, fs, rfl, ea, cl, na, hl, q2⟩ := q2
  cases r2
  obtain ⟨gs, eg, en, rg⟩ := m2 a _ ea
  have ks : Keep H2 (upd H2 a (.ins C dx (putF f v gs))) := .set eg True.intro
  have k3 := (k1.trans k2).trans ks
  have hlen : gs.length = fs.length := by have z := congrArg List.length en; simpa using z
  obtain ⟨z1, z2⟩ := put_rel (f := f) (r1.keep k2) en rg
  exact ⟨a, C, dx, gs, rfl, eg, cl, na, by omega, hc.nx σ _ δ _ k3 (hs'.keep k3) (m2.put (o := .ins C dx (putD f d fs)) eg True.intro ⟨_, upd_same, z1, z2.keep ks⟩) q2⟩

/-! ### a def -/
/-- what is known at a def's end may be forgotten -/
def Dr (Q : DQ) : DQ := fun d M => ∃ M0, Le M0 M ∧ Q d M0
def DrX (m : Md) (E : Exn → Mp → Prop) : XQ := fun x h _ M => (m = .any ∨ (m = .cold ∧ h = false)) ∧ ∃ M0, Le M0 M ∧ E x M0
def startD (N : List Str) (ds : List D) : Dst := ds.map some ++ List.replicate (N.length - ds.length) none
theorem rep_start {K : PySem.W.Frag} {H : Hp} {N : List Str} {vs : List V} {ds : List D} (r : Reps K H vs ds) : RepS K H (L2.start N vs) (startD N ds) := by
  have hl := r.length
  refine ⟨by unfold L2.start startD; simp [hl], fun i d h => ?_⟩
  unfold startD at h
  unfold L2.start
  by_cases hi : i < ds.length
  · rw [List.getElem?_append_left (by simpa using hi), List.getElem?_map] at h
    cases e : ds[i]? with
    | none => rw [e] at h; cases h
    | some d' =>
      rw [e] at h; cases h
      obtain ⟨v, hv, rv⟩ := r.get e
      exact ⟨v, by rw [List.getElem?_append_left (by simp; omega), List.getElem?_map, hv]; rfl, rv⟩
  · rw [List.getElem?_append_right (by simp; omega), List.getElem?_replicate] at h
    split at h <;> cases h
def endsD (m : Md) (Q : DQ) (E : Exn → Mp → Prop) : DEnds := { nx := fun _ M => Dr Q .non M, rt := Dr Q, ex := DrX m E }
section
variable {P : Program} {w : World} {K : PySem.W.Frag} {mg : Str → Option Value} {base : Heap} {x qual : Str} {params : Arguments} {body : List Stmt} {scope : Scope} {dvs : List V} {kws : List (Str × V)} {f : Addr} {fd : FuncData} {N ps : List Str} {k : Nat} {dsp : DSp}
/-- a def that raises nothing -/
theorem fn_no (F : FunD K x qual params body scope dvs kws f fd) (S : FnScope N ps scope) (len : ∀ ds M Q E, dsp ds M Q E → ds.length = ps.length)
    (hb : ∀ (cdv : Value) (A : Around) (outer : List Env) (s : Shared) (H : Hp) (E : XK), Room k (A.deeper (envOfC qual scope s.heap.objs.size f cdv)) → ∃ t, JB (cxOf CX0 P w K mg base N qual scope f cdv A outer s H E).nox body t ∧
      ∀ ds M Q E, dsp ds M Q E → t (endsD .no Q E) (startD N ds) M) : FnOk P w K mg base CX0 (k + 1) f fd ps (lift .no K dsp) := by
  refine F.ok S (fun vs H Q E ⟨ds, M, Qd, Ed, r, m, q, _⟩ => by rw [r.length]; exact len _ _ _ _ q) fun cdv A outer s H vs Q E hr ⟨ds, M, Qd, Ed, r, m, q, hc, _⟩ => ?_
  obtain ⟨t, j, h⟩ := hb cdv A outer s H E hr
  refine ⟨_, pb_wp.nox, ?_⟩
  refine j.run _ M _ _ H _ (h ds M Qd Ed q) (rep_start r) m ⟨fun σ' H' δ' M' k' _ m' ⟨M0, le, z⟩ => hc _ H' _ M0 k' .non (m'.le le) z, fun v H' d M' k' r' m' ⟨M0, le, z⟩ => hc _ H' _ M0 k' r' (m'.le le) z, fun _ _ _ _ _ _ _ z => z, fun _ _ _ _ _ _ _ z => z, ?_⟩
  rintro cls d σ' H' x h' δ' M' k' _ _ _ ⟨(z | ⟨z, _⟩), _⟩ <;> cases z
/-- a def that may raise where nothing is handled -/
theorem fn_cold (F : FunD K x qual params body scope dvs kws f fd) (S : FnScope N ps scope) (len : ∀ ds M Q E, dsp ds M Q E → ds.length = ps.length)
    (hb : ∀ (cdv : Value) (A : Around) (outer : List Env) (s : Shared) (H : Hp) (E : XK), Room k (A.deeper (envOfC qual scope s.heap.objs.size f cdv)) → ∃ t, JB (cxOf (L2N.CX P w) P w K mg base N qual scope f cdv A outer s H E) body t ∧
      ∀ ds M Q E, dsp ds M Q E → t (endsD .cold Q E) (startD N ds) M) : FnOk P w K mg base (L2N.CX P w) (k + 1) f fd ps (lift .cold K dsp) := by
  refine F.ok S (fun vs H Q E ⟨ds, M, Qd, Ed, r, m, q, _⟩ => by rw [r.length]; exact len _ _ _ _ q) fun cdv A outer s H vs Q E hr ⟨ds, M, Qd, Ed, r, m, q, hc, he⟩ => ?_
  obtain ⟨t, j, h⟩ := hb cdv A outer s H E hr
  refine ⟨_, pb_wp, ?_⟩
  refine j.run _ M _ _ H _ (h ds M Qd Ed q) (rep_start r) m ⟨fun σ' H' δ' M' k' _ m' ⟨M0, le, z⟩ => hc _ H' _ M0 k' .non (m'.le le) z, fun v H' d M' k' r' m' ⟨M0, le, z⟩ => hc _ H' _ M0 k' r' (m'.le le) z, fun _ _ _ _ _ _ _ z => z, fun _ _ _ _ _ _ _ z => z, ?_⟩
  rintro cls d σ' H' x h' δ' M' k' rx _ m' ⟨(z | ⟨_, z⟩), M0, le, e⟩
  · cases z
  · exact ⟨fun _ => accN_of (L2N.takes_of rfl rfl rfl rfl) (he (by intro y; cases y) cls d H' x M0 k' rx (m'.le le) e), fun y => by rw [z] at y; cases y⟩
/-- a def that may raise anyhow -/
theorem fn_any (F : FunD K x qual params body scope dvs kws f fd) (S : FnScope N ps scope) (len : ∀ ds M Q E, dsp ds M Q E → ds.length = ps.length)
    (hb : ∀ (cdv : Value) (A : Around) (outer : List Env) (s : Shared) (H : Hp) (E : XK), Room k (A.deeper (envOfC qual scope s.heap.objs.size f cdv)) → ∃ t, JB (cxOf (L2.CX P w) P w K mg base N qual scope f cdv A outer s H E) body t ∧
      ∀ ds M Q E, dsp ds M Q E → t (endsD .any Q E) (startD N ds) M) : FnOk P w K mg base (L2.CX P w) (k + 1) f fd ps (lift .any K dsp) := by
  refine F.ok S (fun vs H Q E ⟨ds, M, Qd, Ed, r, m, q, _⟩ => by rw [r.length]; exact len _ _ _ _ q) fun cdv A outer s H vs Q E hr ⟨ds, M, Qd, Ed, r, m, q, hc, he⟩ => ?_
  obtain ⟨t, j, h⟩ := hb cdv A outer s H E hr
  refine ⟨_, pb_wp, ?_⟩
  refine j.run _ M _ _ H _ (h ds M Qd Ed q) (rep_start r) m ⟨fun σ' H' δ' M' k' _ m' ⟨M0, le, z⟩ => hc _ H' _ M0 k' .non (m'.le le) z, fun v H' d M' k' r' m' ⟨M0, le, z⟩ => hc _ H' _ M0 k' r' (m'.le le) z, fun _ _ _ _ _ _ _ z => z, fun _ _ _ _ _ _ _ z => z, ?_⟩
  rintro cls d σ' H' x h' δ' M' k' rx _ m' ⟨_, M0, le, e⟩
  have z := acc2_of (L2.takes_of rfl rfl rfl rfl) (X := cxOf (L2.CX P w) P w K mg base N qual scope f cdv A outer s H E) (σ := σ') (he (by intro y; cases y) cls d H' x M0 k' rx (m'.le le) e)
  exact ⟨fun _ => accN_of2 z, fun _ => z⟩
end
end Tal
set_option maxHeartbeats 4000000
namespace Tal
open PySem PySem.Spec PyProof.Rows L2

/-! ### raise C('..'), nothing handled -/
def rRaise (C : Addr) : RS := fun P δ M => P.ex ⟨C, none⟩ false δ M
/-- what is known of an own exception class that the module's name x stands for -/
structure OkX (K : PySem.W.Frag) (mg : Str → Option Value) (x : Str) : Prop where
  mg : mg x = some (.ref (He.ga K x))
  ok : (He.Fa.exc x).ok K = true
theorem js_raise {X : Cx} {x m : Str} {j : Nat} {p p2 p3 pos : Pos} (F : OkX X.K X.mg x) (hc : X.calm = true) (hg : Gl X x := by rfl) (hdb : (x == ("__debug__" : Str)) = false := by decide) :
    JS X (.Raise (some (.Call (.Name x p) [.Constant (.str m) j p2] [] p3)) none pos) (rRaise (He.ga X.K x)) := by
  obtain ⟨q1, q2, q3, q4⟩ := He.exc_ok F.ok
  refine ⟨fun δ M P σ H E q hs hm hk => wpS_of (L2N.ps_raise hc (takesN X) (L2N.pmk_own PySem.F.excBase_ValueError q1 F.mg q2 (raises_own q3 q4) hg hdb)) ?_⟩
  exact (hk.ex _ none σ H ⟨He.ga X.K x, none⟩ false δ M (.refl H) ⟨rfl, fun _ => rfl, fun _ z => nomatch z⟩ hs hm q).1 rfl

/-! ### B.__init__(self, ..): B an own class that has ValueError's -/
structure OkI (K : PySem.W.Frag) (mg : Str → Option Value) (x : Str) : Prop where
  mg : mg x = some (.ref (He.ga K x))
  rd : ∃ mc, PySem.W.readsIn K (He.ga K x) mc = true ∧ PySem.W.findCls K (.ref (He.ga K x)) mc "__init__" = some (.val (.builtin "ValueError.__init__"))
  ga : PySem.W.specialIn K (.ref (He.ga K x)) "__getattribute__" = some (some (.builtin "type.__getattribute__"))
theorem pe_initB {X : Cx} {x : Str} {e : Expr} {es : List Expr} {ta : TA} {p1 p2 pos : Pos} {pl : Sem Bool} (F : OkI X.K X.mg x) (hg : Gl X x) (hdb : (x == ("__debug__" : Str)) = false) (ha : PA X (e :: es) ta)
    (hc : eval (.Call (.Attribute (.Name x p1) "__init__" p2) (e :: es) [] pos) X.env = (eval (.Name x p1) X.env >>= fun ov => standAt p2.atName >>= fun _ => holding [ov] (getMethod ov "__init__" pl) >>= fun r => callWith pos r.1 r.2 (backTo pos (starEach (e :: es) X.env)) (backToKw pos (keywordEach [] X.env))) := by rfl)
    (he : starEach (e :: es) X.env = (false, eval e X.env) :: starEach es X.env := by rfl) (hpl : (backTo pos (starEach es X.env)).any (·.1) = false := by rfl) :
    PE X (.Call (.Attribute (.Name x p1) "__init__" p2) (e :: es) [] pos) (tVeI X.K ta) := by
  obtain ⟨mc, h1, h2⟩ := F.rd
  refine ⟨fun pins s σ H Q I h => PySem.W.methodCall_KW (ld_glob I hg F.mg ?_ hdb) hc⟩
  refine PySem.W.method_cls I.kIn F.ga (PySem.W.cls_value I.kIn h1 h2 rfl ?_)
  show wpAny _ _ (callWith pos (Value.builtin "ValueError.__init__") [] _ []) _ _ _
  refine callWith_method1 (thn (ha.run pos pins _ σ H _ (I.tok _) h) ?_) he hpl
  rintro us s1 ⟨vs, H1, I1, r1, a, C, ws, rfl, hl, T, ea, q⟩
  obtain ⟨u0, ur, rfl⟩ : ∃ u0 ur, us = u0 :: ur := by cases r1; exact ⟨_, _, rfl⟩
  cases r1 with
  | cons ra rr =>
    have eu : u0 = Value.ref a := ra
    rw [eu]
    have hz : ur.length ≤ sizeLine := by have := Paired.length rr; have := sizeLine_eq; omega
    exact oinit_ok T I1 ea hz fun s' J => ⟨.non, H1, J, rfl, q⟩

/-! ### the __init__ of a class over such a one, that keeps its argument -/
def spAt (K : PySem.W.Frag) : Sp := fun vs H Q _ => ∃ (a C : Addr) (v : V), vs = [.ref a, v] ∧ OexC K C ∧ PySem.W.findIn K (.ref C) "at" = some none ∧ H a = some (exo a C none) ∧
  ∀ dx, H dx = none → dx ≠ a → Q .non (upd (upd H dx (exd dx [("at", v)])) a (exo a C (some dx)))
theorem atH {P : Program} {w : World} {K : PySem.W.Frag} {mg : Str → Option Value} {base : Heap} {f : Addr} {fd : FuncData} {x qual : Str} {params : Arguments} {body : List Stmt} {scope : Scope} {CX : CXT}
    (F : FunD K x qual params body scope [] [] f fd) (S : FnScope ["self", "at"] ["self", "at"] scope)
    (hb : ∀ (cdv : Value) (A : Around) (outer : List Env) (s : Shared) (H : Hp) (E : XK) (p : Addr × Obj), ∃ t u : TE, PSs (L2H.cxH CX P w K mg base ["self", "at"] qual scope f cdv A outer s H E p) body (tSeq (tDrop (tVeI K (tCons t (tCons u tNil)))) (tOst K "at" t (tVar 1))) ∧ t = tVar 0 ∧ u = tC (.str "a deed that is refused")) :
    L2H.FnH P w K mg base CX 1 f fd ["self", "at"] (spAt K) := by
  obtain ⟨oc, od, dV, kV, doc, pm, an, cdv, ct, osl, rfl, lk, hcd, _, _⟩ := F.ex
  refine L2H.fn_ofH lk hcd S (fun vs H Q E ⟨a, C, v, e, _⟩ => by rw [e]; rfl) fun A outer s H vs Q E p hp hr ⟨a, C, v, e, T, hn, ea, q⟩ => ?_
  obtain ⟨t, u, h, rfl, rfl⟩ := hb cdv A outer s H E p
  subst e
  refine ⟨_, h, V.ref a, rfl, a, C, [.str "a deed that is refused"], rfl, by decide, T, ea, v, rfl, V.ref a, rfl, a, C, rfl, T, hn, .inl ⟨ea, q⟩⟩
end Tal
set_option maxHeartbeats 4000000
/-! raise C(..) from e, e the exception that is handled -/
namespace Tal
open PySem PySem.Spec PyProof.Rows L2 HotX
/-- the fields of e's cause are written -/
def causeAt (h : Heap) (a : Addr) (c : Value) : Heap := (h.update a (Obj.mapFields (·.setIfInBounds 3 c))).update a (Obj.mapFields (·.setIfInBounds 4 (.bool true)))
theorem causeAt_ne {h : Heap} {a b : Addr} {c : Value} (n : a ≠ b) : (causeAt h a c).get? b = h.get? b := (Heap.get?_update_other _ _ n).trans (Heap.get?_update_other _ _ n)
theorem causeAt_at {h : Heap} {a : Addr} {c : Value} {oe : Obj} {vs : Array Value} (g : h.get? a = some oe) (d : oe.data = .fields vs) :
    ∃ o2, (causeAt h a c).get? a = some o2 ∧ o2.cls = oe.cls ∧ o2.dict = oe.dict ∧ o2.data = .fields ((vs.setIfInBounds 3 c).setIfInBounds 4 (.bool true)) := by
  have d3 := Obj.data_mapFields d (·.setIfInBounds 3 c)
  have d4 := Obj.data_mapFields d3 (·.setIfInBounds 4 (.bool true))
  exact ⟨_, Heap.get?_update_self _ (Heap.get?_update_self _ g (Obj.isFreed_of_fields d3)) (Obj.isFreed_of_fields d4), by rw [Obj.cls_mapFields, Obj.cls_mapFields], by rw [HandSPX.dict_mapFields, HandSPX.dict_mapFields], d4⟩
theorem notType {M : Model} {A : Around} {E : Value → Shared → Prop} {s : Shared} {a : Addr} {o : Obj} {vs : Array Value} {Q : Bool → Shared → Prop} (g : s.heap.get? a = some o) (d : o.data = .fields vs) (q : Q false s) : wpAny M A (isType (.ref a)) Q E s := by
  simp only [isType, loadHead]
  exact wpAny_bind (wpAny_loadPart g (by rw [d]; exact wpAny_pure q))
theorem excVal {M : Model} {A : Around} {E : Value → Shared → Prop} {s : Shared} {a : Addr} {o : Obj} {vs : Array Value} {m : String} {Q : Value → Shared → Prop} (g : s.heap.get? a = some o) (d : o.data = .fields vs) (L : PySem.W.Looks M s.heap (isSubtype o.cls (.type "BaseException")) true) (q : Q (.ref a) s) :
    wpAny M A (excFromValue (.ref a) m) Q E s := by
  have T : PySem.W.Looks M s.heap (typeOf (.ref a)) o.cls := fun A Q E s k q => wpAny_typeOf_ref (k _ _ g) q
  have I : PySem.W.Looks M s.heap (isInstance (.ref a) (.type "BaseException")) true := T.andThen L
  unfold excFromValue isExcClass
  refine wpAny_bind (wpAny_bind (notType g d ?_))
  simp only [Bool.false_eq_true, if_false]
  refine wpAny_pure ?_
  simp only [Bool.false_eq_true, if_false]
  refine wpAny_bind (I.here ?_)
  simp only [if_true]
  exact wpAny_pure q
theorem raise_from {prog : Program} {w : World} {A : Around} {E : Value → Shared → Prop} {env : Env} {s : Shared} {x c : Sem Value} {Q : Flow → Shared → Prop} {x1 : Addr}
    (h : wpAny (model prog w) A x (fun v s₁ => ∃ a oe vs, v = .ref a ∧ s₁.heap.get? a = some oe ∧ oe.data = .fields vs ∧ vs[1]? = some .none ∧ 4 < vs.size ∧ x1 ≠ a ∧ HotAt A x1 s₁.heap ∧
      (∀ Q' : Value → Shared → Prop, Q' (.ref x1) s₁ → wpAny (model prog w) A c Q' E s₁) ∧
      PySem.W.Looks (model prog w) s₁.heap (isSubtype oe.cls (.type "BaseException")) true ∧ (∀ o1, s₁.heap.get? x1 = some o1 → PySem.W.Looks (model prog w) s₁.heap (isSubtype o1.cls (.type "BaseException")) true) ∧
      PySem.W.Looks (model prog w) (causeAt s₁.heap a (.ref x1)) (typeOf oe.cls) (.type "type") ∧
      E (.ref a) { s₁ with heap := (causeAt s₁.heap a (.ref x1)).update a (Obj.mapFields (·.setIfInBounds 2 (.ref x1))) }) E s) :
    wpAny (model prog w) A (raiseStmt env (some x) (some c)) Q E s := by
  unfold raiseStmt
  dsimp only
  refine wpAny_bind (wpAny_mono h (fun v s₁ h₁ => ?_) fun _ _ x => x)
  obtain ⟨a, oe, vs, rfl, ha, hd, h1, hi, hne, hot, hcs, L1, L2', L3, hE⟩ := h₁
  obtain ⟨hh, o1, vs1, g1, d1, c1⟩ := id hot
  obtain ⟨o2, g2, e2, _, d2⟩ := causeAt_at (c := .ref x1) ha hd
  have d3 := Obj.data_mapFields hd (·.setIfInBounds 3 (Value.ref x1))
  have g3 := Heap.get?_update_self (Obj.mapFields (·.setIfInBounds 3 (Value.ref x1))) ha (Obj.isFreed_of_fields d3)
  have hot2 : HotAt A x1 (causeAt s₁.heap a (.ref x1)) := ⟨hh, o1, vs1, (causeAt_ne (Ne.symm hne)).trans g1, d1, c1⟩
  have T2 : PySem.W.Looks (model prog w) (causeAt s₁.heap a (.ref x1)) (typeOf (.ref a)) oe.cls := fun A Q E s k q => wpAny_typeOf_ref (k _ _ g2) (by rw [e2]; exact q)
  have n1 : ((vs.setIfInBounds 3 (Value.ref x1)).setIfInBounds 4 (Value.bool true))[1]? = some Value.none := set_other (by decide) (set_other (by decide) h1)
  have rest : wpAny (model prog w) A (do
      let b ← isType (.ref a)
      if b = true then (do let e ← holding [.ref a] (raisedFor (.ref a) (.ref a)); setFlight e none; raiseNew e) else (do let e ← raisedInstance (.ref a); setFlight e none; raiseNew e) : Sem Flow) Q E { s₁ with heap := causeAt s₁.heap a (.ref x1) } := by
    refine wpAny_bind (notType g2 d2 ?_)
    simp only [Bool.false_eq_true, if_false]
    unfold raisedInstance
    refine wpAny_bind (wpAny_bind (T2.here (wpAny_bind (L3.here ?_))))
    rw [if_pos (beq_self_eq_true _)]
    refine wpAny_pure ?_
    unfold setFlight
    refine wpAny_bind (wpAny_bind (wpAny_field g2 d2 n1 ?_))
    rw [if_neg (by decide)]
    exact wpAny_pure (raiseNew_hot hot2 hne g2 d2 (by simp; omega) hE)
  refine wpAny_bind (wpAny_holding (hcs _ (wpAny_bind (wpAny_pure ?_))))
  dsimp only
  refine wpAny_bind (wpAny_holding (excVal ha hd L1 ?_))
  have ne : (Value.ref x1 == Value.none) = false := rfl
  simp only [ne, Bool.false_eq_true, if_false]
  exact wpAny_bind (wpAny_holding (excVal g1 d1 (L2' o1 g1) (wpAny_bind (wpAny_setField ha hd (by omega) (wpAny_bind (wpAny_setField g3 d3 (by simp; omega) rest))))))

/-- the statement: what the clause handles stands at p, its class is one of exceptions -/
theorem ps_raiseFrom {X : Cx} {W : WX} {e : Expr} {t : L2.St → Hp → XK → Prop} {i : Nat} {n : Str} {cpos pos : Pos} {p : Addr × Obj} (hh : L2H.Hot1 X.A p) (hp : p ∈ X.pn) (hk : PySem.W.subIn X.K p.2.cls (.type "BaseException") = some true)
    (hi : X.N[i]? = some n) (hv : X.env.kindOf n = some .local) (hdb : (n == ("__debug__" : Str)) = false) (tk : L2.Takes X W) (he : L2H.PMk5 X e t) :
    PS X (.Raise (some e) (some (.Name n cpos)) pos) (fun _ σ H => σ[i]? = some (some (.ref p.1)) ∧ t σ H fun cls d H' => W cls d σ H') := by
  refine ⟨fun pins s σ H D I ⟨hs, h⟩ => ?_⟩
  show wpAny _ _ (do standAt pos; raiseStmt X.env (some (do let v ← eval e X.env; standAt pos; pure v)) (some (do let v ← eval (.Name n cpos) X.env; standAt pos; pure v))) _ _ _
  refine wpAny_bind (wpAny_standAt (raise_from (x1 := p.1) (wpAny_bind (thn (he pins s σ H _ I h) fun u s1 hu => wpAny_bind (wpAny_standAt (wpAny_pure ?_))))))
  obtain ⟨⟨a, oe, vs, sI, H', cls, d, rfl, J, k, hne, ha, hz, hd, h1, na, os, ag, r, q⟩, h5⟩ := hu
  have hi4 : 4 < vs.size := h5 a oe vs rfl ha hd
  obtain ⟨P1, _⟩ := J.pin p (List.mem_append_left _ hp)
  have nap : p.1 ≠ a := fun z => by rw [z, hne] at P1; cases P1
  have kc : ∀ b u, sI.heap.get? b = some u → (causeAt s1.heap a (.ref p.1)).get? b = some u := fun b u z => by
    rw [causeAt_ne (fun y => by rw [← y, hne] at z; cases z)]; exact k b u z
  obtain ⟨r1, _⟩ := r (model X.prog X.w) s1.heap (J.kIn.keeps k)
  obtain ⟨_, r2⟩ := r (model X.prog X.w) (causeAt s1.heap a (.ref p.1)) (J.kIn.keeps kc)
  obtain ⟨v1, e1, c1⟩ := hh.2
  obtain ⟨m, hn, hl⟩ := J.loc
  obtain ⟨u, ru, l⟩ := hl i n (.ref p.1) hi hs (.inl hv)
  have eu : u = Value.ref p.1 := ru
  subst eu
  have hn1 : s1.heap.Ns X.env.locals m := hn.at fun o q => k _ _ q
  have hm : m n = some (Value.ref p.1) := by
    rcases l with ⟨_, l⟩ | ⟨z | z, _⟩
    · exact l
    · rw [hv] at z; cases z
    · rw [hv] at z; cases z
  obtain ⟨o2, g2, e2, f2, d2⟩ := causeAt_at (c := .ref p.1) ha hd
  have d6 := Obj.data_mapFields d2 (·.setIfInBounds 2 (Value.ref p.1))
  rw [← hz.1] at r1 r2
  refine ⟨a, oe, vs, rfl, ha, hd, h1, hi4, nap, ⟨hh.1, p.2, v1, k _ _ P1, e1, c1⟩, fun Q' q' => wpAny_bind (wpAny_Name (wpAny_loadName_local J.ok.kind hv hn1 hm (wpAny_bind (wpAny_standAt (wpAny_pure q')))) hdb), r1, fun o1 g1 => ?_, r2,
    tk _ _ (L2.XE.new J (fun b u z => ?_) hne (Heap.get?_update_self _ g2 (Obj.isFreed_of_fields d6)) ⟨by rw [Obj.cls_mapFields, e2]; exact hz.1, by rw [HandSPX.dict_mapFields, f2]; exact hz.2.1⟩ d6 (set_other (by decide) (set_other (by decide) (set_other (by decide) h1))) na os ag q)⟩
  · rw [k _ _ P1] at g1
    cases g1
    exact PySem.W.looks_subIn (J.kIn.keeps k) hk
  · show ((causeAt s1.heap a (.ref p.1)).update a _).get? b = some u
    rw [Heap.get?_update_other _ _ (fun y => by rw [← y, hne] at z; cases z)]
    exact kc b u z
end Tal
set_option maxHeartbeats 4000000
/-! an except suite with a name that raises; one that keeps the exception -/
namespace Tal
open PySem PySem.Spec PyProof.Rows L2
section
variable {X : Cx} {pins : List (Addr × Obj)} {σ : St} {H : Hp} {sI s : Shared} {B : Heap} {a : Addr} {cls : Value} {d : Option Addr} {W : WX} {n : Str} {pos : Pos} {A : Around}
theorem blank (I : Inv X pins σ H s) : Inv X pins (List.replicate X.N.length none) H s := I.weak (by simp [I.len]) fun i v e => by
  rw [List.getElem?_replicate] at e
  split at e <;> cases e
/-- the frame's dict is another one, no slot is known -/
theorem Inv.redict (I : Inv X pins σ H s) {h' : Heap} {m : Str → Option Value} (hn : h'.Ns X.env.locals m) (hs : Heap.SameBut X.env.locals s.heap h') : Inv X pins (List.replicate X.N.length none) H { s with heap := h' } := by
  have far : ∀ b o, X.s_0.heap.get? b = some o → b ≠ X.env.locals := fun b o e => Nat.ne_of_lt (Nat.lt_of_lt_of_le (Heap.lt_size e) I.ok.above)
  refine ⟨I.ok, I.os, I.bare, ⟨fun b o e z hb hx => (hs.2 b (far b o e)).trans (I.base.keep b o e z hb hx), fun b o e z hb hx => ?_, I.base.free, fun b o e hx => ?_, I.base.tups, I.base.frzs, I.base.tbls⟩, ⟨m, hn, fun i x v _ e _ => ?_⟩,
    fun y c e => ?_, I.free, I.freeC, fun p hp => ?_, fun b ob e => ?_, by simp⟩
  · obtain ⟨sl, z⟩ := I.base.slot b o e z hb hx
    exact ⟨sl, (hs.2 b (far b o e)).trans z⟩
  · obtain ⟨o', z⟩ := I.base.there b o e hx
    exact ⟨o', (hs.2 b (far b o e)).trans z⟩
  · rw [List.getElem?_replicate] at e
    split at e <;> cases e
  · obtain ⟨v, z⟩ := I.cell y c e
    exact ⟨v, z.sameBut hs (I.cne y c e)⟩
  · obtain ⟨z1, z2, z3, z4⟩ := I.pin p hp
    exact ⟨(hs.2 p.1 z3).trans z1, z2, z3, z4⟩
  · refine (I.hok b ob e).stay (fun c v hc q => (hs.2 c fun z => ?_).trans q) (fun _ q => q) fun _ _ q => q
    rw [z] at hc
    rcases hc with hc | hc
    · have z2 := I.free
      rw [hc, e] at z2; cases z2
    · have z2 := I.free
      rw [hc] at z2; cases z2
theorem gone_held {E E' : Value → Shared → Prop} (hs : X.stack = X.env :: X.outer) (hf : X.env.frame = some X.env.locals) (J : Inv X pins σ H sI) (nb : ∀ b o, sI.heap.get? b = some o → b ∉ frs X.stack → B.get? b = some o) (up : sI.heap.UpToSlots s.heap)
    (hh : HandSPX.HeldZ B (X.env :: X.outer) a (Zc cls d) X.env.locals s.heap) (na : H a = none) (os : s.os = sI.os) (ag : AllBare s.gens) (hl : X.env.kindOf n = some .local) (w : W cls d (List.replicate X.N.length none) H) (k : ∀ u s', XE X W u s' → E' u s') :
    wpAny (model X.prog X.w) A (do bindName X.env n .none; unbindBehindTheSuite X.env n pos) (fun _ s4 => wpAny (model X.prog X.w) A (PySem.passOn "try.except-as" (.ref a) X.env : Sem Flow) (fun _ _ => False) E' s4) E s := by
  obtain ⟨m, hn, _⟩ := J.loc
  obtain ⟨oL, es, ep, hoL, hdL, hkL, hfL⟩ := id hn
  obtain ⟨sl, hoL'⟩ := up _ _ hoL (fun vs q => by rw [hdL] at q; cases q)
  have hnS : s.heap.Ns X.env.locals m := ⟨_, es, ep, hoL', hdL, hkL, hfL⟩
  have kd : (X.env.scope.kind == .class || (X.env.scope.kind == .module && X.env.locals != X.env.globals)) = false := by rw [J.ok.kind]; rfl
  have inS : X.env.locals ∈ frs X.stack := by rw [hs]; exact List.mem_filterMap.mpr ⟨X.env, List.mem_cons_self, hf⟩
  refine wpAny_nameGoes_keeps hl hnS kd fun h2 v hn2 hs2 => ?_
  obtain ⟨b1, b0, f1, oe, vs, T, oT, ts, he, hz, hd, h1, hnT, hTe, hT, hdT, h3⟩ := hh
  have notL : ∀ {b : Addr} {o : Obj} {us : Array Value}, s.heap.get? b = some o → o.data = .fields us → b ≠ X.env.locals := fun {b o us} g y z => by
    rw [z, hoL'] at g; cases g
    rw [show ({ oL with slots := sl } : Obj).data = oL.data from rfl, hdL] at y; cases y
  have bL : B.get? X.env.locals = none := (f1.mem (by rw [← hs]; exact inS)).1
  have hh2 : HandSPX.HeldZ B (X.env :: X.outer) a (Zc cls d) X.env.locals h2 :=
    ⟨fun b o e => (hs2.2 b fun z => by rw [z, bL] at e; cases e).trans (b1 b o e), b0, Heap.FunFrames.sameBut hs2 hn2 f1, oe, vs, T, oT, ts, (hs2.2 a (notL he hd)).trans he, hz, hd, h1, hnT, hTe, (hs2.2 T (notL hT hdT)).trans hT, hdT, h3⟩
  obtain ⟨_, _, _, _, _, _, _, _, he2, _, hd2, h12, _⟩ := id hh2
  unfold PySem.passOn
  refine wpAny_bind (wpAny_field he2 hd2 h12 ?_)
  rw [if_neg (show ¬ ((Value.ref _ == Value.none) = true) from by simp), hf]
  have fin : wpAny (model X.prog X.w) A (setFlight (.ref a) (some X.env.locals)) (fun _ s4 => wpAny (model X.prog X.w) A (throw (.ref a) : Sem Flow) (fun _ _ => False) E' s4) E' { s with heap := h2, toks := s.toks + 1 } := by
    refine HandSPX.setFlight_onZ hh2 fun h4 hh4 up4 => wpAny_throw (k _ _ ?_)
    obtain ⟨o5, es5, ep5, ho5, hd5, hk5, hf5⟩ := id hn2
    obtain ⟨hI, eI, nI⟩ : ∃ hI : Heap, Heap.SameBut X.env.locals sI.heap hI ∧ hI.get? X.env.locals = some o5 :=
      ⟨sI.heap.update X.env.locals fun _ => o5, ⟨by simp [Heap.update], fun b hb => Heap.get?_update_other _ _ (Ne.symm hb)⟩, Heap.get?_update_self (fun _ => o5) hoL (by obtain ⟨c5, q5, t5, l5⟩ := o5; cases hd5; rfl)⟩
    have JI := Inv.redict J (m := fun x => if x = n then v else m x) ⟨o5, es5, ep5, nI, hd5, hk5, hf5⟩ eI
    have u1 : hI.UpToSlots h2 := fun b o e nf => by
      by_cases hb : b = X.env.locals
      · subst hb
        rw [nI] at e; cases e
        exact ⟨_, ho5⟩
      · rw [eI.2 b hb] at e
        obtain ⟨sl2, z⟩ := up b o e nf
        exact ⟨sl2, (hs2.2 b hb).trans z⟩
    exact ⟨a, B, _, pins, _, H, cls, d, rfl, JI, fun b o e hb => nb b o ((eI.2 b fun z => hb (by rw [z]; exact inS)).symm.trans e) hb, u1.trans up4, .inr (.inr (by rw [hs]; exact hh4)), na, os, ag, w⟩
  first
    | exact wpAny_bind (wpAny_pure (wpAny_bind fin))
    | exact wpAny_bind fin
end

/-! ### try: .. except x as n: a suite that raises -/
abbrev fromX (X : Cx) (a : Addr) (pn : List (Addr × Obj)) (G : XK) : Cx := (L2H.suiteX X a pn).wish fun u s' => XE X (fun cls d _ H => G cls d H) u s'
/-- what is wished of an exception of the body -/
def wFrom (K : PySem.W.Frag) (c : Value) (i : Nat) (ts : Addr → Value → Option Addr → TS) : WX := fun cls d σ H => PySem.W.exmOne K cls c = some true ∧ ∀ a, H a = none → ts a cls d { nx := fun _ _ => False, rt := fun _ _ => False } (σ.set i (some (.ref a))) H
section
variable {X : Cx} {x n : Str} {c : Value} {i : Nat} {body suite : List Stmt} {b₀ : Stmt} {np pos pos' : Pos} {tb : WX → TS} {ts : Addr → Value → Option Addr → TS} {G : XK}
theorem landed_at {pins : List (Addr × Obj)} {σ : St} {H : Hp} {sI s' : Shared} {B h3 : Heap} {a : Addr} {Z : Obj → Prop} (hs : X.stack = X.env :: X.outer) (hf : X.env.frame = some X.env.locals) (J : Inv X pins σ H sI) (nb : ∀ b o, sI.heap.get? b = some o → b ∉ frs X.stack → B.get? b = some o)
    (up : sI.heap.UpToSlots h3) (os : s'.os = sI.os) (ag : AllBare s'.gens) (fl : HandSPX.FlyingZ B (X.env :: X.outer) a Z h3) : Inv X pins σ H { s' with heap := h3 } ∧ a ≠ X.env.locals ∧ a ∉ X.fs ∧ ∃ oe vs, h3.get? a = some oe ∧ Z oe ∧ oe.data = .fields vs := by
  obtain ⟨oe, vs, ho, hz, hd⟩ := fl.there
  have no : a ∉ frs (X.env :: X.outer) := fun hm => by
    obtain ⟨_, o', e', q⟩ := fl.2.2.1.mem hm
    rw [ho] at e'; cases e'
    exact q _ hd
  refine ⟨J.landed nb fl.1 up os ag, fun z => no (List.mem_filterMap.mpr ⟨X.env, List.mem_cons_self, by rw [hf, z]⟩), fun hm => ?_, oe, vs, ho, hz, hd⟩
  obtain ⟨e, he, q⟩ := List.mem_filterMap.mp hm
  exact no (List.mem_filterMap.mpr ⟨e, List.mem_cons_of_mem _ he, q⟩)
theorem ps_try_from (hs : X.stack = X.env :: X.outer) (hf : X.env.frame = some X.env.locals) (hN : X.N.Nodup) (hi : X.N[i]? = some n) (hln : X.env.kindOf n = some .local) (hc : Names X x c) (hpa : ∀ hd : Option Value, PassesOwnAt (model X.prog X.w) (X.A.mark hd) X.A X.env X.xe)
    (tk : L2.Takes X fun cls d _ H => G cls d H)
    (hb : ∀ (W : WX) (pn : List (Addr × Obj)) (xe : Value → Shared → Prop), L2N.Takes (X.tr pn xe) W → PassesOwn (model X.prog X.w) X.A X.env xe → PSs (X.tr pn xe) body (tb W))
    (hsu : ∀ (a : Addr) (oe : Obj) (cls : Value) (d : Option Addr) (pn : List (Addr × Obj)), L2N.Zn cls d oe → L2H.Hot1 (X.A.mark (some (.ref a))) (a, oe) → L2.Takes (fromX X a ((a, oe) :: pn) G) (fun cls d _ H => G cls d H) → PSs (fromX X a ((a, oe) :: pn) G) (b₀ :: suite) (ts a cls d)) :
    PS X (.Try body [.ExceptHandler (some (.Name x np)) (some n) (b₀ :: suite) pos'] [] [] pos) (fun D σ H => tb (wFrom X.K c i ts) D σ H) := by
  refine ⟨fun pins s σ H D I h => wpAny_Try_except ?_⟩
  have ok := I.ok
  have hfr : X.A.frames = some (X.env :: X.outer) := by rw [ok.frames, hs]
  refine wpAny_mono ((hb _ (X.pn ++ pins) (fun e s₁ => wpAny (model X.prog X.w) X.A (noteFrame e X.env) (fun _ s₂ => wpAny (model X.prog X.w) X.A (setFlight e none) (fun _ s₃ =>
    wpAny (model X.prog X.w) X.A (handleBy e X.env [.ExceptHandler (some (.Name x np)) (some n) (b₀ :: suite) pos']) (SP X pins D) X.xe s₃) X.xe s₂) X.xe s₁) (fun u s' xx => ?_) PassesOwn.looking).run [] s σ H D (I.toTry _) h) (fun f s1 hsp => ?_) fun e s1 he => he
  · obtain ⟨a, B, sI, pins', σ', H', cls, d, rfl, J', nb, up, sky, na, os, ag, hb1, hts⟩ := xx
    have J : Inv X pins σ' H' sI := J'.ofTry ok
    show wpAny (model X.prog X.w) X.A (noteFrame (.ref a) X.env) _ _ _
    refine L2N.Sky.land L2N.Zn.steady hfr hf (show Sky B (X.env :: X.outer) a (L2N.Zn cls d) X.env.locals s'.heap by rw [← hs]; exact sky) fun h3 fl3 up3 => ?_
    obtain ⟨J3, nL, nF, oe3, vs3, he3, hz3, hd3⟩ := landed_at (s' := s') hs hf J nb (up.trans up3) os ag fl3
    have S3 := J3.suite he3 hd3 na nL nF
    refine wpAny_handleBy_cons (codeAny_handlers_test ?_) (by intro q; cases q)
    have LT : PySem.W.Looks (model X.prog X.w) h3 (typeOf (.ref a)) cls := fun A Q E s k q => wpAny_typeOf_ref (k _ _ he3) (by rw [hz3.1]; exact q)
    have LM := PySem.W.exm_one (M := model X.prog X.w) (J3.kIn) LT hb1
    have test : ∀ {Q : Value → Shared → Prop} {E : Value → Shared → Prop}, Q c { s' with heap := h3 } → wpAny (model X.prog X.w) (X.A.mark (some (.ref a))) (eval (.Name x np) X.env) Q E { s' with heap := h3 } := fun {Q E} q => by
      rcases hc with ⟨hg, hdbg, hm | ⟨hm, hv, hnn⟩⟩
      · exact ld_glob S3 hg hm q hdbg
      · exact ld_blt S3 hg hm hv q hnn hdbg
    refine test (LM.here (codeAny_handlers_suite_as (HandSPX.lands_againZ fl3 fun h4 fl4 up4 => ?_)))
    obtain ⟨J4, _, _, oe4, vs4, he4, hz4, hd4⟩ := landed_at (s' := s') hs hf J nb ((up.trans up3).trans up4) os ag fl4
    have S4 : Inv (fromX X a ((a, oe4) :: (X.pn ++ pins)) G) [] σ' H' { s' with heap := h4 } := Inv.wish (L2H.suiteX_of (J4.suite he4 hd4 na nL nF)) _
    refine store_ok (X := fromX X a ((a, oe4) :: (X.pn ++ pins)) G) (v := .ref a) S4 hN hi (.inl hln) rfl (fun s5 S5 => ?_) (.inr hln)
    have hot : L2H.Hot1 (X.A.mark (some (.ref a))) (a, oe4) := ⟨rfl, vs4, hd4, hz4.2.2 vs4 hd4⟩
    refine wpAny_mono ((hsu a oe4 cls d (X.pn ++ pins) hz4 hot fun u2 s2 x2 => ?_).run [] s5 _ H' _ S5 (hts a na)) (fun f s6 hsp => ?_) fun e6 s6 z => ?_
    · obtain ⟨a2, B2, sI2, pn2, σ2, H2, cls2, d2, e2, I2, nb2, up2, sky2, na2, os2, ag2, w2⟩ := x2
      exact ⟨a2, B2, sI2, pins, σ2, H2, cls2, d2, e2, L2H.unsuiteX (Inv.unwish I2) ok, nb2, up2, sky2, na2, os2, ag2, w2⟩
    · cases f <;> simp [SP] at hsp
    · obtain ⟨a2, B2, sI2, pn2, σ2, H2, cls2, d2, rfl, J2, nb2, up2, sky2, na2, os2, ag2, w2⟩ := z
      have fr2 : (X.A.mark (some (.ref a))).frames = some (X.env :: X.outer) := hfr
      rw [hs] at sky2
      rcases sky2 with ⟨hB, hn, hl, oe, vs, he, hz, hd, h1⟩ | fl | hh
      · exact HandSPX.look_newZ Zc.steady fr2 hl hf he hB hn hd h1 hz fun h1 hh up1 => gone_held (s := { s6 with heap := h1 }) (n := n) (pos := pos') (W := fun cls d _ H => G cls d H) hs hf J2 nb2 (up2.trans up1) hh na2 os2 ag2 hln w2 fun u s' z => hpa (some (.ref a)) u s' (tk u s' z)
      · exact HandSPX.looks_onZ Zc.steady fr2 hf fl fun h1 hh up1 => gone_held (s := { s6 with heap := h1 }) (n := n) (pos := pos') (W := fun cls d _ H => G cls d H) hs hf J2 nb2 (up2.trans up1) hh na2 os2 ag2 hln w2 fun u s' z => hpa (some (.ref a)) u s' (tk u s' z)
      · exact HandSPX.againZ hf hh.2.2.2 (gone_held (s := s6) (n := n) (pos := pos') (W := fun cls d _ H => G cls d H) hs hf J2 nb2 up2 hh na2 os2 ag2 hln w2 fun u s' z => hpa (some (.ref a)) u s' (tk u s' z))
  · cases f with
    | next =>
      obtain ⟨σ', H', J', q⟩ := hsp
      exact wpAny_execs_nil ⟨σ', H', J'.ofTry ok, q⟩
    | brk => exact let ⟨σ', H', J', q⟩ := hsp; ⟨σ', H', J'.ofTry ok, q⟩
    | cont => exact let ⟨σ', H', J', q⟩ := hsp; ⟨σ', H', J'.ofTry ok, q⟩
    | ret u => exact let ⟨v, σ', H', J', r, q⟩ := hsp; ⟨v, σ', H', J'.ofTry ok, r, q⟩
end

/-! ### try: .. except x as n: y = n -/
def wHold (K : PySem.W.Frag) (c : Value) (i j : Nat) (D : Ends) : WX := fun cls d σ H => PySem.W.exmOne K cls c = some true ∧ ∀ a, H a = none → D.nx (((σ.set i (some (.ref a))).set j (some (.ref a))).set i none) (upd H a (ExT cls d a))
section
variable {X : Cx} {x n y : Str} {c : Value} {i j : Nat} {body : List Stmt} {np p1 p2 p3 pos pos' : Pos} {tb : WX → TS}
theorem ps_try_hold (hs : X.stack = X.env :: X.outer) (hf : X.env.frame = some X.env.locals) (hN : X.N.Nodup) (hi : X.N[i]? = some n) (hln : X.env.kindOf n = some .local) (hj : X.N[j]? = some y) (hly : X.env.kindOf y = some .local) (hc : Names X x c) (hdn : (n == ("__debug__" : Str)) = false) (hcn : (n == ("__classdict__" : Str)) = false)
    (hsw : ∀ a pn, swapsWith (.Name n p2) (some (.Name y p1)) p3.line (X.suite a pn).env = pure false)
    (hb : ∀ (W : WX) (pn : List (Addr × Obj)) (xe : Value → Shared → Prop), L2.Takes (X.tr pn xe) W → PassesOwn (model X.prog X.w) X.A X.env xe → PSs (X.tr pn xe) body (tb W)) :
    PS X (.Try body [.ExceptHandler (some (.Name x np)) (some n) [.Assign [.Name y p1] (.Name n p2) p3] pos'] [] [] pos) (fun D σ H => tb (wHold X.K c i j D) D σ H) := by
  refine ⟨fun pins s σ H D I h => wpAny_Try_except ?_⟩
  have ok := I.ok
  have hfr : X.A.frames = some (X.env :: X.outer) := by rw [ok.frames, hs]
  refine wpAny_mono ((hb _ (X.pn ++ pins) (fun e s₁ => wpAny (model X.prog X.w) X.A (noteFrame e X.env) (fun _ s₂ => wpAny (model X.prog X.w) X.A (setFlight e none) (fun _ s₃ =>
    wpAny (model X.prog X.w) X.A (handleBy e X.env [.ExceptHandler (some (.Name x np)) (some n) [.Assign [.Name y p1] (.Name n p2) p3] pos']) (SP X pins D) X.xe s₃) X.xe s₂) X.xe s₁) (fun u s' xx => ?_) PassesOwn.looking).run [] s σ H D (I.toTry _) h) (fun f s1 hsp => ?_) fun e s1 he => he
  · obtain ⟨a, B, sI, pins', σ', H', cls, d, rfl, J', nb, up, sky, na, os, ag, hb1, hts⟩ := xx
    have J : Inv X pins σ' H' sI := J'.ofTry ok
    show wpAny (model X.prog X.w) X.A (noteFrame (.ref a) X.env) _ _ _
    refine L2.Sky.land Zc.steady hfr hf (show Sky B (X.env :: X.outer) a (Zc cls d) X.env.locals s'.heap by rw [← hs]; exact sky) fun h3 fl3 up3 => ?_
    obtain ⟨J3, nL, nF, oe3, vs3, he3, hz3, hd3⟩ := landed_at (s' := s') hs hf J nb (up.trans up3) os ag fl3
    have S3 := J3.suite he3 hd3 na nL nF
    refine wpAny_handleBy_cons (codeAny_handlers_test ?_) (by intro q; cases q)
    have LT : PySem.W.Looks (model X.prog X.w) h3 (typeOf (.ref a)) cls := fun A Q E s k q => wpAny_typeOf_ref (k _ _ he3) (by rw [hz3.1]; exact q)
    have LM := PySem.W.exm_one (M := model X.prog X.w) (J3.kIn) LT hb1
    have test : ∀ {Q : Value → Shared → Prop} {E : Value → Shared → Prop}, Q c { s' with heap := h3 } → wpAny (model X.prog X.w) (X.A.mark (some (.ref a))) (eval (.Name x np) X.env) Q E { s' with heap := h3 } := fun {Q E} q => by
      rcases hc with ⟨hg, hdbg, hm | ⟨hm, hv, hnn⟩⟩
      · exact ld_glob S3 hg hm q hdbg
      · exact ld_blt S3 hg hm hv q hnn hdbg
    refine test (LM.here (codeAny_handlers_suite_as (HandSPX.lands_againZ fl3 fun h4 fl4 up4 => ?_)))
    obtain ⟨_, _, _, oe4, vs4, he4, hz4, hd4⟩ := landed_at (s' := s') hs hf J nb ((up.trans up3).trans up4) os ag fl4
    have noS : a ∉ frs X.stack := fun hm => by
      rw [hs] at hm
      obtain ⟨e, he, q⟩ := List.mem_filterMap.mp hm
      rcases List.mem_cons.mp he with z | z
      · rw [z, hf] at q; exact nL (Option.some.inj q).symm
      · exact nF (List.mem_filterMap.mpr ⟨e, z, q⟩)
    have noI : sI.heap.get? a = none := by
      cases q : sI.heap.get? a with
      | none => rfl
      | some o => have z := nb a o q noS; rw [fl4.2.1] at z; cases z
    obtain ⟨G, g1, g2⟩ := restrict h4 fun b => decide (b ≠ a)
    have gk : ∀ b, b ≠ a → G.get? b = h4.get? b := fun b hb => g1 b (decide_eq_true hb)
    have ga : G.get? a = none := g2 a (by simp)
    have upG : sI.heap.UpToSlots G := fun b o e nf => by
      obtain ⟨sl, z⟩ := ((up.trans up3).trans up4) b o e nf
      exact ⟨sl, (gk b fun y => by rw [y, noI] at e; cases e).trans z⟩
    have JG : Inv X pins σ' H' { s' with heap := G } := J.landed nb (fun b o e => (gk b fun y => by rw [y, fl4.2.1] at e; cases e).trans (fl4.1 b o e)) upG os ag
    have JT : Inv X pins σ' (upd H' a (ExT cls d a)) { s' with heap := h4 } := JG.laidN (t' := s'.toks) (fun b u e => by
      by_cases hb : b = a
      · rw [hb, ga] at e; cases e
      · rw [← gk b hb]; exact e) ga na ⟨⟨oe4, vs4, he4, hz4, hd4⟩, ⟨_, he4⟩, fun h1 h2 ⟨oe, vs, z1, z2⟩ k => ⟨oe, vs, k _ z1, z2⟩⟩
    have S4 : Inv (X.suite a (X.pn ++ pins)) [] σ' (upd H' a (ExT cls d a)) { s' with heap := h4 } :=
      ⟨JT.ok.suite _ _, JT.os, JT.bare, JT.base, JT.loc, JT.cell, JT.free, JT.freeC, fun p hp => JT.pin p (by rw [List.append_nil] at hp; exact hp), JT.hok, JT.len⟩
    have lenN : σ'.length = X.N.length := J.len
    refine store_ok (X := X.suite a (X.pn ++ pins)) (v := .ref a) S4 hN hi (.inl hln) rfl (fun s5 S5 => ?_) (.inr hln)
    have run := (pss_one (ps_set (X := X.suite a (X.pn ++ pins)) (i := j) hN hj (.inl hly) (pe_var (i := i) hi (.inl hln) hdn hcn) (hsw a _) (.inr hly))).run [] s5 _ _ { nx := fun σ6 H6 => D.nx (σ6.set i none) H6, rt := fun _ _ => False } S5
      ⟨.ref a, List.getElem?_set_self (by rw [lenN]; exact (List.getElem?_eq_some_iff.mp hi).1), hts a na⟩
    refine wpAny_mono run (fun f s6 hsp => ?_) fun _ _ z => z.elim
    cases f with
    | next =>
      obtain ⟨σ6, H6, S6, q6⟩ := hsp
      have J6 : Inv X pins σ6 H6 s6 := ⟨ok, S6.os, S6.bare, S6.base, S6.loc, S6.cell, S6.free, S6.freeC, fun p hp => S6.pin p (List.mem_append_left _ hp), S6.hok, S6.len⟩
      exact gone_ok J6 hN hi hln fun s7 J7 => ⟨_, _, J7, q6⟩
    | brk => obtain ⟨_, _, _, z⟩ := hsp; exact z.elim
    | cont => obtain ⟨_, _, _, z⟩ := hsp; exact z.elim
    | ret u => obtain ⟨_, _, _, _, _, z⟩ := hsp; exact z.elim
  · cases f with
    | next =>
      obtain ⟨σ', H', J', q⟩ := hsp
      exact wpAny_execs_nil ⟨σ', H', J'.ofTry ok, q⟩
    | brk => exact let ⟨σ', H', J', q⟩ := hsp; ⟨σ', H', J'.ofTry ok, q⟩
    | cont => exact let ⟨σ', H', J', q⟩ := hsp; ⟨σ', H', J'.ofTry ok, q⟩
    | ret u => exact let ⟨v, σ', H', J', r, q⟩ := hsp; ⟨v, σ', H', J'.ofTry ok, r, q⟩
end
end Tal
set_option maxHeartbeats 4000000
/-! the two except clauses over data; what is asked of an exception that is kept -/
namespace Tal
open PySem PySem.Spec PyProof.Rows L2
/-- a class of exceptions that keeps its argument as .at -/
structure OkF (P : Program) (w : World) (K : PySem.W.Frag) (mg : Str → Option Value) (base : Heap) (x : Str) : Prop where
  oex : OexC K (He.ga K x)
  no : PySem.W.findIn K (.ref (He.ga K x)) "at" = some none
  ini : ∃ (f : Addr) (fd : FuncData), PySem.W.findIn K (.ref (He.ga K x)) "__init__" = some (some (.ref f)) ∧ PySem.W.typeIn K (.ref f) = some (.type "function") ∧ L2H.FnH P w K mg base CX0 1 f fd ["self", "at"] (spAt K) ∧ Binds K fd ["self", "at"] []
  mg : mg x = some (.ref (He.ga K x))
def noSlot (X : Cx) : Dst := List.replicate X.N.length none
theorem rep_none {K : PySem.W.Frag} {H : Hp} {n : Nat} : RepS K H (List.replicate n none) (List.replicate n none) := ⟨by simp, fun i d e => by
  rw [List.getElem?_replicate] at e
  split at e <;> cases e⟩
def rFrom (X : Cx) (c : Addr) (i : Nat) (C : Addr) (ta : RA) (tb : RS) : RS := fun P δ M => tb { P with ex := fun x h δ' M' => (h = false) ∧ PySem.W.exmOne X.K (.ref x.cls) (.ref c) = some true ∧ PySem.W.subIn X.K (.ref x.cls) (.type "BaseException") = some true ∧
  (∀ a, ta (δ'.set i (some (.ref a))) M' (fun ds M2 => ∃ n, ds = [.int n] ∧ P.ex ⟨C, some n⟩ true (noSlot X) M2) (fun _ _ _ _ => False)) } δ M
theorem made_eq {H : Hp} {a d : Addr} {o1 o2 o3 o4 : HO} (n : H a = none) : upd (del (upd (upd (upd H a o1) d o2) a o3) a) d o4 = upd H d o4 := by
  funext b
  by_cases e : b = d
  · rw [e, upd_same, upd_same]
  · rw [upd_ne e, upd_ne e]
    by_cases q : b = a
    · rw [q, del_same, n]
    · rw [del_ne q, upd_ne q, upd_ne e, upd_ne q]
theorem js_from {X : Cx} {x n y : Str} (i : Nat) {body : List Stmt} {e : Expr} {np p1 p2 p3 pos pos' pos2 : Pos} {ta : RA} {tb : RS} (F : OkF X.prog X.w X.K X.mg X.base y) (hr : Room 2 X.A) (hs : X.stack = X.env :: X.outer) (hf : X.env.frame = some X.env.locals) (hN : X.N.Nodup)
    (hc : X.mg x = some (.ref (He.ga X.K x))) (hpa : ∀ hd : Option Value, PassesOwnAt (model X.prog X.w) (X.A.mark hd) X.A X.env X.xe)
    (hb : ∀ (pn : List (Addr × Obj)) (xe : Value → Shared → Prop), PassesOwn (model X.prog X.w) X.A X.env xe → JB (X.tr pn xe) body tb) (ha : ∀ a pn G, JA (fromX X a pn G) [e] ta)
    (hi : X.N[i]? = some n := by rfl) (hln : X.env.kindOf n = some .local := by rfl) (hg : Gl X x := by rfl) (hgy : Gl X y := by rfl) (hdx : (x == ("__debug__" : Str)) = false := by decide) (hdy : (y == ("__debug__" : Str)) = false := by decide) (hdn : (n == ("__debug__" : Str)) = false := by decide)
    (he : ∀ a pn G, starEach [e] (fromX X a pn G).env = (false, eval e (fromX X a pn G).env) :: starEach [] (fromX X a pn G).env := by intro _ _ _; rfl) (hpl : ∀ a pn G, (backTo p2 (starEach [] (fromX X a pn G).env)).any (·.1) = false := by intro _ _ _; rfl) :
    JS X (.Try body [.ExceptHandler (some (.Name x np)) (some n) [.Raise (some (.Call (.Name y p1) [e] [] p2)) (some (.Name n p3)) pos'] pos2] [] [] pos) (rFrom X (He.ga X.K x) i (He.ga X.K y) ta tb) := by
  obtain ⟨T, no, ⟨f, fd, iC, tI, F1, bF⟩, hm⟩ := F
  refine ⟨fun δ M P σ H E q hs' hm' hk => ?_⟩
  let G : XK := fun cls d H => acc2 X cls d (List.replicate X.N.length none) H
  have tk : L2.Takes X fun cls d _ H => G cls d H := fun u s' ⟨a, B, sI, pins, σ, H, cls, d, ea, I, nb, up, sky, na, os, ag, w⟩ => w u s' ⟨a, B, sI, pins, _, H, cls, d, ea, blank I, nb, up, sky, na, os, ag, rfl, rfl, rfl, rfl⟩
  let suite : List Stmt := [.Raise (some (.Call (.Name y p1) [e] [] p2)) (some (.Name n p3)) pos']
  refine wpS_of (ps_try_from (G := G) (tb := fun W D σ H => ∀ pn xe, L2N.Takes (X.tr pn xe) W → PassesOwn (model X.prog X.w) X.A X.env xe → wpB (X.tr pn xe) body D σ H)
    (ts := fun a cls d D σ H => ∀ oe pn, L2N.Zn cls d oe → L2H.Hot1 (X.A.mark (some (.ref a))) (a, oe) → L2.Takes (fromX X a ((a, oe) :: pn) G) (fun cls d _ H => G cls d H) → wpB (fromX X a ((a, oe) :: pn) G) suite D σ H) hs hf hN hi hln ⟨hg, hdx, .inl hc⟩ hpa tk
    (fun W pn xe t1 t2 => ⟨fun pins s σ H D I h => h pn xe t1 t2 pins s I⟩) (fun a oe cls d pn t1 t2 t3 => ⟨fun pins s σ H D I h => h oe pn t1 t2 t3 pins s I⟩)) ?_
  intro pn xe tkb po
  refine (hb pn xe po).run δ M _ σ H E q hs' hm' ⟨hk.nx, hk.rt, hk.bk, hk.ct, ?_⟩
  rintro cls d σ' H' x h δ' M' k' rx rs rm ⟨rfl, z1, z2, z3⟩
  refine ⟨fun _ => accN_of tkb ?_, fun y => nomatch y⟩
  obtain ⟨rfl, _, _⟩ := rx
  refine ⟨z1, fun a na oe pn2 hz hot tkS pins s I => ?_⟩
  have len : i < σ'.length := by
    have l1 := I.len
    rw [List.length_set] at l1
    rw [l1]
    exact (List.getElem?_eq_some_iff.mp hi).1
  refine (pss_one (ps_raiseFrom (X := fromX X a ((a, oe) :: pn2) G) (p := (a, oe)) hot List.mem_cons_self (by rw [hz.1]; exact z2) hi hln hdn tkS
    (L2H.pmk5_oexH T iC tI F1 (L2H.roomH_mark hr _) ⟨(a, oe), hot, List.mem_cons_self⟩ bF pass0 hgy hm pa_wp hdy (he _ _ _) (hpl _ _ _)))).run pins s _ _ _ I ⟨List.getElem?_set_self len, ?_⟩
  refine (ha a ((a, oe) :: pn2) G).run _ M' _ _ _ H' _ (z3 a) (rs.set i (.ref a)) rm (fun vs H1 ds M2 _ k1 r1 m1 q1 => ?_) ContX.no
  obtain ⟨m, rfl, q1⟩ := q1
  cases r1 with
  | cons rv rn =>
    cases rn
    cases rv
    refine ⟨by simp, fun a2 n2 => ⟨a2, He.ga X.K y, .int m, rfl, T, no, upd_same, fun dx nd ne => ⟨rfl, dx, [("at", V.int m)], upd_same, ?_, ?_, ?_⟩⟩⟩
    · rw [upd_ne ne, upd_same]
    · rw [upd_ne ne] at nd; exact nd
    · have n1 : H1 dx = none := by rw [upd_ne ne] at nd; exact nd
      rw [made_eq n2]
      exact (hk.ex _ (some dx) (List.replicate X.N.length none) _ ⟨He.ga X.K y, some m⟩ true (noSlot X) M2 ((k'.trans k1).trans (.new n1)) ⟨rfl, (fun z => nomatch z), fun i2 e2 => ⟨dx, rfl, by cases e2; exact upd_same⟩⟩ rep_none (m1.skip n1) q1).2 rfl

/-! ### the exception is kept -/
def rHold (X : Cx) (c : Addr) (i j : Nat) (tb : RS) : RS := fun P δ M => tb { P with ex := fun x _ δ' M' => PySem.W.exmOne X.K (.ref x.cls) (.ref c) = some true ∧ ∀ a, M' a = none → P.nx (((δ'.set i none).set j (some (.ref a)))) (mup M' a (.exc x.cls x.num)) } δ M
theorem js_hold {X : Cx} {x n y : Str} (i j : Nat) {body : List Stmt} {np p1 p2 p3 pos pos' : Pos} {tb : RS} (hs : X.stack = X.env :: X.outer) (hf : X.env.frame = some X.env.locals) (hN : X.N.Nodup) (hij : i ≠ j)
    (hc : X.mg x = some (.ref (He.ga X.K x))) (hb : ∀ (pn : List (Addr × Obj)) (xe : Value → Shared → Prop), PassesOwn (model X.prog X.w) X.A X.env xe → JB (X.tr pn xe) body tb)
    (hi : X.N[i]? = some n := by rfl) (hj : X.N[j]? = some y := by rfl) (hln : X.env.kindOf n = some .local := by rfl) (hly : X.env.kindOf y = some .local := by rfl) (hg : Gl X x := by rfl) (hdx : (x == ("__debug__" : Str)) = false := by decide) (hdn : (n == ("__debug__" : Str)) = false := by decide) (hcn : (n == ("__classdict__" : Str)) = false := by decide)
    (hsw : ∀ a pn, swapsWith (.Name n p2) (some (.Name y p1)) p3.line (X.suite a pn).env = pure false := by intro _ _; rfl) :
    JS X (.Try body [.ExceptHandler (some (.Name x np)) (some n) [.Assign [.Name y p1] (.Name n p2) p3] pos'] [] [] pos) (rHold X (He.ga X.K x) i j tb) := by
  refine ⟨fun δ M P σ H E q hs' hm' hk => ?_⟩
  refine wpS_of (ps_try_hold (tb := fun W D σ H => ∀ pn xe, L2.Takes (X.tr pn xe) W → PassesOwn (model X.prog X.w) X.A X.env xe → wpB (X.tr pn xe) body D σ H) hs hf hN hi hln hj hly ⟨hg, hdx, .inl hc⟩ hdn hcn hsw (fun W pn xe t1 t2 => ⟨fun pins s σ H D I h => h pn xe t1 t2 pins s I⟩)) ?_
  intro pn xe tkb po
  refine (hb pn xe po).run δ M _ σ H E q hs' hm' ⟨hk.nx, hk.rt, hk.bk, hk.ct, ?_⟩
  rintro cls d σ' H' xn h δ' M' k' rx rs rm ⟨z1, z2⟩
  have w : wHold X.K (.ref (He.ga X.K x)) i j E cls d σ' H' := by
    obtain ⟨rfl, r2, r3⟩ := rx
    refine ⟨z1, fun a na => ?_⟩
    have ka : Keep H' (upd H' a (ExT (.ref xn.cls) d a)) := .new na
    have e : ((σ'.set i (some (.ref a))).set j (some (.ref a))).set i none = (σ'.set i none).set j (some (.ref a)) := by
      rw [List.set_comm _ _ (Ne.symm hij), List.set_set]
    rw [e]
    refine hk.nx _ _ _ _ (k'.trans ka) (((rs.wipe1 i).keep ka).set j (.ref a)) (rm.add (o := .exc xn.cls xn.num) na ⟨d, upd_same, r2, fun i2 e2 => ?_⟩) (z2 a (rm.free na))
    obtain ⟨dd, e3, e4⟩ := r3 i2 e2
    exact ⟨dd, e3, by rw [upd_ne (ne_of_none e4 na)]; exact e4⟩
  exact ⟨fun _ => accN_of2 (acc2_of tkb w), fun _ => acc2_of tkb w⟩

/-! ### isinstance of it, its number -/
theorem exc_class {prog : Program} {w : World} {A : Around} {E : Value → Shared → Prop} {K : PySem.W.Frag} {x D : Addr} {ox : Obj} {od : Option Obj} {Q : Option Value → Shared → Prop} {s : Shared} (C : ExcC K D) (X : K.In s.heap) (I : PySem.W.InstAt s.heap x ox D od)
    (h : Q (some (.ref D)) { s with toks := s.toks + 1 }) : wpAny (model prog w) A (getAttr? (.ref x) "__class__") Q E s :=
  PySem.W.kx_classE X I C.hg C.hk C.hs (PySem.W.findObj_dataE (by obtain ⟨cd, hc, _⟩ := PySem.W.any_some C.hd; rw [hc]; rfl) C.ha C.hn C.ht) C.hm h
theorem exc_kit {K : PySem.W.Frag} {x D : Addr} (C : ExcC K D) : PySem.W.KitX K (.ref x) (.ref D) (fun h => ∃ ox od, PySem.W.InstAt h x ox D od) where
  ty := fun M h X ⟨ox, od, I⟩ => I.type
  it := fun M h X _ => by
    obtain ⟨cd, hc, _⟩ := PySem.W.any_some C.hd
    intro A' Q' E' s' k q
    unfold PySem.W.clsIn at hc
    split at hc
    · rename_i g
      simp only [isType, loadHead]
      exact wpAny_bind (wpAny_loadPart (k _ _ (X _ _ g)) (wpAny_pure q))
    · cases hc
  ne := fun h tp dd its n sl X g => by
    obtain ⟨cd, hc, _⟩ := PySem.W.any_some C.hd
    cases q : (Value.ref D == Value.ref tp) with
    | false => rfl
    | true =>
      obtain rfl : D = tp := Value.ref.inj (beq_iff_eq.mp q)
      unfold PySem.W.clsIn at hc
      split at hc
      · rename_i g2
        have z := (X _ _ g2).symm.trans g
        cases z
      · cases hc
  ca := fun X ⟨ox, od, I⟩ k => exc_class C X I k

/-- isinstance(e, C) of a kept exception -/
def fIsX (K : PySem.W.Frag) : FC := fun ds M Q => ∃ (a C B : Addr) (n : Option Int) (b : Bool), ds = [.ref a, .ref B] ∧ M a = some (.exc C n) ∧ ExcC K C ∧ PySem.W.kitOne K (.ref C) (.ref B) = some b ∧ Q (.bl b) M
def fIsXT (K : PySem.W.Frag) : FC := fun ds M Q => ∃ (a C : Addr) (n : Option Int) (T : String) (b : Bool), ds = [.ref a, .ty T] ∧ M a = some (.exc C n) ∧ ExcC K C ∧ PySem.W.kitOne K (.ref C) (.type T) = some b ∧ Q (.bl b) M
/-- a kept exception is an instance of its class -/
theorem exc_inst {X : Cx} {pins : List (Addr × Obj)} {σ : St} {H : Hp} {s : Shared} {M : Mp} {a C : Addr} {n : Option Int} (I : Inv X pins σ H s) (m : RepM X.K H M) (e : M a = some (.exc C n)) : ∃ ox od, PySem.W.InstAt s.heap a ox C od := by
  obtain ⟨d, h1, h2, h3⟩ := m a _ e
  obtain ⟨⟨oe, vs, g, hz, hd⟩, _⟩ : ObjOk X.prog X.w H s.heap a (ExT (.ref C) d a) := I.hok a _ h1
  have nc : PySem.W.notCls oe = true := by
    obtain ⟨oc, od, oda, osl⟩ := oe
    cases hd; rfl
  cases n with
  | none =>
    obtain rfl := h2 rfl
    exact ⟨oe, none, g, hz.1, nc, by rw [hz.2]; trivial⟩
  | some i =>
    obtain ⟨dd, rfl, h4⟩ := h3 i rfl
    have hx : ObjOk X.prog X.w H s.heap dd (.xd [("at", .int i)]) := I.hok dd _ h4
    obtain ⟨mA, hns, hr⟩ := hx
    obtain ⟨od, ho, _⟩ := lookIn_ns hns
    exact ⟨oe, some od, g, hz.1, nc, by rw [hz.2]; exact ho⟩
def rIsXv (K : PySem.W.Frag) (M : Mp) : List V → Hp → VK → Prop := fun xs H Q => ∃ (a C : Addr) (n : Option Int) (c : V) (cv : Value) (b : Bool), xs = [.ref a, c] ∧ (∀ u, RelV c u → u = cv) ∧ RepM K H M ∧ M a = some (.exc C n) ∧ ExcC K C ∧ PySem.W.kitOne K (.ref C) cv = some b ∧ Q (.bl b) H
theorem call_isX {X : Cx} : CallR X (.builtin "isinstance") (fun xs H Q => ∃ M, rIsXv X.K M xs H Q) := by
  rintro pins s σ H xs us Q I r ⟨M, a, C, n, c, cv, b, rfl, hcv, m, e, hC, hk, q⟩
  cases r with
  | cons rx rr =>
    cases rr with
    | cons rt rr =>
      cases rr
      cases rx
      obtain rfl := hcv _ rt
      exact PySem.W.kia_one (exc_kit hC) I.kIn (exc_inst I m e) hk (fun z => nomatch z) fun tk => ⟨.bl b, H, I.kept (t' := tk) fun _ _ z => z, rfl, q⟩
theorem o_isX {X : Cx} : CallR X (.builtin "isinstance") (fun xs H Q => ∃ M, rIsXv X.K M xs H Q) ∧ LiftC X.K (fun xs H Q => ∃ M, rIsXv X.K M xs H Q) (fun ds M Q => fIsX X.K ds M Q ∨ fIsXT X.K ds M Q) := by
  refine ⟨call_isX, ?_⟩
  rintro ds vs H M Q Qv (⟨a, C, B, n, b, rfl, e, hC, hk, q⟩ | ⟨a, C, n, T, b, rfl, e, hC, hk, q⟩) r hm hc
  · obtain ⟨v, w, rfl, r1, r2⟩ := reps2 r
    cases r1; cases r2
    exact ⟨M, a, C, n, _, .ref B, b, rfl, fun u z => z, hm, e, hC, hk, hc _ H _ M (.refl H) (.bl _) hm q⟩
  · obtain ⟨v, w, rfl, r1, r2⟩ := reps2 r
    cases r1; cases r2
    exact ⟨M, a, C, n, _, .type T, b, rfl, fun u z => z, hm, e, hC, hk, hc _ H _ M (.refl H) (.bl _) hm q⟩
/-- e.at of a kept exception -/
def rAt (K : PySem.W.Frag) (t : RE) : RE := fun δ M Q E => t δ M (fun o M1 => ∃ (a C : Addr) (i : Int), o = .ref a ∧ M1 a = some (.exc C (some i)) ∧ XfC K C ∧ PySem.W.findIn K (.ref C) "at" = some none ∧ Q (.int i) M1) E
theorem je_at {X : Cx} {e : Expr} {te : RE} {pos : Pos} (he : JE X e te) (hb : attributeBase e "at" X.env (eval e X.env) = eval e X.env := by rfl) : JE X (.Attribute e "at" pos) (rAt X.K te) := by
  refine ⟨fun δ M Q E σ H Qv q hs hm hc hx pins s I => attr_of hb (thn (he.run δ M _ E σ H (fun v H1 => ∃ (M1 : Mp) (a C : Addr) (i : Int), v = .ref a ∧ RepM X.K H1 M1 ∧ M1 a = some (.exc C (some i)) ∧ XfC X.K C ∧ PySem.W.findIn X.K (.ref C) "at" = some none ∧ Qv (.int i) H1) q hs hm (fun v H1 d M1 k1 r1 m1 q1 => ?_) hx pins s I) fun u s1 hh => ?_)⟩
  · obtain ⟨a, C, i, rfl, ea, h1, h2, q2⟩ := q1
    cases r1
    exact ⟨M1, a, C, i, rfl, m1, ea, h1, h2, hc _ H1 _ M1 k1 (.int i) m1 q2⟩
  · obtain ⟨x, H1, I1, rx, M1, a, C, i, rfl, m1, ea, T, hno, q2⟩ := hh
    obtain rfl : u = Value.ref a := rx
    obtain ⟨d, h1, h2, h3⟩ := m1 a _ ea
    obtain ⟨⟨oe, vs, g, hz, hd⟩, _⟩ : ObjOk X.prog X.w H1 s1.heap a (ExT (.ref C) d a) := I1.hok a _ h1
    obtain ⟨dd, rfl, h4⟩ := h3 i rfl
    have hx : ObjOk X.prog X.w H1 s1.heap dd (.xd [("at", .int i)]) := I1.hok dd _ h4
    obtain ⟨mA, hns, hr⟩ := hx
    obtain ⟨od, ho, hl⟩ := lookIn_ns hns
    obtain ⟨u, hu, ru⟩ := RelO.some_of (v := .int i) (o := mA "at") (by have z := hr "at"; exact z)
    have J : PySem.W.InstAt s1.heap a oe C (some od) := ⟨g, hz.1, by obtain ⟨oc, od, oda, osl⟩ := oe; cases hd; rfl, by rw [hz.2]; exact ho⟩
    exact HandSPX.exc_get I1.kIn J T.ga T.gg T.exC (PySem.W.findObj_own T.hdC hno rfl (by rw [hl, hu])) (handed_of ru) ⟨.int i, H1, I1.tok _, ru, q2⟩
end Tal
set_option maxHeartbeats 4000000
/-! len(set(xs)), xs a list of texts, no two of them alike -/
namespace Tal
open PySem PySem.Spec PyProof.Rows L2
section
variable {prog : Program} {w : World} {A : Around} {I : Addr} {fp wr : List Addr} {G : Array GenState → Array GenState → Prop} {n : Nat} {P : Nat → Value → Prop} {St : Nat → Shared → Prop}
abbrev metS (xs : List Str) (i : Nat) : Str → Bool := fun z => decide (z ∈ xs.take i)
theorem metS_next {xs : List Str} (nd : xs.Nodup) {i : Nat} (hi : i < xs.length) : metS xs i (xs.getD i Str.empty) = false ∧ ∀ z, (metS xs i z || decide (z = xs.getD i Str.empty)) = metS xs (i + 1) z := by
  have e : xs.getD i Str.empty = xs[i] := by rw [List.getD_eq_getElem?_getD, List.getElem?_eq_getElem hi]; rfl
  have t : xs.take (i + 1) = xs.take i ++ [xs[i]] := by rw [List.take_succ, List.getElem?_eq_getElem hi]; rfl
  refine ⟨?_, fun z => ?_⟩
  · unfold metS
    rw [e]
    refine decide_eq_false fun h => ?_
    obtain ⟨j, hj, q⟩ := List.getElem_of_mem h
    have hl : j < i := by rw [List.length_take] at hj; omega
    rw [List.getElem_take] at q
    exact absurd q (List.pairwise_iff_getElem.mp nd j i (by omega) hi hl)
  · unfold metS
    have q : (z ∈ xs.take i ++ [xs[i]]) ↔ (z ∈ xs.take i ∨ z = xs[i]) := by rw [List.mem_append, List.mem_singleton]
    rw [e, t, decide_eq_decide.mpr q, Bool.decide_or]
theorem loopT {R : Result → Shared → Prop} (W : WalksS prog w A.in1 I fp wr G n P St) (T : Addr) (hT : T ∉ fp) (xs : List Str) (nd : xs.Nodup) (hn : xs.length = n) (few : n < 64) (at_ : ∀ i v, P i v → ∃ t, v = .str (xs.getD i Str.empty) t) :
    ∀ (m i : Nat) (s : Shared), n - i = m → i ≤ n → St i s → s.heap.SetOf (PySem.strKind prog w) T (metS xs i) i →
      (∀ s', Moved (T :: wr) G s s' → s'.heap.SetOf (PySem.strKind prog w) T (metS xs n) n → R (.ok (.ret .none)) s') → codeAny (model prog w) A (.builtin "set.update.loop" ⟨[.ref T, .ref I], []⟩) R s := by
  have hTw : T ∉ wr := fun h => hT (W.sub _ h)
  have sub : ∀ b ∈ wr, b ∈ T :: wr := fun b hb => List.mem_cons_of_mem _ hb
  have on : ∀ {s s' : Shared} {i : Nat}, Moved wr G s s' → s.heap.SetOf (PySem.strKind prog w) T (metS xs i) i → s'.heap.SetOf (PySem.strKind prog w) T (metS xs i) i := fun mv ⟨o, es, ep, tb, g, r⟩ => ⟨o, es, ep, tb, mv.heap T _ hTw g, r⟩
  intro m
  induction m with
  | zero =>
    intro i s hm hi st hS k
    obtain rfl : i = n := by omega
    refine codeAny_builtin PyProof.Rows.F.entry_set_update_loop ?_
    rw [Around.under_plainId PyProof.Rows.F.plain_set_update_loop _]
    show wpAny _ A.in1 (pyNext (.ref I) >>= _) _ _ s
    exact wpAny_bind (W.done s _ _ st fun s' mv => wpAny_pure (k s' (mv.mono sub) (on mv hS)))
  | succ m ih =>
    intro i s hm hi st hS k
    have hlt : i < n := by omega
    obtain ⟨new, next⟩ := metS_next nd (i := i) (by omega)
    refine codeAny_builtin PyProof.Rows.F.entry_set_update_loop ?_
    rw [Around.under_plainId PyProof.Rows.F.plain_set_update_loop _]
    show wpAny _ A.in1 (pyNext (.ref I) >>= _) _ _ s
    refine wpAny_bind (W.item i s _ _ hlt st fun v s1 hP st1 mv => ?_)
    obtain ⟨t, rfl⟩ := at_ i v hP
    show wpAny _ A.in1 (holding [Value.str (xs.getD i Str.empty) t] (setAdd T (.str (xs.getD i Str.empty) t)) >>= _) _ _ s1
    unfold setAdd
    refine wpAny_bind (wpAny_holding (wpAny_holding (wpAny_bind ((PySem.strKind prog w).pyHash (k := xs.getD i Str.empty) (strKind_is _ _ _ _) ?_))))
    refine wpAny_setAddHashed_of (knd := PySem.strKind prog w) (s := { s1 with toks := s1.toks + 1 }) (strKind_is _ _ _ _) rfl (on (s' := s1) mv hS) (by unfold scanBound; omega) fun h2 sb hS2 => ?_
    have hS3 : h2.SetOf (PySem.strKind prog w) T (metS xs (i + 1)) (i + 1) := PyProof.Rows.SetOf_congr hS2 (fun z => next z) (by rw [new]; rfl)
    have stay : ∀ b, b ≠ T → ∀ o, s1.heap.get? b = some o → h2.get? b = some o := fun b hb o e => by rw [sb.2 b hb]; exact e
    exact wpAny_pure ⟨plainId_quiet PyProof.Rows.F.plain_set_update_loop _, ih (i + 1) _ (by omega) hlt (W.frame _ s1 _ _ st1 (Nat.le_succ _) fun b hb o e => stay b (fun z => hT (by rw [← z]; exact hb)) o e) hS3 fun s3 mv3 z =>
      k s3 (Moved.trans W.gtrans ((mv.mono sub).then_heap (Nat.le_succ _) fun b o hb e => stay b (fun y => hb (by rw [y]; exact List.mem_cons_self)) o e) mv3) z⟩
end
section
variable {prog : Program} {w : World} {A : Around} {E : Value → Shared → Prop} {s : Shared}
theorem setOfTexts {l : Addr} {items : Array Value} {xs : List Str} {Q : Value → Shared → Prop} (hh : A.handled = none) (hl : s.heap.IsList l items) (hx : PyProof.Rows.StrsAre items.toList xs) (nd : xs.Nodup) (few : xs.length < 64)
    (h : ∀ (h' : Heap) (tk : Nat), h'.SetOf (PySem.strKind prog w) s.heap.objs.size (metS xs items.size) items.size → (∀ b o, b < s.heap.objs.size → s.heap.get? b = some o → h'.get? b = some o) → Q (.ref s.heap.objs.size) { s with heap := h', toks := tk }) :
    wpAny (model prog w) A (call (.type "set") [.ref l]) Q E s := by
  have F := PySem.F.called_set
  obtain ⟨c, tl, hmro⟩ := F.mro
  have f1 := F.made; have f2 := F.sub; have f3 := F.notType; have f4 := F.canCreate; have f5 := PySem.F.typeCall_set_1 (.ref l)
  refine wpAny_call (codeAny_of_tree (show wpAny _ _ (callAny (.type "set") _) _ _ _ from wpAny_pure ⟨Code.quiet_builtin _ (by decide +kernel), codeAny_builtin PySem.F.entry_type_call ?_⟩))
  rw [Around.under_plain (weight_type_call_type "set" [.ref l] []) rfl]
  repeat (any_goals (first | assumption | wp_step))
  generalize hN : s.heap.objs.size = T
  refine codeAny_mono (code_set_new_1 (.ref l) (E := E) (Q₁ := fun obj s₁ => ∃ b : Bool, obj = .ref T ∧ s₁ = { s with heap := s.heap.push { cls := .type "set", dict := none, data := .set #[] 0 (.fresh 0 0 b) } }) fun b => ⟨b, by rw [hN], rfl⟩) fun r s₁ hr => ?_
  cases r with
  | error e => exact hr
  | ok fl =>
  cases fl with
  | ret obj =>
    obtain ⟨b, rfl, rfl⟩ := hr
    generalize hO : ({ cls := .type "set", dict := none, data := .set #[] 0 (.fresh 0 0 b) } : Obj) = O
    have hS : (s.heap.push O).get? T = some O := by rw [← hN]; exact Heap.get?_push_size _ (by rw [← hO]; rfl)
    have hT : Shared.TypeIs { s with heap := s.heap.push O } (.ref T) "set" := ⟨_, hS, by rw [← hO]⟩
    have f6 := F.init.lookup
    have f7 := F.init.bind (.ref T)
    repeat (any_goals (first | assumption | wp_step))
    refine codeAny_mono (codeAny_call_builtin (R := wants (fun r s₂ => r = .none ∧ ∃ h' tk, s₂ = { s with heap := h', toks := tk } ∧ h'.SetOf (PySem.strKind prog w) T (metS xs items.size) items.size ∧ (∀ b o, b < T → s.heap.get? b = some o → h'.get? b = some o)) E) F.init.plain PySem.F.entry_set_init (check_set_init_1 hT ?_)) fun r₂ s₂ hr₂ => ?_
    · obtain ⟨⟨lc, ld, ldt, lsl⟩, hol, hc, nl, hdl⟩ := id hl
      simp only at hc hdl
      subst hc hdl
      have hlT : l < T := by rw [← hN]; exact Heap.lt_size hol
      have hol' : (s.heap.push O).get? l = some { cls := .type "list", dict := ld, data := .seq items nl, slots := lsl } := Heap.get?_push_of_some _ hol
      have k1 := PySem.F.sub_list_set; have k2 := PySem.F.sub_list_frozenset
      have k3 : (Value.type "list" == Value.type "dict") = false := by decide
      have hl1 : (s.heap.push O).IsList l items := ⟨_, hol', rfl, nl, rfl⟩
      have sz : (s.heap.push O).objs.size = T + 1 := by rw [Heap.size_push, hN]
      subst hO
      unfold Builtin.«set.__init__» noKeywords Builtin.Frozenset.updateFrom
      generalize hPI : pyIter = PI
      wp_walk
      subst hPI
      refine wpAny_pyIter_list hl1 ?_
      refine wpAny_bind (wpAny_runValue ?_)
      have hh3 : A.in1.in1.in1.handled = none := by simp [hh]
      have ne : l ≠ (s.heap.push ({ cls := .type "set", dict := none, data := .set #[] 0 (.fresh 0 0 b) } : Obj)).objs.size := by rw [sz]; exact Nat.ne_of_lt (Nat.lt_succ_of_lt hlT)
      have apart : T ∉ [(s.heap.push ({ cls := .type "set", dict := none, data := .set #[] 0 (.fresh 0 0 b) } : Obj)).objs.size, l] := by
        rw [sz]
        intro h
        rcases List.mem_cons.mp h with h | h
        · exact absurd h (Nat.ne_of_lt (Nat.lt_succ_self T))
        · rcases List.mem_cons.mp h with h | h
          · exact absurd h (Nat.ne_of_gt hlT)
          · cases h
      have len : xs.length = items.size := by rw [← StrsAre.len_eq hx, Array.length_toList]
      refine loopT ((Walks.list hh3 _ l ne items).toS) T apart xs nd len (by omega) (fun i v hv => SS.strs_at hx i v (by rw [Array.getElem?_toList]; exact hv)) (items.size - 0) 0 _ rfl (Nat.zero_le _) ⟨⟨_, Heap.get?_push_size _ rfl, rfl, rfl⟩, (hl1.push _)⟩ ?st ?fin
      case st =>
        exact PyProof.Rows.SetOf_congr ((PyProof.Rows.setObjOf_fresh (knd := PySem.strKind prog w) b).setOf (Heap.get?_push_of_some _ hS) (by unfold scanBound; omega)) (fun z => by simp [metS]) rfl
      case fin =>
        rintro ⟨h', g', d', tk', os'⟩ hm hS'
        have e1 : g' = s.gens := hm.gens
        have e2 : d' = s.drawn := hm.drawn
        have e3 : os' = s.os := hm.os
        subst e1 e2 e3
        refine wpAny_pure (wpAny_pure ⟨rfl, h', tk', rfl, hS', fun b o hb e => hm.heap b o ?_ (Heap.get?_push_of_some _ (Heap.get?_push_of_some _ e))⟩)
        intro q
        rcases List.mem_cons.mp q with q | q
        · exact absurd q (Nat.ne_of_lt hb)
        · rcases List.mem_cons.mp q with q | q
          · rw [sz] at q
            exact absurd q (Nat.ne_of_lt (Nat.lt_succ_of_lt hb))
          · cases q
    · cases r₂ with
      | error e => exact hr₂
      | ok fl2 =>
      cases fl2 with
      | ret r =>
        obtain ⟨rfl, h', tk, rfl, hS', hk'⟩ := hr₂
        subst hN
        repeat (any_goals (first | assumption | wp_step))
        exact h _ _ hS' hk'
      | _ => exact hr₂.elim
  | _ => exact hr.elim
end

/-- len(set(xs)) -/
def rLenSet (t : RE) : RE := fun δ M Q E => t δ M (fun x M1 => ∃ (a : Addr) (xs : List Str), x = .ref a ∧ M1 a = some (.lst (xs.map D.str)) ∧ xs.Nodup ∧ xs.length < 64 ∧ Q (.int xs.length) M1) E
theorem je_lenSet {X : Cx} {a : Expr} {ta : RE} {p p2 q pos : Pos} (hc : X.calm = true) (hg : Gl X "len") (hm : X.mg "len" = none) (hg2 : Gl X "set") (hm2 : X.mg "set" = none) (ha : JE X a ta)
    (na : starEach [a] X.env = (false, eval a X.env) :: starEach [] X.env := by rfl) : JE X (.Call (.Name "len" p) [.Call (.Name "set" p2) [a] [] q] [] pos) (rLenSet ta) := by
  refine ⟨fun δ M Q E σ H Qv h hs hm' hk hx pins s I => ?_⟩
  refine Call_ (ld_blt I hg hm boot_len (PyProof.Rows.callWith_builtin1 (PyProof.Rows.args_cons ?_ rfl) rfl rfl))
  refine Call_ (ld_blt I hg2 hm2 boot_set (PyProof.Rows.callWith_type1 (PyProof.Rows.args_cons (thn (ha.run δ M _ E σ H (fun v H1 => ∃ (a : Addr) (xs : List Str), v = .ref a ∧ SqL X.K H1 a (xs.map V.str) ∧ xs.Nodup ∧ xs.length < 64 ∧ Qv (.int xs.length) H1) h hs hm' (fun v H1 d M1 k1 r1 m1 q1 => ?_) hx pins s I) fun v s1 ⟨x, H1, I1, r1, l, xs, ex, hq, nd, few, q1⟩ => PyProof.Rows.args_nil ?_) na) na rfl))
  · obtain ⟨a, xs, rfl, e, nd, few, q2⟩ := q1
    cases r1
    obtain ⟨ys, e2, r2⟩ := m1 a _ e
    exact ⟨a, xs, rfl, by rw [← r2.strs]; exact .of e2, nd, few, hk _ H1 _ M1 k1 (.int _) m1 q2⟩
  · subst ex
    obtain rfl : v = Value.ref l := r1
    obtain ⟨its, r, pl, hz⟩ := I1.list hq
    refine setOfTexts (I1.ok.hd hc) pl.isList (by simpa using strsAre_of r) nd few fun h' tk hS hk' => PyProof.Rows.args_nil ?_
    have hl : its.toArray.size = xs.length := by rw [List.size_toArray, ← r.length, List.length_map]
    rw [hl] at hS
    obtain ⟨o, es, ep, t, ho, hex, hd, _, _, _, hf, hn⟩ := hS
    have I2 : Inv X pins σ H1 { s1 with heap := h', toks := tk } := I1.kept fun b o e => hk' b o (Heap.lt_size e) e
    exact call_len_set ho hex hd hf (by rw [hn]; omega) ⟨.int xs.length, H1, I2.tok _, ⟨_, by rw [hn]⟩, q1⟩
end Tal
set_option maxHeartbeats 0
namespace Tal
open PySem PySem.Spec PyProof.Rows L2
def top (i : Nat) : Stmt := PySem.Challenge.pw_tally_k90_whole_books_read_plainly.main.body.getD i (.Pass ⟨0, 0, 0, 0⟩)
def clsBody : Stmt → List Stmt
  | .ClassDef _ _ _ b _ _ _ _ _ _ _ => b
  | _ => []
def mem (i j : Nat) : Stmt := (clsBody (top i)).getD j (.Pass ⟨0, 0, 0, 0⟩)
abbrev FnI (K : PySem.W.Frag) (x : Str) (i : Nat) : Prop := ∃ fd, FunD K x x (defArgs (top i)) (defBody (top i)) (defScope (top i)) [] [] (He.ga K x) fd
abbrev MeI (K : PySem.W.Frag) (C m q : Str) (i j : Nat) (dv : List V) : Prop := ∃ fd, FunD K m q (defArgs (mem i j)) (defBody (mem i j)) (defScope (mem i j)) dv [] (He.ma K (He.ga K C) m) fd
abbrev dD (x : Str) (i : Nat) : He.DefD := ⟨(x, none), x, x, defArgs (top i), defBody (top i), defScope (top i), [], []⟩
abbrev dM (C m q : Str) (i j : Nat) (dv : List He.Dv) : He.DefD := ⟨(C, some m), m, q, defArgs (mem i j), defBody (mem i j), defScope (mem i j), dv, []⟩
def fn : List He.DefD := [dD "is_between" 12, dD "is_throw_name" 13, dD "is_throw" 14, dD "is_down" 15, dD "down_begun" 16, dD "throw_named" 17, dD "with_count" 18, dD "turn_ended" 19, dD "down_thrown" 20, dD "is_lane" 22, dD "lane_begun" 23, dD "frame_behind" 24, dD "extra_behind" 25, dD "row_behind" 26, dD "lane_bowled" 27, dD "best_of" 28, dD "is_count" 34, dD "has_numbers" 35, dD "units_in" 36, dD "is_rule" 37, dD "rule_within" 39, dD "begun" 40, dD "is_won" 41, dD "rallied" 42, dD "is_game" 44, dD "first" 45, dD "rally_played" 46, dD "down_played" 47, dD "lane_played" 48, dD "played" 49, dD "stakes" 51, dD "stands_of" 53, dD "_law_tape" 56, dD "_law_draw" 57, dD "_law_unit" 58, dD "_law_rule" 59, dD "_law_any_rule" 60, dD "_law_won" 61, dD "_law_played" 62, dD "_law_names" 63, dD "_law_a_down" 64, dD "_law_down" 65, dD "_law_ball" 66, dD "_law_lane" 67, dD "_law_whole" 68, dD "_law_rally" 69, dD "_law_read" 70, dD "_law_game" 71, dD "_law_deed" 72, dD "_law_run" 73, dD "_law_alike" 74, dD "_law_done" 75, dD "_law_tried" 76, dD "_law_due" 77, dD "_law_units" 78, dD "_law_shown_right" 79, dD "_law_any_deed" 80, dD "law" 81, dM "Falls" "__init__" "Falls.__init__" 8 0 [], dM "Book" "__init__" "Book.__init__" 54 0 [], dM "Book" "game" "Book.game" 54 1 [], dM "Book" "deeds" "Book.deeds" 54 2 [], dM "Book" "add" "Book.add" 54 3 [], dM "Book" "back" "Book.back" 54 4 [], dM "Book" "hold_number" "Book.hold_number" 54 5 [], dM "Book" "written_anew" "Book.written_anew" 54 6 [], dM "Book" "put_right" "Book.put_right" 54 7 [], dM "Book" "put_in" "Book.put_in" 54 8 [], dM "Book" "leave_out" "Book.leave_out" 54 9 [], dM "Book" "stand" "Book.stand" 54 10 [.non], dM "Book" "units" "Book.units" 54 11 []]
def fa : List He.Fa := [.glo "is_between", .glo "is_throw_name", .glo "is_throw", .glo "is_down", .glo "down_begun", .glo "throw_named", .glo "with_count", .glo "turn_ended", .glo "down_thrown", .glo "is_lane", .glo "lane_begun", .glo "frame_behind", .glo "extra_behind", .glo "row_behind", .glo "lane_bowled", .glo "best_of", .glo "is_count", .glo "has_numbers", .glo "units_in", .glo "is_rule", .glo "rule_within", .glo "begun", .glo "is_won", .glo "rallied", .glo "is_game", .glo "first", .glo "rally_played", .glo "down_played", .glo "lane_played", .glo "played", .glo "stakes", .glo "stands_of", .glo "_law_tape", .glo "_law_draw", .glo "_law_unit", .glo "_law_rule", .glo "_law_any_rule", .glo "_law_won", .glo "_law_played", .glo "_law_names", .glo "_law_a_down", .glo "_law_down", .glo "_law_ball", .glo "_law_lane", .glo "_law_whole", .glo "_law_rally", .glo "_law_read", .glo "_law_game", .glo "_law_deed", .glo "_law_run", .glo "_law_alike", .glo "_law_done", .glo "_law_tried", .glo "_law_due", .glo "_law_units", .glo "_law_shown_right", .glo "_law_any_deed", .glo "law", .glo "ScoreError", .glo "NoThrow", .glo "NoPins", .glo "NoSide", .glo "Over", .glo "NoGame", .glo "NoDeed", .glo "Falls", .glo "Book", .glo "POINT", .free "isinstance", .free "int", .free "bool", .free "str", .free "tuple", .free "list", .free "len", .free "all", .free "set", .free "enumerate", .free "range", .free "max", .free "min", .free "ValueError", .int "GREATEST" 99, .int "MOST_UNITS" 10, .int "MOST_DEEP" 4, .str "LETTERS" "abcdefghijklmnopqrstuvwxyz", .str "FIGURES" "0123456789", .cls "Book", .mkr "Book", .noat "Book" "kept_game", .noat "Book" "kept_deeds", .noat "Book" "kept_stands", .meth "Book" "game", .meth "Book" "deeds", .meth "Book" "add", .meth "Book" "back", .meth "Book" "hold_number", .meth "Book" "written_anew", .meth "Book" "put_right", .meth "Book" "put_in", .meth "Book" "leave_out", .meth "Book" "stand", .meth "Book" "units", .exc "NoThrow", .exc "NoPins", .exc "NoSide", .exc "Over", .exc "NoDeed", .exc "NoGame", .exm "Over" "ScoreError" true, .exm "NoSide" "ScoreError" true, .exm "NoThrow" "ScoreError" true, .exm "NoPins" "ScoreError" true, .exm "NoDeed" "ScoreError" true, .exm "Falls" "ScoreError" true, .noat "Falls" "at", .meth "Falls" "__init__"]

/-! ### more that is read off the head -/
def InitB (K : PySem.W.Frag) (x : Str) : Prop := PySem.W.readsIn K (He.ga K x) (.type "type") = true ∧ PySem.W.findCls K (.ref (He.ga K x)) (.type "type") "__init__" = some (.val (.builtin "ValueError.__init__")) ∧ PySem.W.specialIn K (.ref (He.ga K x)) "__getattribute__" = some (some (.builtin "type.__getattribute__"))
def initB (K : PySem.W.Frag) (x : Str) : Bool := PySem.W.readsIn K (He.ga K x) (.type "type") && ((match PySem.W.findCls K (.ref (He.ga K x)) (.type "type") "__init__" with
  | some (.val v) => decide (v = .builtin "ValueError.__init__")
  | _ => false) && He.eqO (PySem.W.specialIn K (.ref (He.ga K x)) "__getattribute__") (some (some (.builtin "type.__getattribute__"))))
theorem initB_ok {K : PySem.W.Frag} {x : Str} (h : initB K x = true) : InitB K x := by
  obtain ⟨h1, h2⟩ := He.ba h
  obtain ⟨h3, h4⟩ := He.ba h2
  refine ⟨h1, ?_, He.eqO_ok h4⟩
  cases q : PySem.W.findCls K (.ref (He.ga K x)) (.type "type") "__init__" with
  | none => rw [q] at h3; cases h3
  | some f =>
    rw [q] at h3
    cases f with
    | val v => rw [of_decide_eq_true h3]
    | get g a b c => cases h3
def oexB (K : PySem.W.Frag) (C : Addr) : Bool := (match K.lookup C with
  | some ⟨.type t, _, .cls cd, sl⟩ => decide (t = "type") && (match cd.mro, sl.toList with
    | .ref C' :: bm, [_, _, _, _, some (.builtin n), _] => decide (C' = C) && (decide (n = "ValueError.__new__") && (!cd.hasDel && (cd.hasDict && HandSPX.refsVE bm)))
    | _, _ => false)
  | _ => false) && (He.eqO (PySem.W.findIn K (.ref C) "__setattr__") (some (some (.builtin "object.__setattr__"))) && (decide (PySem.W.subIn K (.ref C) (.type "BaseException") = some true) && (decide (PySem.W.typeIn K (.ref C) = some (.type "type")) && PySem.W.keepIn K (.ref C))))
theorem oexB_ok {K : PySem.W.Frag} {C : Addr} (h : oexB K C = true) : OexC K C := by
  obtain ⟨h1, h2⟩ := He.ba h
  obtain ⟨h3, h4⟩ := He.ba h2
  obtain ⟨h5, h6⟩ := He.ba h4
  obtain ⟨h7, h8⟩ := He.ba h6
  refine ⟨?_, He.eqO_ok h3, of_decide_eq_true h5, of_decide_eq_true h7, h8⟩
  split at h1
  · rename_i t dd cd sl g
    obtain ⟨k1, k2⟩ := He.ba h1
    split at k2
    · rename_i C' bm k0 a1 a2 a3 n a5 hm hs
      obtain ⟨e1, k3⟩ := He.ba k2
      obtain ⟨e2, k4⟩ := He.ba k3
      obtain ⟨e3, k5⟩ := He.ba k4
      obtain ⟨e4, e5⟩ := He.ba k5
      obtain ⟨nm, bs, mro, ns, qn, hd, sn, sub, ab, col, del⟩ := cd
      obtain ⟨sl⟩ := sl
      have q1 := of_decide_eq_true k1
      have q2 := of_decide_eq_true e1
      have q3 := of_decide_eq_true e2
      simp only at hm hs e4
      have q4 : del = false := by simpa using e3
      subst q1 q2 q3 q4 hm hs e4
      exact ⟨_, _, _, _, _, _, _, _, _, _, _, _, _, _, _, g, e5⟩
    · cases k2
  · cases h1
def excCB (K : PySem.W.Frag) (D : Addr) : Bool := [decide (PySem.W.findIn K (.ref D) "__getattribute__" = some (some (.builtin "BaseException.__getattribute__"))), decide (PySem.W.findIn K (.ref D) "__getattr__" = some none), decide (PySem.W.subIn K (.ref D) (.type "BaseException") = some true), PySem.W.hasDictIn K D,
  decide (PySem.W.findIn K (.ref D) "__class__" = some (some (.builtin "object.__class__"))), decide (PySem.W.specialIn K (.builtin "object.__class__") "__get__" = some (some (.builtin "getset_descriptor.__get__"))), decide (PySem.W.takesIn K (.builtin "object.__class__") = some true), decide (PySem.W.mroIn K D (.type "object") = some true)].all id
theorem excCB_ok {K : PySem.W.Frag} {D : Addr} (h : excCB K D = true) : ExcC K D := by
  have z : ∀ b, b ∈ _ → b = true := List.all_eq_true.mp h
  exact ⟨of_decide_eq_true (z _ (by simp)), of_decide_eq_true (z _ (by simp)), of_decide_eq_true (z _ (by simp)), z _ (by simp), of_decide_eq_true (z _ (by simp)), of_decide_eq_true (z _ (by simp)), of_decide_eq_true (z _ (by simp)), of_decide_eq_true (z _ (by simp))⟩
/-! ### the Hook: two facts more -/
abbrev AlB : Type := He.AlD × Bool
def asB (g : Addr → Option Obj) (n : Nat) : List Addr := cStatics :: He.asD g n
def obsB (n : Nat) (fa : List He.Fa) (fn : List He.DefD) (ex : PySem.W.Frag → Bool) (g : Addr → Option Obj) : AlB := (He.obsD fa fn (He.frG g (asB g n)), ex (He.frG g (asB g n)))
def hookB (n : Nat) (fa : List He.Fa) (fn : List He.DefD) (ex : PySem.W.Frag → Bool) : PySem.W.Hook where
  α := AlB
  obs := fun s => obsB n fa fn ex s.heap.get?
  val := fun _ => (He.valD fn, true)
  says := fun _ h => ∃ K : PySem.W.Frag, K.In h ∧ He.SaysD fa fn K ∧ ex K = true
  of := fun _ _ e => ⟨_, He.frG_in, congrArg Prod.fst e, congrArg Prod.snd e⟩
  keeps := fun _ _ _ ⟨K, hK, c⟩ k => ⟨K, PySem.W.Frag.In.keeps hK k, c⟩
theorem obsB_eq {n : Nat} {fa : List He.Fa} {fn : List He.DefD} {ex : PySem.W.Frag → Bool} {g : Addr → Option Obj} {s : Shared} (h : ∀ a, g a = s.heap.get? a) : obsB n fa fn ex g = (hookB n fa fn ex).obs s := by
  have e : g = s.heap.get? := funext h
  rw [e] <;> rfl

def ex (K : PySem.W.Frag) : Bool := [He.tupB K "POINT" [.str "point"],
  initB K "ScoreError",
  oexB K (He.ga K "Falls"),
  decide (PySem.W.typeIn K (.ref (He.ma K (He.ga K "Falls") "__init__")) = some (.type "function")),
  xfB K (He.ga K "Falls"),
  excCB K (He.ga K "Over"),
  decide (PySem.W.kitOne K (.ref (He.ga K "Over")) (.type "ValueError") = some true),
  decide (PySem.W.kitOne K (.ref (He.ga K "Over")) (.ref (He.ga K "Over")) = some true),
  decide (PySem.W.kitOne K (.ref (He.ga K "Over")) (.ref (He.ga K "NoSide")) = some false),
  decide (PySem.W.kitOne K (.ref (He.ga K "Over")) (.ref (He.ga K "NoThrow")) = some false),
  decide (PySem.W.kitOne K (.ref (He.ga K "Over")) (.ref (He.ga K "NoPins")) = some false),
  decide (PySem.W.kitOne K (.ref (He.ga K "Over")) (.ref (He.ga K "NoDeed")) = some false),
  decide (PySem.W.kitOne K (.ref (He.ga K "Over")) (.ref (He.ga K "Falls")) = some false),
  excCB K (He.ga K "NoSide"),
  decide (PySem.W.kitOne K (.ref (He.ga K "NoSide")) (.type "ValueError") = some true),
  decide (PySem.W.kitOne K (.ref (He.ga K "NoSide")) (.ref (He.ga K "Over")) = some false),
  decide (PySem.W.kitOne K (.ref (He.ga K "NoSide")) (.ref (He.ga K "NoSide")) = some true),
  decide (PySem.W.kitOne K (.ref (He.ga K "NoSide")) (.ref (He.ga K "NoThrow")) = some false),
  decide (PySem.W.kitOne K (.ref (He.ga K "NoSide")) (.ref (He.ga K "NoPins")) = some false),
  decide (PySem.W.kitOne K (.ref (He.ga K "NoSide")) (.ref (He.ga K "NoDeed")) = some false),
  decide (PySem.W.kitOne K (.ref (He.ga K "NoSide")) (.ref (He.ga K "Falls")) = some false),
  excCB K (He.ga K "NoThrow"),
  decide (PySem.W.kitOne K (.ref (He.ga K "NoThrow")) (.type "ValueError") = some true),
  decide (PySem.W.kitOne K (.ref (He.ga K "NoThrow")) (.ref (He.ga K "Over")) = some false),
  decide (PySem.W.kitOne K (.ref (He.ga K "NoThrow")) (.ref (He.ga K "NoSide")) = some false),
  decide (PySem.W.kitOne K (.ref (He.ga K "NoThrow")) (.ref (He.ga K "NoThrow")) = some true),
  decide (PySem.W.kitOne K (.ref (He.ga K "NoThrow")) (.ref (He.ga K "NoPins")) = some false),
  decide (PySem.W.kitOne K (.ref (He.ga K "NoThrow")) (.ref (He.ga K "NoDeed")) = some false),
  decide (PySem.W.kitOne K (.ref (He.ga K "NoThrow")) (.ref (He.ga K "Falls")) = some false),
  excCB K (He.ga K "NoPins"),
  decide (PySem.W.kitOne K (.ref (He.ga K "NoPins")) (.type "ValueError") = some true),
  decide (PySem.W.kitOne K (.ref (He.ga K "NoPins")) (.ref (He.ga K "Over")) = some false),
  decide (PySem.W.kitOne K (.ref (He.ga K "NoPins")) (.ref (He.ga K "NoSide")) = some false),
  decide (PySem.W.kitOne K (.ref (He.ga K "NoPins")) (.ref (He.ga K "NoThrow")) = some false),
  decide (PySem.W.kitOne K (.ref (He.ga K "NoPins")) (.ref (He.ga K "NoPins")) = some true),
  decide (PySem.W.kitOne K (.ref (He.ga K "NoPins")) (.ref (He.ga K "NoDeed")) = some false),
  decide (PySem.W.kitOne K (.ref (He.ga K "NoPins")) (.ref (He.ga K "Falls")) = some false),
  excCB K (He.ga K "NoDeed"),
  decide (PySem.W.kitOne K (.ref (He.ga K "NoDeed")) (.type "ValueError") = some true),
  decide (PySem.W.kitOne K (.ref (He.ga K "NoDeed")) (.ref (He.ga K "Over")) = some false),
  decide (PySem.W.kitOne K (.ref (He.ga K "NoDeed")) (.ref (He.ga K "NoSide")) = some false),
  decide (PySem.W.kitOne K (.ref (He.ga K "NoDeed")) (.ref (He.ga K "NoThrow")) = some false),
  decide (PySem.W.kitOne K (.ref (He.ga K "NoDeed")) (.ref (He.ga K "NoPins")) = some false),
  decide (PySem.W.kitOne K (.ref (He.ga K "NoDeed")) (.ref (He.ga K "NoDeed")) = some true),
  decide (PySem.W.kitOne K (.ref (He.ga K "NoDeed")) (.ref (He.ga K "Falls")) = some false),
  excCB K (He.ga K "Falls"),
  decide (PySem.W.kitOne K (.ref (He.ga K "Falls")) (.type "ValueError") = some true),
  decide (PySem.W.kitOne K (.ref (He.ga K "Falls")) (.ref (He.ga K "Over")) = some false),
  decide (PySem.W.kitOne K (.ref (He.ga K "Falls")) (.ref (He.ga K "NoSide")) = some false),
  decide (PySem.W.kitOne K (.ref (He.ga K "Falls")) (.ref (He.ga K "NoThrow")) = some false),
  decide (PySem.W.kitOne K (.ref (He.ga K "Falls")) (.ref (He.ga K "NoPins")) = some false),
  decide (PySem.W.kitOne K (.ref (He.ga K "Falls")) (.ref (He.ga K "NoDeed")) = some false),
  decide (PySem.W.kitOne K (.ref (He.ga K "Falls")) (.ref (He.ga K "Falls")) = some true)].all id
theorem ex_at {K : PySem.W.Frag} (h : ex K = true) (i : Nat) {b : Bool} (e : [He.tupB K "POINT" [.str "point"],
  initB K "ScoreError",
  oexB K (He.ga K "Falls"),
  decide (PySem.W.typeIn K (.ref (He.ma K (He.ga K "Falls") "__init__")) = some (.type "function")),
  xfB K (He.ga K "Falls"),
  excCB K (He.ga K "Over"),
  decide (PySem.W.kitOne K (.ref (He.ga K "Over")) (.type "ValueError") = some true),
  decide (PySem.W.kitOne K (.ref (He.ga K "Over")) (.ref (He.ga K "Over")) = some true),
  decide (PySem.W.kitOne K (.ref (He.ga K "Over")) (.ref (He.ga K "NoSide")) = some false),
  decide (PySem.W.kitOne K (.ref (He.ga K "Over")) (.ref (He.ga K "NoThrow")) = some false),
  decide (PySem.W.kitOne K (.ref (He.ga K "Over")) (.ref (He.ga K "NoPins")) = some false),
  decide (PySem.W.kitOne K (.ref (He.ga K "Over")) (.ref (He.ga K "NoDeed")) = some false),
  decide (PySem.W.kitOne K (.ref (He.ga K "Over")) (.ref (He.ga K "Falls")) = some false),
  excCB K (He.ga K "NoSide"),
  decide (PySem.W.kitOne K (.ref (He.ga K "NoSide")) (.type "ValueError") = some true),
  decide (PySem.W.kitOne K (.ref (He.ga K "NoSide")) (.ref (He.ga K "Over")) = some false),
  decide (PySem.W.kitOne K (.ref (He.ga K "NoSide")) (.ref (He.ga K "NoSide")) = some true),
  decide (PySem.W.kitOne K (.ref (He.ga K "NoSide")) (.ref (He.ga K "NoThrow")) = some false),
  decide (PySem.W.kitOne K (.ref (He.ga K "NoSide")) (.ref (He.ga K "NoPins")) = some false),
  decide (PySem.W.kitOne K (.ref (He.ga K "NoSide")) (.ref (He.ga K "NoDeed")) = some false),
  decide (PySem.W.kitOne K (.ref (He.ga K "NoSide")) (.ref (He.ga K "Falls")) = some false),
  excCB K (He.ga K "NoThrow"),
  decide (PySem.W.kitOne K (.ref (He.ga K "NoThrow")) (.type "ValueError") = some true),
  decide (PySem.W.kitOne K (.ref (He.ga K "NoThrow")) (.ref (He.ga K "Over")) = some false),
  decide (PySem.W.kitOne K (.ref (He.ga K "NoThrow")) (.ref (He.ga K "NoSide")) = some false),
  decide (PySem.W.kitOne K (.ref (He.ga K "NoThrow")) (.ref (He.ga K "NoThrow")) = some true),
  decide (PySem.W.kitOne K (.ref (He.ga K "NoThrow")) (.ref (He.ga K "NoPins")) = some false),
  decide (PySem.W.kitOne K (.ref (He.ga K "NoThrow")) (.ref (He.ga K "NoDeed")) = some false),
  decide (PySem.W.kitOne K (.ref (He.ga K "NoThrow")) (.ref (He.ga K "Falls")) = some false),
  excCB K (He.ga K "NoPins"),
  decide (PySem.W.kitOne K (.ref (He.ga K "NoPins")) (.type "ValueError") = some true),
  decide (PySem.W.kitOne K (.ref (He.ga K "NoPins")) (.ref (He.ga K "Over")) = some false),
  decide (PySem.W.kitOne K (.ref (He.ga K "NoPins")) (.ref (He.ga K "NoSide")) = some false),
  decide (PySem.W.kitOne K (.ref (He.ga K "NoPins")) (.ref (He.ga K "NoThrow")) = some false),
  decide (PySem.W.kitOne K (.ref (He.ga K "NoPins")) (.ref (He.ga K "NoPins")) = some true),
  decide (PySem.W.kitOne K (.ref (He.ga K "NoPins")) (.ref (He.ga K "NoDeed")) = some false),
  decide (PySem.W.kitOne K (.ref (He.ga K "NoPins")) (.ref (He.ga K "Falls")) = some false),
  excCB K (He.ga K "NoDeed"),
  decide (PySem.W.kitOne K (.ref (He.ga K "NoDeed")) (.type "ValueError") = some true),
  decide (PySem.W.kitOne K (.ref (He.ga K "NoDeed")) (.ref (He.ga K "Over")) = some false),
  decide (PySem.W.kitOne K (.ref (He.ga K "NoDeed")) (.ref (He.ga K "NoSide")) = some false),
  decide (PySem.W.kitOne K (.ref (He.ga K "NoDeed")) (.ref (He.ga K "NoThrow")) = some false),
  decide (PySem.W.kitOne K (.ref (He.ga K "NoDeed")) (.ref (He.ga K "NoPins")) = some false),
  decide (PySem.W.kitOne K (.ref (He.ga K "NoDeed")) (.ref (He.ga K "NoDeed")) = some true),
  decide (PySem.W.kitOne K (.ref (He.ga K "NoDeed")) (.ref (He.ga K "Falls")) = some false),
  excCB K (He.ga K "Falls"),
  decide (PySem.W.kitOne K (.ref (He.ga K "Falls")) (.type "ValueError") = some true),
  decide (PySem.W.kitOne K (.ref (He.ga K "Falls")) (.ref (He.ga K "Over")) = some false),
  decide (PySem.W.kitOne K (.ref (He.ga K "Falls")) (.ref (He.ga K "NoSide")) = some false),
  decide (PySem.W.kitOne K (.ref (He.ga K "Falls")) (.ref (He.ga K "NoThrow")) = some false),
  decide (PySem.W.kitOne K (.ref (He.ga K "Falls")) (.ref (He.ga K "NoPins")) = some false),
  decide (PySem.W.kitOne K (.ref (He.ga K "Falls")) (.ref (He.ga K "NoDeed")) = some false),
  decide (PySem.W.kitOne K (.ref (He.ga K "Falls")) (.ref (He.ga K "Falls")) = some true)][i]? = some b) : b = true := List.all_eq_true.mp h b (List.mem_of_getElem? e)
/-- what the head leaves, by names -/
structure Tx (K : PySem.W.Frag) (mg : Str → Option Value) : Prop where
  d_is_between : FnI K "is_between" 12
  d_is_throw_name : FnI K "is_throw_name" 13
  d_is_throw : FnI K "is_throw" 14
  d_is_down : FnI K "is_down" 15
  d_down_begun : FnI K "down_begun" 16
  d_throw_named : FnI K "throw_named" 17
  d_with_count : FnI K "with_count" 18
  d_turn_ended : FnI K "turn_ended" 19
  d_down_thrown : FnI K "down_thrown" 20
  d_is_lane : FnI K "is_lane" 22
  d_lane_begun : FnI K "lane_begun" 23
  d_frame_behind : FnI K "frame_behind" 24
  d_extra_behind : FnI K "extra_behind" 25
  d_row_behind : FnI K "row_behind" 26
  d_lane_bowled : FnI K "lane_bowled" 27
  d_best_of : FnI K "best_of" 28
  d_is_count : FnI K "is_count" 34
  d_has_numbers : FnI K "has_numbers" 35
  d_units_in : FnI K "units_in" 36
  d_is_rule : FnI K "is_rule" 37
  d_rule_within : FnI K "rule_within" 39
  d_begun : FnI K "begun" 40
  d_is_won : FnI K "is_won" 41
  d_rallied : FnI K "rallied" 42
  d_is_game : FnI K "is_game" 44
  d_first : FnI K "first" 45
  d_rally_played : FnI K "rally_played" 46
  d_down_played : FnI K "down_played" 47
  d_lane_played : FnI K "lane_played" 48
  d_played : FnI K "played" 49
  d_stakes : FnI K "stakes" 51
  d_stands_of : FnI K "stands_of" 53
  d__law_tape : FnI K "_law_tape" 56
  d__law_draw : FnI K "_law_draw" 57
  d__law_unit : FnI K "_law_unit" 58
  d__law_rule : FnI K "_law_rule" 59
  d__law_any_rule : FnI K "_law_any_rule" 60
  d__law_won : FnI K "_law_won" 61
  d__law_played : FnI K "_law_played" 62
  d__law_names : FnI K "_law_names" 63
  d__law_a_down : FnI K "_law_a_down" 64
  d__law_down : FnI K "_law_down" 65
  d__law_ball : FnI K "_law_ball" 66
  d__law_lane : FnI K "_law_lane" 67
  d__law_whole : FnI K "_law_whole" 68
  d__law_rally : FnI K "_law_rally" 69
  d__law_read : FnI K "_law_read" 70
  d__law_game : FnI K "_law_game" 71
  d__law_deed : FnI K "_law_deed" 72
  d__law_run : FnI K "_law_run" 73
  d__law_alike : FnI K "_law_alike" 74
  d__law_done : FnI K "_law_done" 75
  d__law_tried : FnI K "_law_tried" 76
  d__law_due : FnI K "_law_due" 77
  d__law_units : FnI K "_law_units" 78
  d__law_shown_right : FnI K "_law_shown_right" 79
  d__law_any_deed : FnI K "_law_any_deed" 80
  d_law : FnI K "law" 81
  m_Falls_init : MeI K "Falls" "__init__" "Falls.__init__" 8 0 []
  m_Book_init : MeI K "Book" "__init__" "Book.__init__" 54 0 []
  m_Book_game : MeI K "Book" "game" "Book.game" 54 1 []
  m_Book_deeds : MeI K "Book" "deeds" "Book.deeds" 54 2 []
  m_Book_add : MeI K "Book" "add" "Book.add" 54 3 []
  m_Book_back : MeI K "Book" "back" "Book.back" 54 4 []
  m_Book_hold_number : MeI K "Book" "hold_number" "Book.hold_number" 54 5 []
  m_Book_written_anew : MeI K "Book" "written_anew" "Book.written_anew" 54 6 []
  m_Book_put_right : MeI K "Book" "put_right" "Book.put_right" 54 7 []
  m_Book_put_in : MeI K "Book" "put_in" "Book.put_in" 54 8 []
  m_Book_leave_out : MeI K "Book" "leave_out" "Book.leave_out" 54 9 []
  m_Book_stand : MeI K "Book" "stand" "Book.stand" 54 10 [.non]
  m_Book_units : MeI K "Book" "units" "Book.units" 54 11 []
  g_is_between : mg "is_between" = some (.ref (He.ga K "is_between"))
  g_is_throw_name : mg "is_throw_name" = some (.ref (He.ga K "is_throw_name"))
  g_is_throw : mg "is_throw" = some (.ref (He.ga K "is_throw"))
  g_is_down : mg "is_down" = some (.ref (He.ga K "is_down"))
  g_down_begun : mg "down_begun" = some (.ref (He.ga K "down_begun"))
  g_throw_named : mg "throw_named" = some (.ref (He.ga K "throw_named"))
  g_with_count : mg "with_count" = some (.ref (He.ga K "with_count"))
  g_turn_ended : mg "turn_ended" = some (.ref (He.ga K "turn_ended"))
  g_down_thrown : mg "down_thrown" = some (.ref (He.ga K "down_thrown"))
  g_is_lane : mg "is_lane" = some (.ref (He.ga K "is_lane"))
  g_lane_begun : mg "lane_begun" = some (.ref (He.ga K "lane_begun"))
  g_frame_behind : mg "frame_behind" = some (.ref (He.ga K "frame_behind"))
  g_extra_behind : mg "extra_behind" = some (.ref (He.ga K "extra_behind"))
  g_row_behind : mg "row_behind" = some (.ref (He.ga K "row_behind"))
  g_lane_bowled : mg "lane_bowled" = some (.ref (He.ga K "lane_bowled"))
  g_best_of : mg "best_of" = some (.ref (He.ga K "best_of"))
  g_is_count : mg "is_count" = some (.ref (He.ga K "is_count"))
  g_has_numbers : mg "has_numbers" = some (.ref (He.ga K "has_numbers"))
  g_units_in : mg "units_in" = some (.ref (He.ga K "units_in"))
  g_is_rule : mg "is_rule" = some (.ref (He.ga K "is_rule"))
  g_rule_within : mg "rule_within" = some (.ref (He.ga K "rule_within"))
  g_begun : mg "begun" = some (.ref (He.ga K "begun"))
  g_is_won : mg "is_won" = some (.ref (He.ga K "is_won"))
  g_rallied : mg "rallied" = some (.ref (He.ga K "rallied"))
  g_is_game : mg "is_game" = some (.ref (He.ga K "is_game"))
  g_first : mg "first" = some (.ref (He.ga K "first"))
  g_rally_played : mg "rally_played" = some (.ref (He.ga K "rally_played"))
  g_down_played : mg "down_played" = some (.ref (He.ga K "down_played"))
  g_lane_played : mg "lane_played" = some (.ref (He.ga K "lane_played"))
  g_played : mg "played" = some (.ref (He.ga K "played"))
  g_stakes : mg "stakes" = some (.ref (He.ga K "stakes"))
  g_stands_of : mg "stands_of" = some (.ref (He.ga K "stands_of"))
  g__law_tape : mg "_law_tape" = some (.ref (He.ga K "_law_tape"))
  g__law_draw : mg "_law_draw" = some (.ref (He.ga K "_law_draw"))
  g__law_unit : mg "_law_unit" = some (.ref (He.ga K "_law_unit"))
  g__law_rule : mg "_law_rule" = some (.ref (He.ga K "_law_rule"))
  g__law_any_rule : mg "_law_any_rule" = some (.ref (He.ga K "_law_any_rule"))
  g__law_won : mg "_law_won" = some (.ref (He.ga K "_law_won"))
  g__law_played : mg "_law_played" = some (.ref (He.ga K "_law_played"))
  g__law_names : mg "_law_names" = some (.ref (He.ga K "_law_names"))
  g__law_a_down : mg "_law_a_down" = some (.ref (He.ga K "_law_a_down"))
  g__law_down : mg "_law_down" = some (.ref (He.ga K "_law_down"))
  g__law_ball : mg "_law_ball" = some (.ref (He.ga K "_law_ball"))
  g__law_lane : mg "_law_lane" = some (.ref (He.ga K "_law_lane"))
  g__law_whole : mg "_law_whole" = some (.ref (He.ga K "_law_whole"))
  g__law_rally : mg "_law_rally" = some (.ref (He.ga K "_law_rally"))
  g__law_read : mg "_law_read" = some (.ref (He.ga K "_law_read"))
  g__law_game : mg "_law_game" = some (.ref (He.ga K "_law_game"))
  g__law_deed : mg "_law_deed" = some (.ref (He.ga K "_law_deed"))
  g__law_run : mg "_law_run" = some (.ref (He.ga K "_law_run"))
  g__law_alike : mg "_law_alike" = some (.ref (He.ga K "_law_alike"))
  g__law_done : mg "_law_done" = some (.ref (He.ga K "_law_done"))
  g__law_tried : mg "_law_tried" = some (.ref (He.ga K "_law_tried"))
  g__law_due : mg "_law_due" = some (.ref (He.ga K "_law_due"))
  g__law_units : mg "_law_units" = some (.ref (He.ga K "_law_units"))
  g__law_shown_right : mg "_law_shown_right" = some (.ref (He.ga K "_law_shown_right"))
  g__law_any_deed : mg "_law_any_deed" = some (.ref (He.ga K "_law_any_deed"))
  g_law : mg "law" = some (.ref (He.ga K "law"))
  g_ScoreError : mg "ScoreError" = some (.ref (He.ga K "ScoreError"))
  g_NoThrow : mg "NoThrow" = some (.ref (He.ga K "NoThrow"))
  g_NoPins : mg "NoPins" = some (.ref (He.ga K "NoPins"))
  g_NoSide : mg "NoSide" = some (.ref (He.ga K "NoSide"))
  g_Over : mg "Over" = some (.ref (He.ga K "Over"))
  g_NoGame : mg "NoGame" = some (.ref (He.ga K "NoGame"))
  g_NoDeed : mg "NoDeed" = some (.ref (He.ga K "NoDeed"))
  g_Falls : mg "Falls" = some (.ref (He.ga K "Falls"))
  g_Book : mg "Book" = some (.ref (He.ga K "Book"))
  g_POINT : mg "POINT" = some (.ref (He.ga K "POINT"))
  f_isinstance : mg "isinstance" = none
  f_int : mg "int" = none
  f_bool : mg "bool" = none
  f_str : mg "str" = none
  f_tuple : mg "tuple" = none
  f_list : mg "list" = none
  f_len : mg "len" = none
  f_all : mg "all" = none
  f_set : mg "set" = none
  f_enumerate : mg "enumerate" = none
  f_range : mg "range" = none
  f_max : mg "max" = none
  f_min : mg "min" = none
  f_ValueError : mg "ValueError" = none
  i_GREATEST : ∃ t, mg "GREATEST" = some (.int 99 t)
  i_MOST_UNITS : ∃ t, mg "MOST_UNITS" = some (.int 10 t)
  i_MOST_DEEP : ∃ t, mg "MOST_DEEP" = some (.int 4 t)
  s_LETTERS : ∃ t, mg "LETTERS" = some (.str "abcdefghijklmnopqrstuvwxyz" t)
  s_FIGURES : ∃ t, mg "FIGURES" = some (.str "0123456789" t)
  c_Book : Cls K (He.ga K "Book")
  k_Book : Mk K (He.ga K "Book") (He.ma K (He.ga K "Book") "__init__")
  n_kept_game : NoAttr K (He.ga K "Book") "kept_game"
  n_kept_deeds : NoAttr K (He.ga K "Book") "kept_deeds"
  n_kept_stands : NoAttr K (He.ga K "Book") "kept_stands"
  h_game : Meth K (He.ga K "Book") "game" (He.ma K (He.ga K "Book") "game")
  h_deeds : Meth K (He.ga K "Book") "deeds" (He.ma K (He.ga K "Book") "deeds")
  h_add : Meth K (He.ga K "Book") "add" (He.ma K (He.ga K "Book") "add")
  h_back : Meth K (He.ga K "Book") "back" (He.ma K (He.ga K "Book") "back")
  h_hold_number : Meth K (He.ga K "Book") "hold_number" (He.ma K (He.ga K "Book") "hold_number")
  h_written_anew : Meth K (He.ga K "Book") "written_anew" (He.ma K (He.ga K "Book") "written_anew")
  h_put_right : Meth K (He.ga K "Book") "put_right" (He.ma K (He.ga K "Book") "put_right")
  h_put_in : Meth K (He.ga K "Book") "put_in" (He.ma K (He.ga K "Book") "put_in")
  h_leave_out : Meth K (He.ga K "Book") "leave_out" (He.ma K (He.ga K "Book") "leave_out")
  h_stand : Meth K (He.ga K "Book") "stand" (He.ma K (He.ga K "Book") "stand")
  h_units : Meth K (He.ga K "Book") "units" (He.ma K (He.ga K "Book") "units")
  x_NoThrow : (He.Fa.exc "NoThrow").ok K = true
  x_NoPins : (He.Fa.exc "NoPins").ok K = true
  x_NoSide : (He.Fa.exc "NoSide").ok K = true
  x_Over : (He.Fa.exc "Over").ok K = true
  x_NoDeed : (He.Fa.exc "NoDeed").ok K = true
  x_NoGame : (He.Fa.exc "NoGame").ok K = true
  e_Over : PySem.W.exmOne K (.ref (He.ga K "Over")) (.ref (He.ga K "ScoreError")) = some true
  e_NoSide : PySem.W.exmOne K (.ref (He.ga K "NoSide")) (.ref (He.ga K "ScoreError")) = some true
  e_NoThrow : PySem.W.exmOne K (.ref (He.ga K "NoThrow")) (.ref (He.ga K "ScoreError")) = some true
  e_NoPins : PySem.W.exmOne K (.ref (He.ga K "NoPins")) (.ref (He.ga K "ScoreError")) = some true
  e_NoDeed : PySem.W.exmOne K (.ref (He.ga K "NoDeed")) (.ref (He.ga K "ScoreError")) = some true
  e_Falls : PySem.W.exmOne K (.ref (He.ga K "Falls")) (.ref (He.ga K "ScoreError")) = some true
  n_at : NoAttr K (He.ga K "Falls") "at"
  h_Falls : Meth K (He.ga K "Falls") "__init__" (He.ma K (He.ga K "Falls") "__init__")
  t_POINT : ∀ H, SqT K H (He.ga K "POINT") [.str "point"]
  i_ScoreError : InitB K "ScoreError"
  o_Falls : OexC K (He.ga K "Falls")
  t_Falls : PySem.W.typeIn K (.ref (He.ma K (He.ga K "Falls") "__init__")) = some (.type "function")
  a_Falls : XfC K (He.ga K "Falls")
  q_Over : ExcC K (He.ga K "Over")
  v_Over : PySem.W.kitOne K (.ref (He.ga K "Over")) (.type "ValueError") = some true
  u_Over_Over : PySem.W.kitOne K (.ref (He.ga K "Over")) (.ref (He.ga K "Over")) = some true
  u_Over_NoSide : PySem.W.kitOne K (.ref (He.ga K "Over")) (.ref (He.ga K "NoSide")) = some false
  u_Over_NoThrow : PySem.W.kitOne K (.ref (He.ga K "Over")) (.ref (He.ga K "NoThrow")) = some false
  u_Over_NoPins : PySem.W.kitOne K (.ref (He.ga K "Over")) (.ref (He.ga K "NoPins")) = some false
  u_Over_NoDeed : PySem.W.kitOne K (.ref (He.ga K "Over")) (.ref (He.ga K "NoDeed")) = some false
  u_Over_Falls : PySem.W.kitOne K (.ref (He.ga K "Over")) (.ref (He.ga K "Falls")) = some false
  q_NoSide : ExcC K (He.ga K "NoSide")
  v_NoSide : PySem.W.kitOne K (.ref (He.ga K "NoSide")) (.type "ValueError") = some true
  u_NoSide_Over : PySem.W.kitOne K (.ref (He.ga K "NoSide")) (.ref (He.ga K "Over")) = some false
  u_NoSide_NoSide : PySem.W.kitOne K (.ref (He.ga K "NoSide")) (.ref (He.ga K "NoSide")) = some true
  u_NoSide_NoThrow : PySem.W.kitOne K (.ref (He.ga K "NoSide")) (.ref (He.ga K "NoThrow")) = some false
  u_NoSide_NoPins : PySem.W.kitOne K (.ref (He.ga K "NoSide")) (.ref (He.ga K "NoPins")) = some false
  u_NoSide_NoDeed : PySem.W.kitOne K (.ref (He.ga K "NoSide")) (.ref (He.ga K "NoDeed")) = some false
  u_NoSide_Falls : PySem.W.kitOne K (.ref (He.ga K "NoSide")) (.ref (He.ga K "Falls")) = some false
  q_NoThrow : ExcC K (He.ga K "NoThrow")
  v_NoThrow : PySem.W.kitOne K (.ref (He.ga K "NoThrow")) (.type "ValueError") = some true
  u_NoThrow_Over : PySem.W.kitOne K (.ref (He.ga K "NoThrow")) (.ref (He.ga K "Over")) = some false
  u_NoThrow_NoSide : PySem.W.kitOne K (.ref (He.ga K "NoThrow")) (.ref (He.ga K "NoSide")) = some false
  u_NoThrow_NoThrow : PySem.W.kitOne K (.ref (He.ga K "NoThrow")) (.ref (He.ga K "NoThrow")) = some true
  u_NoThrow_NoPins : PySem.W.kitOne K (.ref (He.ga K "NoThrow")) (.ref (He.ga K "NoPins")) = some false
  u_NoThrow_NoDeed : PySem.W.kitOne K (.ref (He.ga K "NoThrow")) (.ref (He.ga K "NoDeed")) = some false
  u_NoThrow_Falls : PySem.W.kitOne K (.ref (He.ga K "NoThrow")) (.ref (He.ga K "Falls")) = some false
  q_NoPins : ExcC K (He.ga K "NoPins")
  v_NoPins : PySem.W.kitOne K (.ref (He.ga K "NoPins")) (.type "ValueError") = some true
  u_NoPins_Over : PySem.W.kitOne K (.ref (He.ga K "NoPins")) (.ref (He.ga K "Over")) = some false
  u_NoPins_NoSide : PySem.W.kitOne K (.ref (He.ga K "NoPins")) (.ref (He.ga K "NoSide")) = some false
  u_NoPins_NoThrow : PySem.W.kitOne K (.ref (He.ga K "NoPins")) (.ref (He.ga K "NoThrow")) = some false
  u_NoPins_NoPins : PySem.W.kitOne K (.ref (He.ga K "NoPins")) (.ref (He.ga K "NoPins")) = some true
  u_NoPins_NoDeed : PySem.W.kitOne K (.ref (He.ga K "NoPins")) (.ref (He.ga K "NoDeed")) = some false
  u_NoPins_Falls : PySem.W.kitOne K (.ref (He.ga K "NoPins")) (.ref (He.ga K "Falls")) = some false
  q_NoDeed : ExcC K (He.ga K "NoDeed")
  v_NoDeed : PySem.W.kitOne K (.ref (He.ga K "NoDeed")) (.type "ValueError") = some true
  u_NoDeed_Over : PySem.W.kitOne K (.ref (He.ga K "NoDeed")) (.ref (He.ga K "Over")) = some false
  u_NoDeed_NoSide : PySem.W.kitOne K (.ref (He.ga K "NoDeed")) (.ref (He.ga K "NoSide")) = some false
  u_NoDeed_NoThrow : PySem.W.kitOne K (.ref (He.ga K "NoDeed")) (.ref (He.ga K "NoThrow")) = some false
  u_NoDeed_NoPins : PySem.W.kitOne K (.ref (He.ga K "NoDeed")) (.ref (He.ga K "NoPins")) = some false
  u_NoDeed_NoDeed : PySem.W.kitOne K (.ref (He.ga K "NoDeed")) (.ref (He.ga K "NoDeed")) = some true
  u_NoDeed_Falls : PySem.W.kitOne K (.ref (He.ga K "NoDeed")) (.ref (He.ga K "Falls")) = some false
  q_Falls : ExcC K (He.ga K "Falls")
  v_Falls : PySem.W.kitOne K (.ref (He.ga K "Falls")) (.type "ValueError") = some true
  u_Falls_Over : PySem.W.kitOne K (.ref (He.ga K "Falls")) (.ref (He.ga K "Over")) = some false
  u_Falls_NoSide : PySem.W.kitOne K (.ref (He.ga K "Falls")) (.ref (He.ga K "NoSide")) = some false
  u_Falls_NoThrow : PySem.W.kitOne K (.ref (He.ga K "Falls")) (.ref (He.ga K "NoThrow")) = some false
  u_Falls_NoPins : PySem.W.kitOne K (.ref (He.ga K "Falls")) (.ref (He.ga K "NoPins")) = some false
  u_Falls_NoDeed : PySem.W.kitOne K (.ref (He.ga K "Falls")) (.ref (He.ga K "NoDeed")) = some false
  u_Falls_Falls : PySem.W.kitOne K (.ref (He.ga K "Falls")) (.ref (He.ga K "Falls")) = some true
theorem tx {K : PySem.W.Frag} {h : Heap} {mg : Str → Option Value} (X : K.In h) (G : h.Ns mainGlobals mg) (c : He.SaysD fa fn K) (e : ex K = true) : Tx K mg where
  d_is_between := c.def_ 0 (d := dD "is_between" 12) rfl
  d_is_throw_name := c.def_ 1 (d := dD "is_throw_name" 13) rfl
  d_is_throw := c.def_ 2 (d := dD "is_throw" 14) rfl
  d_is_down := c.def_ 3 (d := dD "is_down" 15) rfl
  d_down_begun := c.def_ 4 (d := dD "down_begun" 16) rfl
  d_throw_named := c.def_ 5 (d := dD "throw_named" 17) rfl
  d_with_count := c.def_ 6 (d := dD "with_count" 18) rfl
  d_turn_ended := c.def_ 7 (d := dD "turn_ended" 19) rfl
  d_down_thrown := c.def_ 8 (d := dD "down_thrown" 20) rfl
  d_is_lane := c.def_ 9 (d := dD "is_lane" 22) rfl
  d_lane_begun := c.def_ 10 (d := dD "lane_begun" 23) rfl
  d_frame_behind := c.def_ 11 (d := dD "frame_behind" 24) rfl
  d_extra_behind := c.def_ 12 (d := dD "extra_behind" 25) rfl
  d_row_behind := c.def_ 13 (d := dD "row_behind" 26) rfl
  d_lane_bowled := c.def_ 14 (d := dD "lane_bowled" 27) rfl
  d_best_of := c.def_ 15 (d := dD "best_of" 28) rfl
  d_is_count := c.def_ 16 (d := dD "is_count" 34) rfl
  d_has_numbers := c.def_ 17 (d := dD "has_numbers" 35) rfl
  d_units_in := c.def_ 18 (d := dD "units_in" 36) rfl
  d_is_rule := c.def_ 19 (d := dD "is_rule" 37) rfl
  d_rule_within := c.def_ 20 (d := dD "rule_within" 39) rfl
  d_begun := c.def_ 21 (d := dD "begun" 40) rfl
  d_is_won := c.def_ 22 (d := dD "is_won" 41) rfl
  d_rallied := c.def_ 23 (d := dD "rallied" 42) rfl
  d_is_game := c.def_ 24 (d := dD "is_game" 44) rfl
  d_first := c.def_ 25 (d := dD "first" 45) rfl
  d_rally_played := c.def_ 26 (d := dD "rally_played" 46) rfl
  d_down_played := c.def_ 27 (d := dD "down_played" 47) rfl
  d_lane_played := c.def_ 28 (d := dD "lane_played" 48) rfl
  d_played := c.def_ 29 (d := dD "played" 49) rfl
  d_stakes := c.def_ 30 (d := dD "stakes" 51) rfl
  d_stands_of := c.def_ 31 (d := dD "stands_of" 53) rfl
  d__law_tape := c.def_ 32 (d := dD "_law_tape" 56) rfl
  d__law_draw := c.def_ 33 (d := dD "_law_draw" 57) rfl
  d__law_unit := c.def_ 34 (d := dD "_law_unit" 58) rfl
  d__law_rule := c.def_ 35 (d := dD "_law_rule" 59) rfl
  d__law_any_rule := c.def_ 36 (d := dD "_law_any_rule" 60) rfl
  d__law_won := c.def_ 37 (d := dD "_law_won" 61) rfl
  d__law_played := c.def_ 38 (d := dD "_law_played" 62) rfl
  d__law_names := c.def_ 39 (d := dD "_law_names" 63) rfl
  d__law_a_down := c.def_ 40 (d := dD "_law_a_down" 64) rfl
  d__law_down := c.def_ 41 (d := dD "_law_down" 65) rfl
  d__law_ball := c.def_ 42 (d := dD "_law_ball" 66) rfl
  d__law_lane := c.def_ 43 (d := dD "_law_lane" 67) rfl
  d__law_whole := c.def_ 44 (d := dD "_law_whole" 68) rfl
  d__law_rally := c.def_ 45 (d := dD "_law_rally" 69) rfl
  d__law_read := c.def_ 46 (d := dD "_law_read" 70) rfl
  d__law_game := c.def_ 47 (d := dD "_law_game" 71) rfl
  d__law_deed := c.def_ 48 (d := dD "_law_deed" 72) rfl
  d__law_run := c.def_ 49 (d := dD "_law_run" 73) rfl
  d__law_alike := c.def_ 50 (d := dD "_law_alike" 74) rfl
  d__law_done := c.def_ 51 (d := dD "_law_done" 75) rfl
  d__law_tried := c.def_ 52 (d := dD "_law_tried" 76) rfl
  d__law_due := c.def_ 53 (d := dD "_law_due" 77) rfl
  d__law_units := c.def_ 54 (d := dD "_law_units" 78) rfl
  d__law_shown_right := c.def_ 55 (d := dD "_law_shown_right" 79) rfl
  d__law_any_deed := c.def_ 56 (d := dD "_law_any_deed" 80) rfl
  d_law := c.def_ 57 (d := dD "law" 81) rfl
  m_Falls_init := c.def_ 58 (d := dM "Falls" "__init__" "Falls.__init__" 8 0 []) rfl
  m_Book_init := c.def_ 59 (d := dM "Book" "__init__" "Book.__init__" 54 0 []) rfl
  m_Book_game := c.def_ 60 (d := dM "Book" "game" "Book.game" 54 1 []) rfl
  m_Book_deeds := c.def_ 61 (d := dM "Book" "deeds" "Book.deeds" 54 2 []) rfl
  m_Book_add := c.def_ 62 (d := dM "Book" "add" "Book.add" 54 3 []) rfl
  m_Book_back := c.def_ 63 (d := dM "Book" "back" "Book.back" 54 4 []) rfl
  m_Book_hold_number := c.def_ 64 (d := dM "Book" "hold_number" "Book.hold_number" 54 5 []) rfl
  m_Book_written_anew := c.def_ 65 (d := dM "Book" "written_anew" "Book.written_anew" 54 6 []) rfl
  m_Book_put_right := c.def_ 66 (d := dM "Book" "put_right" "Book.put_right" 54 7 []) rfl
  m_Book_put_in := c.def_ 67 (d := dM "Book" "put_in" "Book.put_in" 54 8 []) rfl
  m_Book_leave_out := c.def_ 68 (d := dM "Book" "leave_out" "Book.leave_out" 54 9 []) rfl
  m_Book_stand := c.def_ 69 (d := dM "Book" "stand" "Book.stand" 54 10 [.non]) rfl
  m_Book_units := c.def_ 70 (d := dM "Book" "units" "Book.units" 54 11 []) rfl
  g_is_between := He.glo_ok X G (c.fact 0 (f := .glo "is_between") rfl)
  g_is_throw_name := He.glo_ok X G (c.fact 1 (f := .glo "is_throw_name") rfl)
  g_is_throw := He.glo_ok X G (c.fact 2 (f := .glo "is_throw") rfl)
  g_is_down := He.glo_ok X G (c.fact 3 (f := .glo "is_down") rfl)
  g_down_begun := He.glo_ok X G (c.fact 4 (f := .glo "down_begun") rfl)
  g_throw_named := He.glo_ok X G (c.fact 5 (f := .glo "throw_named") rfl)
  g_with_count := He.glo_ok X G (c.fact 6 (f := .glo "with_count") rfl)
  g_turn_ended := He.glo_ok X G (c.fact 7 (f := .glo "turn_ended") rfl)
  g_down_thrown := He.glo_ok X G (c.fact 8 (f := .glo "down_thrown") rfl)
  g_is_lane := He.glo_ok X G (c.fact 9 (f := .glo "is_lane") rfl)
  g_lane_begun := He.glo_ok X G (c.fact 10 (f := .glo "lane_begun") rfl)
  g_frame_behind := He.glo_ok X G (c.fact 11 (f := .glo "frame_behind") rfl)
  g_extra_behind := He.glo_ok X G (c.fact 12 (f := .glo "extra_behind") rfl)
  g_row_behind := He.glo_ok X G (c.fact 13 (f := .glo "row_behind") rfl)
  g_lane_bowled := He.glo_ok X G (c.fact 14 (f := .glo "lane_bowled") rfl)
  g_best_of := He.glo_ok X G (c.fact 15 (f := .glo "best_of") rfl)
  g_is_count := He.glo_ok X G (c.fact 16 (f := .glo "is_count") rfl)
  g_has_numbers := He.glo_ok X G (c.fact 17 (f := .glo "has_numbers") rfl)
  g_units_in := He.glo_ok X G (c.fact 18 (f := .glo "units_in") rfl)
  g_is_rule := He.glo_ok X G (c.fact 19 (f := .glo "is_rule") rfl)
  g_rule_within := He.glo_ok X G (c.fact 20 (f := .glo "rule_within") rfl)
  g_begun := He.glo_ok X G (c.fact 21 (f := .glo "begun") rfl)
  g_is_won := He.glo_ok X G (c.fact 22 (f := .glo "is_won") rfl)
  g_rallied := He.glo_ok X G (c.fact 23 (f := .glo "rallied") rfl)
  g_is_game := He.glo_ok X G (c.fact 24 (f := .glo "is_game") rfl)
  g_first := He.glo_ok X G (c.fact 25 (f := .glo "first") rfl)
  g_rally_played := He.glo_ok X G (c.fact 26 (f := .glo "rally_played") rfl)
  g_down_played := He.glo_ok X G (c.fact 27 (f := .glo "down_played") rfl)
  g_lane_played := He.glo_ok X G (c.fact 28 (f := .glo "lane_played") rfl)
  g_played := He.glo_ok X G (c.fact 29 (f := .glo "played") rfl)
  g_stakes := He.glo_ok X G (c.fact 30 (f := .glo "stakes") rfl)
  g_stands_of := He.glo_ok X G (c.fact 31 (f := .glo "stands_of") rfl)
  g__law_tape := He.glo_ok X G (c.fact 32 (f := .glo "_law_tape") rfl)
  g__law_draw := He.glo_ok X G (c.fact 33 (f := .glo "_law_draw") rfl)
  g__law_unit := He.glo_ok X G (c.fact 34 (f := .glo "_law_unit") rfl)
  g__law_rule := He.glo_ok X G (c.fact 35 (f := .glo "_law_rule") rfl)
  g__law_any_rule := He.glo_ok X G (c.fact 36 (f := .glo "_law_any_rule") rfl)
  g__law_won := He.glo_ok X G (c.fact 37 (f := .glo "_law_won") rfl)
  g__law_played := He.glo_ok X G (c.fact 38 (f := .glo "_law_played") rfl)
  g__law_names := He.glo_ok X G (c.fact 39 (f := .glo "_law_names") rfl)
  g__law_a_down := He.glo_ok X G (c.fact 40 (f := .glo "_law_a_down") rfl)
  g__law_down := He.glo_ok X G (c.fact 41 (f := .glo "_law_down") rfl)
  g__law_ball := He.glo_ok X G (c.fact 42 (f := .glo "_law_ball") rfl)
  g__law_lane := He.glo_ok X G (c.fact 43 (f := .glo "_law_lane") rfl)
  g__law_whole := He.glo_ok X G (c.fact 44 (f := .glo "_law_whole") rfl)
  g__law_rally := He.glo_ok X G (c.fact 45 (f := .glo "_law_rally") rfl)
  g__law_read := He.glo_ok X G (c.fact 46 (f := .glo "_law_read") rfl)
  g__law_game := He.glo_ok X G (c.fact 47 (f := .glo "_law_game") rfl)
  g__law_deed := He.glo_ok X G (c.fact 48 (f := .glo "_law_deed") rfl)
  g__law_run := He.glo_ok X G (c.fact 49 (f := .glo "_law_run") rfl)
  g__law_alike := He.glo_ok X G (c.fact 50 (f := .glo "_law_alike") rfl)
  g__law_done := He.glo_ok X G (c.fact 51 (f := .glo "_law_done") rfl)
  g__law_tried := He.glo_ok X G (c.fact 52 (f := .glo "_law_tried") rfl)
  g__law_due := He.glo_ok X G (c.fact 53 (f := .glo "_law_due") rfl)
  g__law_units := He.glo_ok X G (c.fact 54 (f := .glo "_law_units") rfl)
  g__law_shown_right := He.glo_ok X G (c.fact 55 (f := .glo "_law_shown_right") rfl)
  g__law_any_deed := He.glo_ok X G (c.fact 56 (f := .glo "_law_any_deed") rfl)
  g_law := He.glo_ok X G (c.fact 57 (f := .glo "law") rfl)
  g_ScoreError := He.glo_ok X G (c.fact 58 (f := .glo "ScoreError") rfl)
  g_NoThrow := He.glo_ok X G (c.fact 59 (f := .glo "NoThrow") rfl)
  g_NoPins := He.glo_ok X G (c.fact 60 (f := .glo "NoPins") rfl)
  g_NoSide := He.glo_ok X G (c.fact 61 (f := .glo "NoSide") rfl)
  g_Over := He.glo_ok X G (c.fact 62 (f := .glo "Over") rfl)
  g_NoGame := He.glo_ok X G (c.fact 63 (f := .glo "NoGame") rfl)
  g_NoDeed := He.glo_ok X G (c.fact 64 (f := .glo "NoDeed") rfl)
  g_Falls := He.glo_ok X G (c.fact 65 (f := .glo "Falls") rfl)
  g_Book := He.glo_ok X G (c.fact 66 (f := .glo "Book") rfl)
  g_POINT := He.glo_ok X G (c.fact 67 (f := .glo "POINT") rfl)
  f_isinstance := He.free_ok X G (c.fact 68 (f := .free "isinstance") rfl)
  f_int := He.free_ok X G (c.fact 69 (f := .free "int") rfl)
  f_bool := He.free_ok X G (c.fact 70 (f := .free "bool") rfl)
  f_str := He.free_ok X G (c.fact 71 (f := .free "str") rfl)
  f_tuple := He.free_ok X G (c.fact 72 (f := .free "tuple") rfl)
  f_list := He.free_ok X G (c.fact 73 (f := .free "list") rfl)
  f_len := He.free_ok X G (c.fact 74 (f := .free "len") rfl)
  f_all := He.free_ok X G (c.fact 75 (f := .free "all") rfl)
  f_set := He.free_ok X G (c.fact 76 (f := .free "set") rfl)
  f_enumerate := He.free_ok X G (c.fact 77 (f := .free "enumerate") rfl)
  f_range := He.free_ok X G (c.fact 78 (f := .free "range") rfl)
  f_max := He.free_ok X G (c.fact 79 (f := .free "max") rfl)
  f_min := He.free_ok X G (c.fact 80 (f := .free "min") rfl)
  f_ValueError := He.free_ok X G (c.fact 81 (f := .free "ValueError") rfl)
  i_GREATEST := He.int_ok X G (c.fact 82 (f := .int "GREATEST" 99) rfl)
  i_MOST_UNITS := He.int_ok X G (c.fact 83 (f := .int "MOST_UNITS" 10) rfl)
  i_MOST_DEEP := He.int_ok X G (c.fact 84 (f := .int "MOST_DEEP" 4) rfl)
  s_LETTERS := He.str_ok X G (c.fact 85 (f := .str "LETTERS" "abcdefghijklmnopqrstuvwxyz") rfl)
  s_FIGURES := He.str_ok X G (c.fact 86 (f := .str "FIGURES" "0123456789") rfl)
  c_Book := He.cls_ok (c.fact 87 (f := .cls "Book") rfl)
  k_Book := He.mkr_ok (c.fact 88 (f := .mkr "Book") rfl)
  n_kept_game := He.noat_ok (c.fact 89 (f := .noat "Book" "kept_game") rfl)
  n_kept_deeds := He.noat_ok (c.fact 90 (f := .noat "Book" "kept_deeds") rfl)
  n_kept_stands := He.noat_ok (c.fact 91 (f := .noat "Book" "kept_stands") rfl)
  h_game := He.meth_ok (c.fact 92 (f := .meth "Book" "game") rfl)
  h_deeds := He.meth_ok (c.fact 93 (f := .meth "Book" "deeds") rfl)
  h_add := He.meth_ok (c.fact 94 (f := .meth "Book" "add") rfl)
  h_back := He.meth_ok (c.fact 95 (f := .meth "Book" "back") rfl)
  h_hold_number := He.meth_ok (c.fact 96 (f := .meth "Book" "hold_number") rfl)
  h_written_anew := He.meth_ok (c.fact 97 (f := .meth "Book" "written_anew") rfl)
  h_put_right := He.meth_ok (c.fact 98 (f := .meth "Book" "put_right") rfl)
  h_put_in := He.meth_ok (c.fact 99 (f := .meth "Book" "put_in") rfl)
  h_leave_out := He.meth_ok (c.fact 100 (f := .meth "Book" "leave_out") rfl)
  h_stand := He.meth_ok (c.fact 101 (f := .meth "Book" "stand") rfl)
  h_units := He.meth_ok (c.fact 102 (f := .meth "Book" "units") rfl)
  x_NoThrow := (c.fact 103 (f := .exc "NoThrow") rfl)
  x_NoPins := (c.fact 104 (f := .exc "NoPins") rfl)
  x_NoSide := (c.fact 105 (f := .exc "NoSide") rfl)
  x_Over := (c.fact 106 (f := .exc "Over") rfl)
  x_NoDeed := (c.fact 107 (f := .exc "NoDeed") rfl)
  x_NoGame := (c.fact 108 (f := .exc "NoGame") rfl)
  e_Over := He.exm_ok (c.fact 109 (f := .exm "Over" "ScoreError" true) rfl)
  e_NoSide := He.exm_ok (c.fact 110 (f := .exm "NoSide" "ScoreError" true) rfl)
  e_NoThrow := He.exm_ok (c.fact 111 (f := .exm "NoThrow" "ScoreError" true) rfl)
  e_NoPins := He.exm_ok (c.fact 112 (f := .exm "NoPins" "ScoreError" true) rfl)
  e_NoDeed := He.exm_ok (c.fact 113 (f := .exm "NoDeed" "ScoreError" true) rfl)
  e_Falls := He.exm_ok (c.fact 114 (f := .exm "Falls" "ScoreError" true) rfl)
  n_at := He.noat_ok (c.fact 115 (f := .noat "Falls" "at") rfl)
  h_Falls := He.meth_ok (c.fact 116 (f := .meth "Falls" "__init__") rfl)
  t_POINT := fun H => He.tupB_ok (vs := [.str "point"]) (ex_at e 0 rfl) H
  i_ScoreError := initB_ok (ex_at e 1 rfl)
  o_Falls := oexB_ok (ex_at e 2 rfl)
  t_Falls := of_decide_eq_true (ex_at e 3 rfl)
  a_Falls := xfB_ok (ex_at e 4 rfl)
  q_Over := excCB_ok (ex_at e 5 rfl)
  v_Over := of_decide_eq_true (ex_at e 6 rfl)
  u_Over_Over := of_decide_eq_true (ex_at e 7 rfl)
  u_Over_NoSide := of_decide_eq_true (ex_at e 8 rfl)
  u_Over_NoThrow := of_decide_eq_true (ex_at e 9 rfl)
  u_Over_NoPins := of_decide_eq_true (ex_at e 10 rfl)
  u_Over_NoDeed := of_decide_eq_true (ex_at e 11 rfl)
  u_Over_Falls := of_decide_eq_true (ex_at e 12 rfl)
  q_NoSide := excCB_ok (ex_at e 13 rfl)
  v_NoSide := of_decide_eq_true (ex_at e 14 rfl)
  u_NoSide_Over := of_decide_eq_true (ex_at e 15 rfl)
  u_NoSide_NoSide := of_decide_eq_true (ex_at e 16 rfl)
  u_NoSide_NoThrow := of_decide_eq_true (ex_at e 17 rfl)
  u_NoSide_NoPins := of_decide_eq_true (ex_at e 18 rfl)
  u_NoSide_NoDeed := of_decide_eq_true (ex_at e 19 rfl)
  u_NoSide_Falls := of_decide_eq_true (ex_at e 20 rfl)
  q_NoThrow := excCB_ok (ex_at e 21 rfl)
  v_NoThrow := of_decide_eq_true (ex_at e 22 rfl)
  u_NoThrow_Over := of_decide_eq_true (ex_at e 23 rfl)
  u_NoThrow_NoSide := of_decide_eq_true (ex_at e 24 rfl)
  u_NoThrow_NoThrow := of_decide_eq_true (ex_at e 25 rfl)
  u_NoThrow_NoPins := of_decide_eq_true (ex_at e 26 rfl)
  u_NoThrow_NoDeed := of_decide_eq_true (ex_at e 27 rfl)
  u_NoThrow_Falls := of_decide_eq_true (ex_at e 28 rfl)
  q_NoPins := excCB_ok (ex_at e 29 rfl)
  v_NoPins := of_decide_eq_true (ex_at e 30 rfl)
  u_NoPins_Over := of_decide_eq_true (ex_at e 31 rfl)
  u_NoPins_NoSide := of_decide_eq_true (ex_at e 32 rfl)
  u_NoPins_NoThrow := of_decide_eq_true (ex_at e 33 rfl)
  u_NoPins_NoPins := of_decide_eq_true (ex_at e 34 rfl)
  u_NoPins_NoDeed := of_decide_eq_true (ex_at e 35 rfl)
  u_NoPins_Falls := of_decide_eq_true (ex_at e 36 rfl)
  q_NoDeed := excCB_ok (ex_at e 37 rfl)
  v_NoDeed := of_decide_eq_true (ex_at e 38 rfl)
  u_NoDeed_Over := of_decide_eq_true (ex_at e 39 rfl)
  u_NoDeed_NoSide := of_decide_eq_true (ex_at e 40 rfl)
  u_NoDeed_NoThrow := of_decide_eq_true (ex_at e 41 rfl)
  u_NoDeed_NoPins := of_decide_eq_true (ex_at e 42 rfl)
  u_NoDeed_NoDeed := of_decide_eq_true (ex_at e 43 rfl)
  u_NoDeed_Falls := of_decide_eq_true (ex_at e 44 rfl)
  q_Falls := excCB_ok (ex_at e 45 rfl)
  v_Falls := of_decide_eq_true (ex_at e 46 rfl)
  u_Falls_Over := of_decide_eq_true (ex_at e 47 rfl)
  u_Falls_NoSide := of_decide_eq_true (ex_at e 48 rfl)
  u_Falls_NoThrow := of_decide_eq_true (ex_at e 49 rfl)
  u_Falls_NoPins := of_decide_eq_true (ex_at e 50 rfl)
  u_Falls_NoDeed := of_decide_eq_true (ex_at e 51 rfl)
  u_Falls_Falls := of_decide_eq_true (ex_at e 52 rfl)
end Tal
set_option maxHeartbeats 0
namespace Tal
open PySem PySem.Spec PyProof.Rows L2
abbrev R : PySem.W.OpenRow := PySem.W.OpenLaw.row PySem.Challenge.rw_tally_k90_whole_books_read_plainly
abbrev hk : PySem.W.Hook := hookB 4 fa fn ex
def ob (s : PySem.W.SharedT) : AlB := obsB 4 fa fn ex (HandSHeadRun.getT s)
theorem ob_eq (s : PySem.W.SharedT) : ob s = hk.obs s.abs := obsB_eq (HandSHeadRun.getT_eq s)
def na : List Str := ["ScoreError", "NoThrow", "NoPins", "NoSide", "Over", "NoGame", "NoDeed", "Falls", "LETTERS", "FIGURES", "is_between", "is_throw_name", "is_throw", "is_down", "down_begun", "throw_named", "with_count", "turn_ended", "down_thrown", "is_lane", "lane_begun", "frame_behind", "extra_behind", "row_behind", "lane_bowled", "best_of"]
def nb : List Str := ["POINT", "GREATEST", "MOST_UNITS", "MOST_DEEP", "is_count", "has_numbers", "units_in", "is_rule", "rule_within", "begun", "is_won", "rallied", "is_game", "first", "rally_played", "down_played", "lane_played", "played", "stakes", "stands_of", "Book"]
def nc : List Str := ["_law_tape", "_law_draw", "_law_unit", "_law_rule", "_law_any_rule", "_law_won", "_law_played", "_law_names", "_law_a_down", "_law_down", "_law_ball", "_law_lane", "_law_whole", "_law_rally", "_law_read", "_law_game", "_law_deed", "_law_run", "_law_alike", "_law_done", "_law_tried", "_law_due", "_law_units", "_law_shown_right", "_law_any_deed"]
def names : List Str := na ++ nb ++ nc
section
open HandSHeadRun PySem.W
theorem joinO {S A B C : Type} {x : Option S} {a : S → A} {b : S → B} {c : S → C} {u : A} {v : B} {z : C} (h : x.map (fun s => (a s, b s)) = some (u, v)) (k : x.map c = some z) : x.map (fun s => (a s, b s, c s)) = some (u, v, z) := by
  cases x with
  | none => cases h
  | some s =>
    cases h
    cases k
    rfl
/-- the top by itself; the facts by themselves: two runs want less memory than one -/
theorem run1 (w : World) (os : PySem.OsState) : (endF (stepQ (denQ tabQ) R.prog w) 40000 R.prog w os).map (fun s => (looksF R.prog (boot_heap w.params) s.abs, seenQ (PySem.W.view R.prog [81]) names (importedModules R.prog.main.body) (fun s => xlAt (PySem.W.view R.prog [81]) [] s && recOk R.toRowW.records s) s.abs)) = some (true, openGood (PySem.W.view R.prog [81]) names) := by
  kernel_rfl
theorem run2 (w : World) (os : PySem.OsState) : (endF (stepQ (denQ tabQ) R.prog w) 40000 R.prog w os).map (fun s => ob s) = some (hk.val w) := by
  kernel_rfl
end
theorem run (w : World) : HandSHeadRun.RunEq R (PySem.W.view R.prog [81]) hk ob 40000 names w := fun os => joinO (run1 w os) (run2 w os)
end Tal
set_option maxHeartbeats 4000000
/-! the operations in a form that computes -/
namespace Tal
open PySem PySem.Spec PyProof.Rows L2
theorem Lift2.imp {K : PySem.W.Frag} {r : R2} {f g : F2} (l : Lift2 K r f) (k : ∀ x y M Q, g x y M Q → f x y M Q) : Lift2 K r g := fun x y vx vy H M Q Qv q => l x y vx vy H M Q Qv (k x y M Q q)
theorem LiftC.imp {K : PySem.W.Frag} {r : List V → Hp → VK → Prop} {f g : FC} (l : LiftC K r f) (k : ∀ ds M Q, g ds M Q → f ds M Q) : LiftC K r g := fun ds vs H M Q Qv q => l ds vs H M Q Qv (k ds M Q q)
def gTwo (x y : D) (k : Int → Int → Prop) : Prop := match x, y with
  | .int i, .int j => k i j
  | _, _ => False
theorem gTwo_at {x y : D} {k : Int → Int → Prop} (h : gTwo x y k) : ∃ i j, x = .int i ∧ y = .int j ∧ k i j := by
  unfold gTwo at h
  split at h
  · exact ⟨_, _, rfl, rfl, h⟩
  · exact h.elim
def gSub : F2 := fun x y M Q => gTwo x y fun i j => Q (.int (i - j)) M
def gMod : F2 := fun x y M Q => gTwo x y fun i j => 0 < j ∧ Q (.int (i % j)) M
def gDiv : F2 := fun x y M Q => gTwo x y fun i j => (0 < j ∧ j < 1073741824) ∧ Q (.int (i / j)) M
def gPow : F2 := fun x y M Q => gTwo x y fun i j => CPow i j ∧ Q (.int (i ^ j.toNat)) M
def gLt : F2 := fun x y M Q => gTwo x y fun i j => Q (.bl (decide (i < j))) M
def gLe : F2 := fun x y M Q => gTwo x y fun i j => Q (.bl (decide (i ≤ j))) M
def gGt : F2 := fun x y M Q => gTwo x y fun i j => Q (.bl (decide (j < i))) M
def gGe : F2 := fun x y M Q => gTwo x y fun i j => Q (.bl (decide (j ≤ i))) M
def gAdd : F2 := fun x y M Q => match x, y with
  | .int i, .int j => Q (.int (i + j)) M
  | .str i, .str j => i.length + j.length ≤ sizeLine ∧ Q (.str (i ++ j)) M
  | .tup i, .tup j => i.length + j.length ≤ sizeLine ∧ Q (.tup (i ++ j)) M
  | .ref a, .ref b => ∃ i j, M a = some (.lst i) ∧ M b = some (.lst j) ∧ i.length + j.length ≤ sizeLine ∧ ∀ p, M p = none → Q (.ref p) (mup M p (.lst (i ++ j)))
  | _, _ => False
def gMul : F2 := fun x y M Q => match x, y with
  | .int i, .int j => CMul i j ∧ Q (.int (i * j)) M
  | .tup [d], .int k => 1 ≤ k ∧ k ≤ 1000 ∧ Q (.tup (List.replicate k.toNat d)) M
  | .ref a, .int k => ∃ d, M a = some (.lst [d]) ∧ 0 ≤ k ∧ k ≤ 1000 ∧ ∀ p, M p = none → Q (.ref p) (mup M p (.lst (List.replicate k.toNat d)))
  | _, _ => False
def gEq : F2 := fun x y M Q => match scalEq x y with
  | some b => Q (.bl b) M
  | none => ∃ d e, PyOf M x d ∧ PyOf M y e ∧ SeqAt.shaped d = true ∧ SeqAt.shaped e = true ∧ Q (.bl (PyData.eqv d e)) M
def gNe : F2 := fun x y M Q => match scalEq x y with
  | some b => Q (.bl (!b)) M
  | none => ∃ d e, PyOf M x d ∧ PyOf M y e ∧ SeqAt.shaped d = true ∧ SeqAt.shaped e = true ∧ Q (.bl (!PyData.eqv d e)) M
/-- .. held, so that it stands as it is where the data are not told -/
structure GEq (x y : D) (M : Mp) (Q : DQ) : Prop where
  h : gEq x y M Q
structure GNe (x y : D) (M : Mp) (Q : DQ) : Prop where
  h : gNe x y M Q
def gIs : F2 := fun x y M Q => match y with
  | .non => Q (.bl (isN x)) M
  | _ => False
def gIsNot : F2 := fun x y M Q => match y with
  | .non => Q (.bl (!isN x)) M
  | _ => False
def gIx : F2 := fun x y M Q => match x, y with
  | .tup ds, .int i => ∃ d, atI ds i = some d ∧ Q d M
  | .ref a, .int i => ∃ ds d, M a = some (.lst ds) ∧ atI ds i = some d ∧ Q d M
  | .str z, .int i => z.length ≤ sizeLine ∧ ∃ c, atI z.cps.toList i = some c ∧ Q (.str ⟨#[c]⟩) M
  | _, _ => False
section
variable {X : Cx}
theorem p_sub : OpR X (binaryOp .Sub) (rI0 fun i j => .int (i - j)) ∧ Lift2 X.K (rI0 fun i j => .int (i - j)) gSub := ⟨o_sub.1, o_sub.2.imp fun _ _ _ _ h => gTwo_at h⟩
theorem p_mod : OpR X (binaryOp .Mod) (rI (fun _ j => 0 < j) fun i j => .int (i % j)) ∧ Lift2 X.K (rI (fun _ j => 0 < j) fun i j => .int (i % j)) gMod := ⟨o_mod.1, o_mod.2.imp fun _ _ _ _ h => gTwo_at h⟩
theorem p_div : OpR X (binaryOp .FloorDiv) (rI CDiv fun i j => .int (i / j)) ∧ Lift2 X.K (rI CDiv fun i j => .int (i / j)) gDiv := ⟨o_div.1, o_div.2.imp fun _ _ _ _ h => gTwo_at h⟩
theorem p_pow : OpR X (binaryOp .Pow) (rI CPow fun i j => .int (i ^ j.toNat)) ∧ Lift2 X.K (rI CPow fun i j => .int (i ^ j.toNat)) gPow := ⟨o_pow.1, o_pow.2.imp fun _ _ _ _ h => gTwo_at h⟩
theorem p_lt : OpR X (compareOp .Lt) (rI0 fun i j => .bl (decide (i < j))) ∧ Lift2 X.K (rI0 fun i j => .bl (decide (i < j))) gLt := ⟨o_lt.1, o_lt.2.imp fun _ _ _ _ h => gTwo_at h⟩
theorem p_le : OpR X (compareOp .LtE) (rI0 fun i j => .bl (decide (i ≤ j))) ∧ Lift2 X.K (rI0 fun i j => .bl (decide (i ≤ j))) gLe := ⟨o_le.1, o_le.2.imp fun _ _ _ _ h => gTwo_at h⟩
theorem p_gt : OpR X (compareOp .Gt) (rI0 fun i j => .bl (decide (j < i))) ∧ Lift2 X.K (rI0 fun i j => .bl (decide (j < i))) gGt := ⟨o_gt.1, o_gt.2.imp fun _ _ _ _ h => gTwo_at h⟩
theorem p_ge : OpR X (compareOp .GtE) (rI0 fun i j => .bl (decide (j ≤ i))) ∧ Lift2 X.K (rI0 fun i j => .bl (decide (j ≤ i))) gGe := ⟨o_ge.1, o_ge.2.imp fun _ _ _ _ h => gTwo_at h⟩
theorem p_add : OpR X (binaryOp .Add) (rAddAll X.K) ∧ Lift2 X.K (rAddAll X.K) gAdd := ⟨o_add.1, o_add.2.imp fun x y M Q h => by
  unfold gAdd at h
  split at h
  · exact fAdd_int h
  · exact fAdd_str h.1 h.2
  · exact fAdd_tup h.1 h.2
  · obtain ⟨i, j, h1, h2, h3, h4⟩ := h; exact fAdd_lst h1 h2 h3 h4
  · exact h.elim⟩
theorem p_mul : OpR X (binaryOp .Mult) (rMulAll X.K) ∧ Lift2 X.K (rMulAll X.K) gMul := ⟨o_mul.1, o_mul.2.imp fun x y M Q h => by
  unfold gMul at h
  split at h
  · exact fMul_int h.1 h.2
  · exact fMul_tup h.1 h.2.1 h.2.2
  · obtain ⟨d, h1, h2, h3, h4⟩ := h; exact fMul_lst h1 h2 h3 h4
  · exact h.elim⟩
theorem p_eq (hu : X.A.units + 64 < cLine) : OpR X (compareOp .Eq) (rEqAll X.K) ∧ Lift2 X.K (rEqAll X.K) GEq := ⟨(o_eq hu).1, (o_eq hu).2.imp fun x y M Q ⟨h⟩ => by
  unfold gEq at h
  split at h
  · rename_i b e; exact fEq_s e h
  · exact .inr h⟩
theorem p_ne (hu : X.A.units + 64 < cLine) : OpR X (compareOp .NotEq) (rNeAll X.K) ∧ Lift2 X.K (rNeAll X.K) GNe := ⟨(o_ne hu).1, (o_ne hu).2.imp fun x y M Q ⟨h⟩ => by
  unfold gNe at h
  split at h
  · rename_i b e; exact fNe_s e h
  · exact .inr h⟩
theorem p_is : OpR X (compareOp .Is) rIsAll ∧ Lift2 X.K rIsAll gIs := ⟨o_is.1, o_is.2.imp fun x y M Q h => by
  unfold gIs at h
  split at h
  · exact ⟨rfl, h⟩
  · exact h.elim⟩
theorem p_isnot : OpR X (compareOp .IsNot) rIsNotAll ∧ Lift2 X.K rIsNotAll gIsNot := ⟨o_isnot.1, o_isnot.2.imp fun x y M Q h => by
  unfold gIsNot at h
  split at h
  · exact ⟨rfl, h⟩
  · exact h.elim⟩
theorem gIx_at {x y : D} {M : Mp} {Q : DQ} (h : gIx x y M Q) : fIx x y M Q := by
  unfold gIx at h
  split at h
  · obtain ⟨d, h1, h2⟩ := h; exact fIx_tup h1 h2
  · obtain ⟨ds, d, h0, h1, h2⟩ := h; exact fIx_lst h0 h1 h2
  · obtain ⟨h0, c, h1, h2⟩ := h; exact fIx_str h0 h1 h2
  · exact h.elim
theorem jv_ix {a b : Expr} {ta tb : RE} {pos : Pos} (ha : JE X a ta) (hb : JE X b tb) (hs : PlainIx b := by intro _ _; rfl) : JE X (.Subscript a b pos) (rOp gIx ta tb) := je_two (lift_ix.imp fun _ _ _ _ h => gIx_at h) (pe_ix ix_seq pe_wp pe_wp hs) ha hb
end
def gNeg : D → Mp → DQ → Prop := fun x M Q => isInt x fun i => Q (.int (-i)) M
theorem jv_neg {X : Cx} {a : Expr} {ta : RE} {pos : Pos} (ha : JE X a ta) : JE X (.UnaryOp .USub a pos) (rUn gNeg ta) := by
  refine ⟨fun δ M Q E σ H Qv q hs hm hc hx => wpE_of (pe_un un_neg pe_wp) ?_⟩
  refine ha.run δ M _ E σ H _ q hs hm (fun v H1 x M1 k1 r1 m1 q1 => ?_) hx
  obtain ⟨i, rfl, q1⟩ := isInt_at q1
  cases r1
  exact ⟨i, rfl, hc _ H1 _ M1 k1 (.int _) m1 q1⟩
/-! ### built-in functions -/
def gLen : FC := fun ds M Q => match ds with
  | [.tup xs] => Q (.int xs.length) M
  | [.ref a] => ∃ xs, M a = some (.lst xs) ∧ Q (.int xs.length) M
  | [.str z] => z.length ≤ sizeLine ∧ Q (.int z.length) M
  | _ => False
def gAll : FC := fun ds M Q => match ds with
  | [.ref a] => ∃ bs : List Bool, M a = some (.lst (bs.map D.bl)) ∧ Q (.bl (bs.all id)) M
  | _ => False
def gInt : FC := fun ds M Q => match ds with
  | [.bl b] => Q (.int (if b = true then 1 else 0)) M
  | _ => False
def gTupOf : FC := fun ds M Q => match ds with
  | [.ref a] => ∃ xs, M a = some (.lst xs) ∧ Q (.tup xs) M
  | _ => False
def gLstOf : FC := fun ds M Q => match ds with
  | [.ref a] => ∃ xs, M a = some (.lst xs) ∧ ∀ p, M p = none → Q (.ref p) (mup M p (.lst xs))
  | _ => False
def gMax2 : FC := fun ds M Q => match ds with
  | [.int i, .int j] => Q (.int (max i j)) M
  | _ => False
def gMin2 : FC := fun ds M Q => match ds with
  | [.int i, .int j] => Q (.int (min i j)) M
  | _ => False
section
variable {X : Cx}
theorem p_len : CallR X (.builtin "len") (rLenV X.K) ∧ LiftC X.K (rLenV X.K) gLen := ⟨o_len.1, o_len.2.imp fun ds M Q h => by
  unfold gLen at h
  split at h
  · exact fLen_tup h
  · obtain ⟨xs, h1, h2⟩ := h; exact fLen_lst h1 h2
  · exact fLen_str h.1 h.2
  · exact h.elim⟩
theorem p_all (hc : X.calm = true) : CallR X (.builtin "all") (rAll X.K) ∧ LiftC X.K (rAll X.K) gAll := ⟨(o_all hc).1, (o_all hc).2.imp fun ds M Q h => by
  unfold gAll at h
  split at h
  · obtain ⟨bs, h1, h2⟩ := h; exact fAll_i h1 h2
  · exact h.elim⟩
theorem p_int : CallR X (.type "int") rInt1 ∧ LiftC X.K rInt1 gInt := ⟨o_int.1, o_int.2.imp fun ds M Q h => by
  unfold gInt at h
  split at h
  · exact fInt_i h
  · exact h.elim⟩
theorem p_tupOf : CallR X (.type "tuple") (rTupOf X.K) ∧ LiftC X.K (rTupOf X.K) gTupOf := ⟨o_tupOf.1, o_tupOf.2.imp fun ds M Q h => by
  unfold gTupOf at h
  split at h
  · obtain ⟨xs, h1, h2⟩ := h; exact fTupOf_i h1 h2
  · exact h.elim⟩
theorem p_lstOf : CallR X (.type "list") (rLstOf X.K) ∧ LiftC X.K (rLstOf X.K) gLstOf := ⟨o_lstOf.1, o_lstOf.2.imp fun ds M Q h => by
  unfold gLstOf at h
  split at h
  · obtain ⟨xs, h1, h2⟩ := h; exact fLstOf_i h1 h2
  · exact h.elim⟩
theorem p_max2 (hc : X.calm = true) : CallR X (.builtin "max") (fun xs H Q => ∃ i j, xs = [.int i, .int j] ∧ Q (.int (if j > i then j else i)) H) ∧ LiftC X.K (fun xs H Q => ∃ i j, xs = [.int i, .int j] ∧ Q (.int (if j > i then j else i)) H) gMax2 := ⟨(o_max2 hc).1, (o_max2 hc).2.imp fun ds M Q h => by
  unfold gMax2 at h
  split at h
  · exact fMax2_i h
  · exact h.elim⟩
theorem p_min2 (hc : X.calm = true) : CallR X (.builtin "min") (fun xs H Q => ∃ i j, xs = [.int i, .int j] ∧ Q (.int (if j < i then j else i)) H) ∧ LiftC X.K (fun xs H Q => ∃ i j, xs = [.int i, .int j] ∧ Q (.int (if j < i then j else i)) H) gMin2 := ⟨(o_min2 hc).1, (o_min2 hc).2.imp fun ds M Q h => by
  unfold gMin2 at h
  split at h
  · exact fMin2_i h
  · exact h.elim⟩
end
/-! ### isinstance of one type -/
def gIsa (n : Ty) : D → Mp → DQ → Prop := fun x M Q => match x with
  | .non => Q (.bl (Ty.isa .non n)) M
  | .bl _ => Q (.bl (Ty.isa .bl n)) M
  | .int _ => Q (.bl (Ty.isa .int n)) M
  | .str _ => Q (.bl (Ty.isa .str n)) M
  | .tup _ => Q (.bl (Ty.isa .tup n)) M
  | .ref a => ∃ xs, M a = some (.lst xs) ∧ Q (.bl (Ty.isa .lst n)) M
  | .ty _ => False
theorem gIsa_at {n : Ty} {x : D} {M : Mp} {Q : DQ} (h : gIsa n x M Q) : ∃ t, TyD M x t ∧ Q (.bl (t.isa n)) M := by
  unfold gIsa at h
  split at h
  · exact ⟨_, .non, h⟩
  · exact ⟨_, .bl, h⟩
  · exact ⟨_, .int, h⟩
  · exact ⟨_, .str, h⟩
  · exact ⟨_, .tup, h⟩
  · obtain ⟨xs, h1, h2⟩ := h; exact ⟨_, .lst h1, h2⟩
  · exact h.elim
theorem jv_isa {X : Cx} {y : Str} {a : Expr} {ta : RE} {p p1 pos : Pos} (n : Ty) (hn : n ≠ .non) (hg : Gl X "isinstance") (hm : X.mg "isinstance" = none) (g1 : Gl X y) (m1 : X.mg y = none) (v1 : bootBuiltins y = some (.type n.name)) (ha : JE X a ta)
    (hny : y ≠ "__name__" := by decide) (hdy : (y == ("__debug__" : Str)) = false := by decide) (he : starEach [a, .Name y p1] X.env = (false, eval a X.env) :: starEach [.Name y p1] X.env := by rfl) (hpl : (backTo pos (starEach [.Name y p1] X.env)).any (·.1) = false := by rfl)
    (s1 : starEach [.Name y p1] X.env = (false, eval (.Name y p1) X.env) :: starEach [] X.env := by rfl) : JE X (.Call (.Name "isinstance" p) [a, .Name y p1] [] pos) (rUn (gIsa n) ta) := by
  refine ⟨fun δ M Q E σ H Qv q hs hm' hc hx => wpE_of (pe_callB o_isi.1 hg hm Boot.«isinstance» (pa_cons pe_wp (pa_cons (pe_bltn (v := .ty n.name) g1 m1 v1 rfl hny hdy) pa_nil s1) he) (by decide) (by decide) he hpl) ?_⟩
  refine ha.run δ M _ E σ H _ q hs hm' (fun v H1 x M1 k1 r1 m1 q1 => ?_) hx
  obtain ⟨t, h1, h2⟩ := gIsa_at q1
  exact o_isi.2 [x, .ty n.name] [v, .ty n.name] H1 M1 Q Qv ⟨x, t, n, rfl, hn, h1, h2⟩ (.cons r1 (.cons (.ty _) .nil)) m1 (hc.keep k1)

/-! ### the tape of draws, told -/
def gIxP : F2 := fun x y M Q => match x, y with
  | .ref a, .int n => (∃ s ns i j k d, M a = some (.tp s ns i j k) ∧ atI [.ref s, .int i, .int j, .int k] n = some d ∧ Q d M) ∨ ∃ t ns i j k v, M t = some (.tp a ns i j k) ∧ atI ns n = some v ∧ Q (.int v) M
  | _, _ => False
theorem lift_ixP {K : PySem.W.Frag} : Lift2 K (rIx K) gIxP := by
  intro x y vx vy H M Q Qv q rx ry hm hc
  unfold gIxP at q
  split at q
  · cases rx; cases ry
    rcases q with ⟨s, ns, i, j, k, d, h, hd, q⟩ | ⟨t, ns, i, j, k, v, h, hv, q⟩
    · obtain ⟨h1, h2⟩ := hm _ _ h
      have r : Reps K H [.ref s, .int i, .int j, .int k] [.ref s, .int i, .int j, .int k] := .cons (.ref s) (.cons (.int i) (.cons (.int j) (.cons (.int k) .nil)))
      obtain ⟨v, hv, rv⟩ := r.atI hd
      exact .inl ⟨_, _, _, v, rfl, rfl, .of h1, hv, hc _ H _ M (.refl H) rv hm q⟩
    · obtain ⟨h1, h2, _⟩ := hm _ _ h
      refine .inl ⟨_, _, _, .int v, rfl, rfl, h2.sq, ?_, hc _ H _ M (.refl H) (.int v) hm q⟩
      unfold atI at hv ⊢
      rw [List.length_map]
      cases e : ixN ns.length _ with
      | none => rw [e] at hv; cases hv
      | some j' => rw [e] at hv; rw [Option.bind_some, List.getElem?_map, show ns[j']? = some v from hv]; rfl
  · exact q.elim
theorem jv_ixP {X : Cx} {a b : Expr} {ta tb : RE} {pos : Pos} (ha : JE X a ta) (hb : JE X b tb) (hs : PlainIx b := by intro _ _; rfl) : JE X (.Subscript a b pos) (rOp gIxP ta tb) := je_two lift_ixP (pe_ix ix_seq pe_wp pe_wp hs) ha hb
def gLenP : FC := fun ds M Q => match ds with
  | [.ref a] => ∃ t ns i j k, M t = some (.tp a ns i j k) ∧ Q (.int ns.length) M
  | _ => False
theorem p_lenP {X : Cx} : CallR X (.builtin "len") (rLenV X.K) ∧ LiftC X.K (rLenV X.K) gLenP := by
  refine ⟨o_len.1, ?_⟩
  intro ds vs H M Q Qv q r hm hc
  unfold gLenP at q
  split at q
  · obtain ⟨t, ns, i, j, k, h, q⟩ := q
    obtain ⟨v, rfl, r1⟩ := reps1 r
    cases r1
    obtain ⟨h1, h2, _⟩ := hm _ _ h
    exact ⟨_, ns.length, rfl, .inl ⟨_, h2.sq, (List.length_map _).symm⟩, hc _ H _ M (.refl H) (.int _) hm q⟩
  · exact q.elim
def gbP (to ti : RE) : RG := fun d δ M Q E => to δ M (fun o M1 => ti δ M1 (fun n M2 => ∃ a s ns i j k v, o = .ref a ∧ d = .int v ∧ M2 a = some (.tp s ns i j k) ∧ ((n = .int 1 ∧ 0 ≤ v ∧ Q δ (mup M2 a (.tp s ns v j k))) ∨ (n = .int 2 ∧ Q δ (mup M2 a (.tp s ns i v k))))) E) E
theorem jg_subP {X : Cx} {o i : Expr} {to ti : RE} {pos : Pos} (ho : JE X o to) (hi : JE X i ti)
    (ha : ∀ v, assign (.Subscript o i pos) X.env v = (do
      let ov ← holding [v] (eval o X.env)
      let iv ← holding [v, ov] (eval i X.env)
      standAt pos
      holding [v, ov, iv] (setItem ov iv v)
      release [v, ov, iv] []) := by intro _; rfl) : JG X (.Subscript o i pos) (gbP to ti) := by
  refine ⟨fun d δ M Q E v σ H Qv q r hs hm hc hx => wpG_of (pg_sub pe_wp pe_wp set_list ha) ?_⟩
  refine ho.run δ M _ E σ H _ q hs hm (fun ov H1 x M1 k1 r1 m1 q1 => ?_) hx
  refine hi.run δ M1 _ E σ H1 _ q1 (hs.keep k1) m1 (fun iv H2 y M2 k2 r2 m2 q2 => ?_) (hx.keep k1)
  obtain ⟨a, s, ns, i, j, k, z, rfl, rfl, e, q2⟩ := q2
  have r1' := r1.keep k2
  cases r1'
  cases r
  obtain ⟨h, h2, h3, h4⟩ := m2 a _ e
  rcases q2 with ⟨rfl, hz, q2⟩ | ⟨rfl, q2⟩
  · cases r2
    refine ⟨a, _, _, 1, rfl, rfl, h, rfl, ?_⟩
    have ks : Keep H2 (upd H2 a (.lst [.ref s, .int z, .int j, .int k])) := .set h True.intro
    have k3 := (k1.trans k2).trans ks
    exact hc σ _ δ _ k3 (hs.keep k3) (m2.put (o := .tp s ns z j k) h True.intro ⟨upd_same, h2.keep ks, h3, hz⟩) q2
  · cases r2
    refine ⟨a, _, _, 2, rfl, rfl, h, rfl, ?_⟩
    have ks : Keep H2 (upd H2 a (.lst [.ref s, .int i, .int z, .int k])) := .set h True.intro
    have k3 := (k1.trans k2).trans ks
    exact hc σ _ δ _ k3 (hs.keep k3) (m2.put (o := .tp s ns i z k) h True.intro ⟨upd_same, h2.keep ks, h3, h4⟩) q2
end Tal
set_option maxHeartbeats 4000000
namespace Tal
open PySem PySem.Spec PyProof.Rows L2
/-! ### small words for the walks -/
abbrev fLt : F2 := fCmp fun i j => decide (i < j)
abbrev fLe : F2 := fCmp fun i j => decide (i ≤ j)
abbrev fGt : F2 := fCmp fun i j => decide (j < i)
abbrev fGe : F2 := fCmp fun i j => decide (j ≤ i)
abbrev fIsXA (K : PySem.W.Frag) : FC := fun ds M Q => fIsX K ds M Q ∨ fIsXT K ds M Q
theorem je_gint {X : Cx} {x : Str} {i : Int} {pos : Pos} (hg : Gl X x) (h : ∃ t, X.mg x = some (.int i t)) (hd : (x == ("__debug__" : Str)) = false := by decide) : JE X (.Name x pos) (rC (.int i)) := by
  obtain ⟨t, e⟩ := h
  exact je_glob hg e (v := .int i) ⟨t, rfl⟩ (fun H => .int i) hd
theorem je_gstr {X : Cx} {x z : Str} {pos : Pos} (hg : Gl X x) (h : ∃ t, X.mg x = some (.str z t)) (hd : (x == ("__debug__" : Str)) = false := by decide) : JE X (.Name x pos) (rC (.str z)) := by
  obtain ⟨t, e⟩ := h
  exact je_glob hg e (v := .str z) ⟨t, rfl⟩ (fun H => .str z) hd
theorem hu_of {k : Nat} {A : Around} (r : Room k A) : A.units + 64 < cLine := by have := r.un; omega
def blkB (N : List Str) (sc scope : Scope) (own : List (Str × Nat)) : Bool := decide (scope.kind = .function) && (decide (∀ y ∈ scope.names, scope.names.lookup y.1 = some y.2) && (decide (∀ p ∈ own, N[p.2]? = some p.1) &&
  (decide (∀ y ∈ scope.names, y.2 = .free → sc.names.lookup y.1 = some .cell ∨ sc.names.lookup y.1 = some .free) && decide (∀ y ∈ scope.names, y.2 = .local ∨ y.2 = .cell → y.1 ∈ own.map (·.1) ∨ y.1 ∉ N))))
theorem blk_ok {N : List Str} {sc scope : Scope} {own : List (Str × Nat)} (h : blkB N sc scope own = true) : BlkOk N sc scope own := by
  obtain ⟨h1, h⟩ := He.ba h
  obtain ⟨h2, h⟩ := He.ba h
  obtain ⟨h3, h⟩ := He.ba h
  obtain ⟨h4, h5⟩ := He.ba h
  exact ⟨of_decide_eq_true h1, of_decide_eq_true h2, of_decide_eq_true h3, of_decide_eq_true h4, of_decide_eq_true h5⟩
/-! ### a def by its walk -/
section
variable {P : Program} {w : World} {K : PySem.W.Frag} {mg : Str → Option Value} {base : Heap} {x : Str} {i : Nat} {N ps : List Str} {k : Nat} {dsp : DSp}
abbrev BindsAll (ps : List Str) (x qual : Str) (st : Stmt) : Prop := ∀ (kV doc pm : Value) (an : Option Addr) (cdv ct : Value) (us : List Value), us.length = ps.length → bindArgs (PySem.W.fnOf x qual (defArgs st) (defBody st) (defScope st) .none kV doc pm an cdv ct) ⟨us, []⟩ = pure (ps.zip us)
theorem ok_no (D : FnI K x i) (g : mg x = some (.ref (He.ga K x))) (S : FnScope N ps (defScope (top i))) (B : BindsAll ps x x (top i)) (len : ∀ ds M Q E, dsp ds M Q E → ds.length = ps.length)
    (hb : ∀ (f : Addr) (cdv : Value) (A : Around) (outer : List Env) (s : Shared) (H : Hp) (E : XK), Room k (A.deeper (envOfC x (defScope (top i)) s.heap.objs.size f cdv)) → ∃ t, JB (cxOf CX0 P w K mg base N x (defScope (top i)) f cdv A outer s H E).nox (defBody (top i)) t ∧
      ∀ ds M Q E, dsp ds M Q E → t (endsD .no Q E) (startD N ds) M) : Ok P w K mg base .no (k + 1) x ps dsp := by
  obtain ⟨fd, F⟩ := D
  exact ⟨⟨fd, fn_no F S len (hb _), F.bindsN B⟩, g, F.kp⟩
theorem ok_cold (D : FnI K x i) (g : mg x = some (.ref (He.ga K x))) (S : FnScope N ps (defScope (top i))) (B : BindsAll ps x x (top i)) (len : ∀ ds M Q E, dsp ds M Q E → ds.length = ps.length)
    (hb : ∀ (f : Addr) (cdv : Value) (A : Around) (outer : List Env) (s : Shared) (H : Hp) (E : XK), Room k (A.deeper (envOfC x (defScope (top i)) s.heap.objs.size f cdv)) → ∃ t, JB (cxOf (L2N.CX P w) P w K mg base N x (defScope (top i)) f cdv A outer s H E) (defBody (top i)) t ∧
      ∀ ds M Q E, dsp ds M Q E → t (endsD .cold Q E) (startD N ds) M) : Ok P w K mg base .cold (k + 1) x ps dsp := by
  obtain ⟨fd, F⟩ := D
  exact ⟨⟨fd, fn_cold F S len (hb _), F.bindsN B⟩, g, F.kp⟩
theorem ok_any (D : FnI K x i) (g : mg x = some (.ref (He.ga K x))) (S : FnScope N ps (defScope (top i))) (B : BindsAll ps x x (top i)) (len : ∀ ds M Q E, dsp ds M Q E → ds.length = ps.length)
    (hb : ∀ (f : Addr) (cdv : Value) (A : Around) (outer : List Env) (s : Shared) (H : Hp) (E : XK), Room k (A.deeper (envOfC x (defScope (top i)) s.heap.objs.size f cdv)) → ∃ t, JB (cxOf (L2.CX P w) P w K mg base N x (defScope (top i)) f cdv A outer s H E) (defBody (top i)) t ∧
      ∀ ds M Q E, dsp ds M Q E → t (endsD .any Q E) (startD N ds) M) : Ok P w K mg base .any (k + 1) x ps dsp := by
  obtain ⟨fd, F⟩ := D
  exact ⟨⟨fd, fn_any F S len (hb _), F.bindsN B⟩, g, F.kp⟩
end
end Tal
set_option maxHeartbeats 4000000
namespace Tal
open PySem PySem.Spec PyProof.Rows L2
def N_is_between : List Str := ["thing", "low", "high"]
theorem sc_is_between : FnScope N_is_between ["thing", "low", "high"] (defScope (top 12)) := ⟨rfl, rfl, rfl, by decide +kernel, rfl, by decide +kernel, by decide +kernel⟩
def t_is_between (K : PySem.W.Frag) : RS :=
    (rRet (rAndV (rUn (gIsa .int) (rVar 0)) (rAndV (rNotV (rUn (gIsa .bl) (rVar 0))) (rChain gLe gLe (rVar 1) (rVar 0) (rVar 2)))))
theorem w_is_between {P : Program} {w : World} {K : PySem.W.Frag} {mg : Str → Option Value} {base : Heap} {f : Addr} {cdv : Value} {A : Around} {outer : List Env} {s : Shared} {H : Hp} {E : XK} (T : Tx K mg) (hu : (A.deeper (envOfC "is_between" (defScope (top 12)) s.heap.objs.size f cdv)).units + 64 < cLine)  :
    JB (cxOf CX0 P w K mg base N_is_between "is_between" (defScope (top 12)) f cdv A outer s H E).nox (defBody (top 12)) (t_is_between K ) :=
    (jb_one (js_ret (je_and (jv_isa .int (by decide) rfl T.f_isinstance rfl T.f_int Boot.«int» (je_var 0 (hv := .inl rfl))) (je_and (je_not (jv_isa .bl (by decide) rfl T.f_isinstance rfl T.f_bool Boot.«bool» (je_var 0 (hv := .inl rfl)))) (je_one (je_chain (p_le) (p_le) (je_var 1 (hv := .inl rfl)) (je_var 0 (hv := .inl rfl)) (je_var 2 (hv := .inl rfl))))))))
def N_is_throw_name : List Str := ["thing", "sign"]
theorem sc_is_throw_name : FnScope N_is_throw_name ["thing"] (defScope (top 13)) := ⟨rfl, rfl, rfl, by decide +kernel, rfl, by decide +kernel, by decide +kernel⟩
def t_is_throw_name (K : PySem.W.Frag) : RS :=
    (rSeq (rIfS (rOr (rNot (rB (rUn (gIsa .str) (rVar 0)))) (rOr (rB (rOp gLt (rCB gLen (rCons (rVar 0) rNil)) (rC (.int 1)))) (rOr (rB (rOp gGt (rCB gLen (rCons (rVar 0) rNil)) (rC (.int 8)))) (rB (rOp (fIn true) (rOp gIx (rVar 0) (rC (.int 0))) (rC (.str "abcdefghijklmnopqrstuvwxyz"))))))) (rRet (rC (.bl false))) rNext)
    (rRet (rCB gAll (rCons (rLc (rItS (rVar 0)) 1 (rOrV (rOp (fIn false) (rVar 1) (rC (.str "abcdefghijklmnopqrstuvwxyz"))) (rOp (fIn false) (rVar 1) (rC (.str "0123456789"))))) rNil))))
theorem w_is_throw_name {P : Program} {w : World} {K : PySem.W.Frag} {mg : Str → Option Value} {base : Heap} {f : Addr} {cdv : Value} {A : Around} {outer : List Env} {s : Shared} {H : Hp} {E : XK} (T : Tx K mg) (hu : (A.deeper (envOfC "is_throw_name" (defScope (top 13)) s.heap.objs.size f cdv)).units + 64 < cLine)  :
    JB (cxOf CX0 P w K mg base N_is_throw_name "is_throw_name" (defScope (top 13)) f cdv A outer s H E).nox (defBody (top 13)) (t_is_throw_name K ) :=
    (jb_cons (js_if (jw_t (jw_or (jt_not (jt_val (jv_isa .str (by decide) rfl T.f_isinstance rfl T.f_str Boot.«str» (je_var 0 (hv := .inl rfl))))) (jw_or (jt_cmp (p_lt) (je_callB p_len rfl T.f_len Boot.«len» (ja_cons (je_var 0 (hv := .inl rfl)) ja_nil)) je_int) (jw_or (jt_cmp (p_gt) (je_callB p_len rfl T.f_len Boot.«len» (ja_cons (je_var 0 (hv := .inl rfl)) ja_nil)) je_int) (jw_or1 (jt_cmp (o_notin) (jv_ix (je_var 0 (hv := .inl rfl)) je_int) (je_gstr rfl T.s_LETTERS))))))) (jb_one (js_ret je_bl)) jb_nil)
    (jb_one (js_ret (je_callB (p_all rfl) rfl T.f_all Boot.«all» (ja_cons (je_lc 1 rfl sc_is_throw_name.nd (blk_ok (N := N_is_throw_name) (sc := defScope (top 13)) (by decide +kernel)) (ji_str (je_var 0 (hv := .inl rfl))) (fun _ _ _ _ _ => (je_or (je_cmp (o_in) (je_var 1 (hv := .inl rfl)) (je_gstr rfl T.s_LETTERS)) (je_one (je_cmp (o_in) (je_var 1 (hv := .inl rfl)) (je_gstr rfl T.s_FIGURES))))) (fun _ _ _ _ _ => pg_name sc_is_throw_name.nd rfl (.inl rfl) (.inr rfl))) ja_nil)))))
def N_is_throw : List Str := ["thing"]
theorem sc_is_throw : FnScope N_is_throw ["thing"] (defScope (top 14)) := ⟨rfl, rfl, rfl, by decide +kernel, rfl, by decide +kernel, by decide +kernel⟩
def t_is_throw (K : PySem.W.Frag) (s_is_throw_name : DSp) (s_is_between : DSp) : RS :=
    (rSeq (rIfS (rOr (rNot (rB (rUn (gIsa .tup) (rVar 0)))) (rOr (rB (rOp GNe (rCB gLen (rCons (rVar 0) rNil)) (rC (.int 3)))) (rNot (rB (rCall .no s_is_throw_name (rCons (rOp gIx (rVar 0) (rC (.int 0))) rNil)))))) (rRet (rC (.bl false))) rNext)
    (rRet (rAndV (rCall .no s_is_between (rCons (rOp gIx (rVar 0) (rC (.int 1))) (rCons (rC (.int 0)) (rCons (rC (.int 1000000)) rNil)))) (rUn (gIsa .bl) (rOp gIx (rVar 0) (rC (.int 2)))))))
theorem w_is_throw {P : Program} {w : World} {K : PySem.W.Frag} {mg : Str → Option Value} {base : Heap} {f : Addr} {cdv : Value} {A : Around} {outer : List Env} {s : Shared} {H : Hp} {E : XK} {s_is_throw_name : DSp} {s_is_between : DSp} (T : Tx K mg) (hu : (A.deeper (envOfC "is_throw" (defScope (top 14)) s.heap.objs.size f cdv)).units + 64 < cLine) {k_is_throw_name : Nat} (F_is_throw_name : Ok P w K mg base .no k_is_throw_name "is_throw_name" ["thing"] s_is_throw_name) (r_is_throw_name : Room k_is_throw_name (A.deeper (envOfC "is_throw" (defScope (top 14)) s.heap.objs.size f cdv))) {k_is_between : Nat} (F_is_between : Ok P w K mg base .no k_is_between "is_between" ["thing", "low", "high"] s_is_between) (r_is_between : Room k_is_between (A.deeper (envOfC "is_throw" (defScope (top 14)) s.heap.objs.size f cdv))) :
    JB (cxOf CX0 P w K mg base N_is_throw "is_throw" (defScope (top 14)) f cdv A outer s H E).nox (defBody (top 14)) (t_is_throw K s_is_throw_name s_is_between) :=
    (jb_cons (js_if (jw_t (jw_or (jt_not (jt_val (jv_isa .tup (by decide) rfl T.f_isinstance rfl T.f_tuple Boot.«tuple» (je_var 0 (hv := .inl rfl))))) (jw_or (jt_cmp (p_ne hu) (je_callB p_len rfl T.f_len Boot.«len» (ja_cons (je_var 0 (hv := .inl rfl)) ja_nil)) je_int) (jw_or1 (jt_not (jt_val (je_call F_is_throw_name r_is_throw_name (ja_cons (jv_ix (je_var 0 (hv := .inl rfl)) je_int) ja_nil)))))))) (jb_one (js_ret je_bl)) jb_nil)
    (jb_one (js_ret (je_and (je_call F_is_between r_is_between (ja_cons (jv_ix (je_var 0 (hv := .inl rfl)) je_int) (ja_cons je_int (ja_cons je_int ja_nil)))) (je_one (jv_isa .bl (by decide) rfl T.f_isinstance rfl T.f_bool Boot.«bool» (jv_ix (je_var 0 (hv := .inl rfl)) je_int)))))))
def N_is_down : List Str := ["thing", "throw"]
theorem sc_is_down : FnScope N_is_down ["thing"] (defScope (top 15)) := ⟨rfl, rfl, rfl, by decide +kernel, rfl, by decide +kernel, by decide +kernel⟩
def t_is_down (K : PySem.W.Frag) (s_is_between : DSp) (s_is_throw : DSp) : RS :=
    (rSeq (rIfS (rOr (rNot (rB (rUn (gIsa .tup) (rVar 0)))) (rOr (rB (rOp GNe (rCB gLen (rCons (rVar 0) rNil)) (rC (.int 4)))) (rNot (rB (rUn (gIsa .tup) (rOp gIx (rVar 0) (rC (.int 3)))))))) (rRet (rC (.bl false))) rNext)
    (rSeq (rIfS (rOr (rNot (rB (rCall .no s_is_between (rCons (rOp gIx (rVar 0) (rC (.int 0))) (rCons (rC (.int 1)) (rCons (rC (.int 3)) rNil)))))) (rOr (rNot (rB (rCall .no s_is_between (rCons (rOp gIx (rVar 0) (rC (.int 1))) (rCons (rC (.int 1)) (rCons (rC (.int 1000000)) rNil)))))) (rNot (rB (rCall .no s_is_between (rCons (rOp gIx (rVar 0) (rC (.int 2))) (rCons (rC (.int 1)) (rCons (rC (.int 3)) rNil)))))))) (rRet (rC (.bl false))) rNext)
    (rSeq (rIfS (rOr (rB (rOp gLt (rCB gLen (rCons (rOp gIx (rVar 0) (rC (.int 3))) rNil)) (rC (.int 1)))) (rOr (rB (rOp gGt (rCB gLen (rCons (rOp gIx (rVar 0) (rC (.int 3))) rNil)) (rC (.int 30)))) (rNot (rB (rCB gAll (rCons (rLc (rItT (rOp gIx (rVar 0) (rC (.int 3)))) 1 (rCall .no s_is_throw (rCons (rVar 1) rNil))) rNil)))))) (rRet (rC (.bl false))) rNext)
    (rRet (rOp GEq (rLenSet (rLc (rItT (rOp gIx (rVar 0) (rC (.int 3)))) 1 (rOp gIx (rVar 1) (rC (.int 0))))) (rCB gLen (rCons (rOp gIx (rVar 0) (rC (.int 3))) rNil)))))))
theorem w_is_down {P : Program} {w : World} {K : PySem.W.Frag} {mg : Str → Option Value} {base : Heap} {f : Addr} {cdv : Value} {A : Around} {outer : List Env} {s : Shared} {H : Hp} {E : XK} {s_is_between : DSp} {s_is_throw : DSp} (T : Tx K mg) (hu : (A.deeper (envOfC "is_down" (defScope (top 15)) s.heap.objs.size f cdv)).units + 64 < cLine) {k_is_between : Nat} (F_is_between : Ok P w K mg base .no k_is_between "is_between" ["thing", "low", "high"] s_is_between) (r_is_between : Room k_is_between (A.deeper (envOfC "is_down" (defScope (top 15)) s.heap.objs.size f cdv))) {k_is_throw : Nat} (F_is_throw : Ok P w K mg base .no k_is_throw "is_throw" ["thing"] s_is_throw) (r_is_throw : Room k_is_throw (A.deeper (envOfC "is_down" (defScope (top 15)) s.heap.objs.size f cdv))) :
    JB (cxOf CX0 P w K mg base N_is_down "is_down" (defScope (top 15)) f cdv A outer s H E).nox (defBody (top 15)) (t_is_down K s_is_between s_is_throw) :=
    (jb_cons (js_if (jw_t (jw_or (jt_not (jt_val (jv_isa .tup (by decide) rfl T.f_isinstance rfl T.f_tuple Boot.«tuple» (je_var 0 (hv := .inl rfl))))) (jw_or (jt_cmp (p_ne hu) (je_callB p_len rfl T.f_len Boot.«len» (ja_cons (je_var 0 (hv := .inl rfl)) ja_nil)) je_int) (jw_or1 (jt_not (jt_val (jv_isa .tup (by decide) rfl T.f_isinstance rfl T.f_tuple Boot.«tuple» (jv_ix (je_var 0 (hv := .inl rfl)) je_int)))))))) (jb_one (js_ret je_bl)) jb_nil)
    (jb_cons (js_if (jw_t (jw_or (jt_not (jt_val (je_call F_is_between r_is_between (ja_cons (jv_ix (je_var 0 (hv := .inl rfl)) je_int) (ja_cons je_int (ja_cons je_int ja_nil)))))) (jw_or (jt_not (jt_val (je_call F_is_between r_is_between (ja_cons (jv_ix (je_var 0 (hv := .inl rfl)) je_int) (ja_cons je_int (ja_cons je_int ja_nil)))))) (jw_or1 (jt_not (jt_val (je_call F_is_between r_is_between (ja_cons (jv_ix (je_var 0 (hv := .inl rfl)) je_int) (ja_cons je_int (ja_cons je_int ja_nil)))))))))) (jb_one (js_ret je_bl)) jb_nil)
    (jb_cons (js_if (jw_t (jw_or (jt_cmp (p_lt) (je_callB p_len rfl T.f_len Boot.«len» (ja_cons (jv_ix (je_var 0 (hv := .inl rfl)) je_int) ja_nil)) je_int) (jw_or (jt_cmp (p_gt) (je_callB p_len rfl T.f_len Boot.«len» (ja_cons (jv_ix (je_var 0 (hv := .inl rfl)) je_int) ja_nil)) je_int) (jw_or1 (jt_not (jt_val (je_callB (p_all rfl) rfl T.f_all Boot.«all» (ja_cons (je_lc 1 rfl sc_is_down.nd (blk_ok (N := N_is_down) (sc := defScope (top 15)) (by decide +kernel)) (ji_tup (jv_ix (je_var 0 (hv := .inl rfl)) je_int)) (fun _ _ _ _ _ => (je_call F_is_throw r_is_throw (ja_cons (je_var 1 (hv := .inl rfl)) ja_nil))) (fun _ _ _ _ _ => pg_name sc_is_down.nd rfl (.inl rfl) (.inr rfl))) ja_nil)))))))) (jb_one (js_ret je_bl)) jb_nil)
    (jb_one (js_ret (je_cmp (p_eq hu) (je_lenSet rfl rfl T.f_len rfl T.f_set (je_lc 1 rfl sc_is_down.nd (blk_ok (N := N_is_down) (sc := defScope (top 15)) (by decide +kernel)) (ji_tup (jv_ix (je_var 0 (hv := .inl rfl)) je_int)) (fun _ _ _ _ _ => (jv_ix (je_var 1 (hv := .inl rfl)) je_int)) (fun _ _ _ _ _ => pg_name sc_is_down.nd rfl (.inl rfl) (.inr rfl)))) (je_callB p_len rfl T.f_len Boot.«len» (ja_cons (jv_ix (je_var 0 (hv := .inl rfl)) je_int) ja_nil))))))))
def N_down_begun : List Str := ["down"]
theorem sc_down_begun : FnScope N_down_begun ["down"] (defScope (top 16)) := ⟨rfl, rfl, rfl, by decide +kernel, rfl, by decide +kernel, by decide +kernel⟩
def t_down_begun (K : PySem.W.Frag) : RS :=
    (rRet (rTup (rCons (rOp gMul (rTup (rCons (rOp gIx (rVar 0) (rC (.int 1))) rNil)) (rOp gIx (rVar 0) (rC (.int 0)))) (rCons (rC (.int 0)) (rCons (rC (.int 0)) (rCons (rOp gIx (rVar 0) (rC (.int 1))) rNil))))))
theorem w_down_begun {P : Program} {w : World} {K : PySem.W.Frag} {mg : Str → Option Value} {base : Heap} {f : Addr} {cdv : Value} {A : Around} {outer : List Env} {s : Shared} {H : Hp} {E : XK} (T : Tx K mg) (hu : (A.deeper (envOfC "down_begun" (defScope (top 16)) s.heap.objs.size f cdv)).units + 64 < cLine)  :
    JB (cxOf CX0 P w K mg base N_down_begun "down_begun" (defScope (top 16)) f cdv A outer s H E).nox (defBody (top 16)) (t_down_begun K ) :=
    (jb_one (js_ret (je_tup (ja_cons (je_op p_mul (je_tup (ja_cons (jv_ix (je_var 0 (hv := .inl rfl)) je_int) ja_nil)) (jv_ix (je_var 0 (hv := .inl rfl)) je_int)) (ja_cons je_int (ja_cons je_int (ja_cons (jv_ix (je_var 0 (hv := .inl rfl)) je_int) ja_nil)))))))
def N_throw_named : List Str := ["down", "name", "throw"]
theorem sc_throw_named : FnScope N_throw_named ["down", "name"] (defScope (top 17)) := ⟨rfl, rfl, rfl, by decide +kernel, rfl, by decide +kernel, by decide +kernel⟩
def t_throw_named (K : PySem.W.Frag) : RS :=
    (rSeq (rForT (rOp gIx (rVar 0) (rC (.int 3))) (gnD 2)
    (rIfS (rB (rOp GEq (rOp gIx (rVar 2) (rC (.int 0))) (rVar 1))) (rRet (rVar 2)) rNext))
    (rRaise (He.ga K "NoThrow")))
theorem w_throw_named {P : Program} {w : World} {K : PySem.W.Frag} {mg : Str → Option Value} {base : Heap} {f : Addr} {cdv : Value} {A : Around} {outer : List Env} {s : Shared} {H : Hp} {E : XK} (T : Tx K mg) (hu : (A.deeper (envOfC "throw_named" (defScope (top 17)) s.heap.objs.size f cdv)).units + 64 < cLine)  :
    JB (cxOf (L2N.CX P w) P w K mg base N_throw_named "throw_named" (defScope (top 17)) f cdv A outer s H E) (defBody (top 17)) (t_throw_named K ) :=
    (jb_cons (js_forT (passes_of rfl) rfl (jv_ix (je_var 0 (hv := .inl rfl)) je_int) (jg_name 2 sc_throw_named.nd)
    (jb_one (js_if (jt_cmp (p_eq hu) (jv_ix (je_var 2 (hv := .inl rfl)) je_int) (je_var 1 (hv := .inl rfl))) (jb_one (js_ret (je_var 2 (hv := .inl rfl)))) jb_nil)))
    (jb_one (js_raise ⟨T.g_NoThrow, T.x_NoThrow⟩ rfl)))
def N_with_count : List Str := ["counts", "side", "count"]
theorem sc_with_count : FnScope N_with_count ["counts", "side", "count"] (defScope (top 18)) := ⟨rfl, rfl, rfl, by decide +kernel, rfl, by decide +kernel, by decide +kernel⟩
def t_with_count (K : PySem.W.Frag) : RS :=
    (rRet (rOp gAdd (rOp gAdd (rSlD (rVar 0) rNoPart (rPart (rVar 1))) (rTup (rCons (rVar 2) rNil))) (rSlD (rVar 0) (rPart (rOp gAdd (rVar 1) (rC (.int 1)))) rNoPart)))
theorem w_with_count {P : Program} {w : World} {K : PySem.W.Frag} {mg : Str → Option Value} {base : Heap} {f : Addr} {cdv : Value} {A : Around} {outer : List Env} {s : Shared} {H : Hp} {E : XK} (T : Tx K mg) (hu : (A.deeper (envOfC "with_count" (defScope (top 18)) s.heap.objs.size f cdv)).units + 64 < cLine)  :
    JB (cxOf CX0 P w K mg base N_with_count "with_count" (defScope (top 18)) f cdv A outer s H E).nox (defBody (top 18)) (t_with_count K ) :=
    (jb_one (js_ret (je_op p_add (je_op p_add (je_slice (je_var 0 (hv := .inl rfl)) jo_none (jo_some (je_var 1 (hv := .inl rfl)))) (je_tup (ja_cons (je_var 2 (hv := .inl rfl)) ja_nil))) (je_slice (je_var 0 (hv := .inl rfl)) (jo_some (je_op p_add (je_var 1 (hv := .inl rfl)) je_int)) jo_none))))
def N_turn_ended : List Str := ["down", "counts", "side", "other"]
theorem sc_turn_ended : FnScope N_turn_ended ["down", "counts", "side"] (defScope (top 19)) := ⟨rfl, rfl, rfl, by decide +kernel, rfl, by decide +kernel, by decide +kernel⟩
def t_turn_ended (K : PySem.W.Frag) : RS :=
    (rSeq (rSet 3 (rOp gMod (rOp gAdd (rVar 2) (rC (.int 1))) (rOp gIx (rVar 0) (rC (.int 0)))))
    (rRet (rTup (rCons (rVar 1) (rCons (rVar 3) (rCons (rC (.int 0)) (rCons (rOp gIx (rVar 1) (rVar 3)) rNil)))))))
theorem w_turn_ended {P : Program} {w : World} {K : PySem.W.Frag} {mg : Str → Option Value} {base : Heap} {f : Addr} {cdv : Value} {A : Around} {outer : List Env} {s : Shared} {H : Hp} {E : XK} (T : Tx K mg) (hu : (A.deeper (envOfC "turn_ended" (defScope (top 19)) s.heap.objs.size f cdv)).units + 64 < cLine)  :
    JB (cxOf CX0 P w K mg base N_turn_ended "turn_ended" (defScope (top 19)) f cdv A outer s H E).nox (defBody (top 19)) (t_turn_ended K ) :=
    (jb_cons (js_set 3 sc_turn_ended.nd (je_op p_mod (je_op p_add (je_var 2 (hv := .inl rfl)) je_int) (jv_ix (je_var 0 (hv := .inl rfl)) je_int)))
    (jb_one (js_ret (je_tup (ja_cons (je_var 1 (hv := .inl rfl)) (ja_cons (je_var 3 (hv := .inl rfl)) (ja_cons je_int (ja_cons (jv_ix (je_var 1 (hv := .inl rfl)) (je_var 3 (hv := .inl rfl))) ja_nil))))))))
def N_down_thrown : List Str := ["down", "stand", "name", "counts", "side", "thrown", "held", "throw", "left"]
theorem sc_down_thrown : FnScope N_down_thrown ["down", "stand", "name"] (defScope (top 20)) := ⟨rfl, rfl, rfl, by decide +kernel, rfl, by decide +kernel, by decide +kernel⟩
def t_down_thrown (K : PySem.W.Frag) (s_throw_named : DSp) (s_with_count : DSp) (s_turn_ended : DSp) : RS :=
    (rSeq (rAsg (rVar 1) (gtD 4 (gsCons (gnD 3) (gsCons (gnD 4) (gsCons (gnD 5) (gsCons (gnD 6) gsNil))))))
    (rSeq (rSet 7 (rCall .cold s_throw_named (rCons (rVar 0) (rCons (rVar 2) rNil))))
    (rSeq (rSet 8 (rOp gSub (rOp gIx (rVar 3) (rVar 4)) (rOp gIx (rVar 7) (rC (.int 1)))))
    (rSeq (rIfS (rAnd (rB (rOp GEq (rVar 8) (rC (.int 0)))) (rB (rOp gIx (rVar 7) (rC (.int 2))))) (rRet (rTup (rCons (rTup (rCons (rCall .no s_with_count (rCons (rVar 3) (rCons (rVar 4) (rCons (rC (.int 0)) rNil)))) (rCons (rVar 4) (rCons (rOp gAdd (rVar 5) (rC (.int 1))) (rCons (rVar 6) rNil))))) (rCons (rC (.bl true)) rNil)))) rNext)
    (rSeq (rIfS (rB (rOp gLe (rVar 8) (rC (.int 0)))) (rRet (rTup (rCons (rCall .no s_turn_ended (rCons (rVar 0) (rCons (rCall .no s_with_count (rCons (rVar 3) (rCons (rVar 4) (rCons (rVar 6) rNil)))) (rCons (rVar 4) rNil)))) (rCons (rC (.bl false)) rNil)))) rNext)
    (rSeq (rSet 3 (rCall .no s_with_count (rCons (rVar 3) (rCons (rVar 4) (rCons (rVar 8) rNil)))))
    (rSeq (rIfS (rB (rOp GEq (rOp gAdd (rVar 5) (rC (.int 1))) (rOp gIx (rVar 0) (rC (.int 2))))) (rRet (rTup (rCons (rCall .no s_turn_ended (rCons (rVar 0) (rCons (rVar 3) (rCons (rVar 4) rNil)))) (rCons (rC (.bl false)) rNil)))) rNext)
    (rRet (rTup (rCons (rTup (rCons (rVar 3) (rCons (rVar 4) (rCons (rOp gAdd (rVar 5) (rC (.int 1))) (rCons (rVar 6) rNil))))) (rCons (rC (.bl false)) rNil)))))))))))
theorem w_down_thrown {P : Program} {w : World} {K : PySem.W.Frag} {mg : Str → Option Value} {base : Heap} {f : Addr} {cdv : Value} {A : Around} {outer : List Env} {s : Shared} {H : Hp} {E : XK} {s_throw_named : DSp} {s_with_count : DSp} {s_turn_ended : DSp} (T : Tx K mg) (hu : (A.deeper (envOfC "down_thrown" (defScope (top 20)) s.heap.objs.size f cdv)).units + 64 < cLine) {k_throw_named : Nat} (F_throw_named : Ok P w K mg base .cold k_throw_named "throw_named" ["down", "name"] s_throw_named) (r_throw_named : Room k_throw_named (A.deeper (envOfC "down_thrown" (defScope (top 20)) s.heap.objs.size f cdv))) {k_with_count : Nat} (F_with_count : Ok P w K mg base .no k_with_count "with_count" ["counts", "side", "count"] s_with_count) (r_with_count : Room k_with_count (A.deeper (envOfC "down_thrown" (defScope (top 20)) s.heap.objs.size f cdv))) {k_turn_ended : Nat} (F_turn_ended : Ok P w K mg base .no k_turn_ended "turn_ended" ["down", "counts", "side"] s_turn_ended) (r_turn_ended : Room k_turn_ended (A.deeper (envOfC "down_thrown" (defScope (top 20)) s.heap.objs.size f cdv))) :
    JB (cxOf (L2N.CX P w) P w K mg base N_down_thrown "down_thrown" (defScope (top 20)) f cdv A outer s H E) (defBody (top 20)) (t_down_thrown K s_throw_named s_with_count s_turn_ended) :=
    (jb_cons (js_asg (je_var 1 (hv := .inl rfl)) (jg_tup rfl (jgs_cons (jg_name 3 sc_down_thrown.nd) (jgs_cons (jg_name 4 sc_down_thrown.nd) (jgs_cons (jg_name 5 sc_down_thrown.nd) (jgs_cons (jg_name 6 sc_down_thrown.nd) jgs_nil))))))
    (jb_cons (js_set 7 sc_down_thrown.nd (je_call F_throw_named r_throw_named (ja_cons (je_var 0 (hv := .inl rfl)) (ja_cons (je_var 2 (hv := .inl rfl)) ja_nil))))
    (jb_cons (js_set 8 sc_down_thrown.nd (je_op p_sub (jv_ix (je_var 3 (hv := .inl rfl)) (je_var 4 (hv := .inl rfl))) (jv_ix (je_var 7 (hv := .inl rfl)) je_int)))
    (jb_cons (js_if (jw_t (jw_and (jt_cmp (p_eq hu) (je_var 8 (hv := .inl rfl)) je_int) (jw_and1 (jt_val (jv_ix (je_var 7 (hv := .inl rfl)) je_int))))) (jb_one (js_ret (je_tup (ja_cons (je_tup (ja_cons (je_call F_with_count r_with_count (ja_cons (je_var 3 (hv := .inl rfl)) (ja_cons (je_var 4 (hv := .inl rfl)) (ja_cons je_int ja_nil)))) (ja_cons (je_var 4 (hv := .inl rfl)) (ja_cons (je_op p_add (je_var 5 (hv := .inl rfl)) je_int) (ja_cons (je_var 6 (hv := .inl rfl)) ja_nil))))) (ja_cons je_bl ja_nil))))) jb_nil)
    (jb_cons (js_if (jt_cmp (p_le) (je_var 8 (hv := .inl rfl)) je_int) (jb_one (js_ret (je_tup (ja_cons (je_call F_turn_ended r_turn_ended (ja_cons (je_var 0 (hv := .inl rfl)) (ja_cons (je_call F_with_count r_with_count (ja_cons (je_var 3 (hv := .inl rfl)) (ja_cons (je_var 4 (hv := .inl rfl)) (ja_cons (je_var 6 (hv := .inl rfl)) ja_nil)))) (ja_cons (je_var 4 (hv := .inl rfl)) ja_nil)))) (ja_cons je_bl ja_nil))))) jb_nil)
    (jb_cons (js_set 3 sc_down_thrown.nd (je_call F_with_count r_with_count (ja_cons (je_var 3 (hv := .inl rfl)) (ja_cons (je_var 4 (hv := .inl rfl)) (ja_cons (je_var 8 (hv := .inl rfl)) ja_nil)))))
    (jb_cons (js_if (jt_cmp (p_eq hu) (je_op p_add (je_var 5 (hv := .inl rfl)) je_int) (jv_ix (je_var 0 (hv := .inl rfl)) je_int)) (jb_one (js_ret (je_tup (ja_cons (je_call F_turn_ended r_turn_ended (ja_cons (je_var 0 (hv := .inl rfl)) (ja_cons (je_var 3 (hv := .inl rfl)) (ja_cons (je_var 4 (hv := .inl rfl)) ja_nil)))) (ja_cons je_bl ja_nil))))) jb_nil)
    (jb_one (js_ret (je_tup (ja_cons (je_tup (ja_cons (je_var 3 (hv := .inl rfl)) (ja_cons (je_var 4 (hv := .inl rfl)) (ja_cons (je_op p_add (je_var 5 (hv := .inl rfl)) je_int) (ja_cons (je_var 6 (hv := .inl rfl)) ja_nil))))) (ja_cons je_bl ja_nil))))))))))))
def N_is_lane : List Str := ["thing"]
theorem sc_is_lane : FnScope N_is_lane ["thing"] (defScope (top 22)) := ⟨rfl, rfl, rfl, by decide +kernel, rfl, by decide +kernel, by decide +kernel⟩
def t_is_lane (K : PySem.W.Frag) (s_is_between : DSp) : RS :=
    (rSeq (rIfS (rOr (rNot (rB (rUn (gIsa .tup) (rVar 0)))) (rB (rOp GNe (rCB gLen (rCons (rVar 0) rNil)) (rC (.int 3))))) (rRet (rC (.bl false))) rNext)
    (rRet (rAndV (rCall .no s_is_between (rCons (rOp gIx (rVar 0) (rC (.int 0))) (rCons (rC (.int 1)) (rCons (rC (.int 3)) rNil)))) (rAndV (rCall .no s_is_between (rCons (rOp gIx (rVar 0) (rC (.int 1))) (rCons (rC (.int 1)) (rCons (rC (.int 20)) rNil)))) (rCall .no s_is_between (rCons (rOp gIx (rVar 0) (rC (.int 2))) (rCons (rC (.int 1)) (rCons (rC (.int 12)) rNil))))))))
theorem w_is_lane {P : Program} {w : World} {K : PySem.W.Frag} {mg : Str → Option Value} {base : Heap} {f : Addr} {cdv : Value} {A : Around} {outer : List Env} {s : Shared} {H : Hp} {E : XK} {s_is_between : DSp} (T : Tx K mg) (hu : (A.deeper (envOfC "is_lane" (defScope (top 22)) s.heap.objs.size f cdv)).units + 64 < cLine) {k_is_between : Nat} (F_is_between : Ok P w K mg base .no k_is_between "is_between" ["thing", "low", "high"] s_is_between) (r_is_between : Room k_is_between (A.deeper (envOfC "is_lane" (defScope (top 22)) s.heap.objs.size f cdv))) :
    JB (cxOf CX0 P w K mg base N_is_lane "is_lane" (defScope (top 22)) f cdv A outer s H E).nox (defBody (top 22)) (t_is_lane K s_is_between) :=
    (jb_cons (js_if (jw_t (jw_or (jt_not (jt_val (jv_isa .tup (by decide) rfl T.f_isinstance rfl T.f_tuple Boot.«tuple» (je_var 0 (hv := .inl rfl))))) (jw_or1 (jt_cmp (p_ne hu) (je_callB p_len rfl T.f_len Boot.«len» (ja_cons (je_var 0 (hv := .inl rfl)) ja_nil)) je_int)))) (jb_one (js_ret je_bl)) jb_nil)
    (jb_one (js_ret (je_and (je_call F_is_between r_is_between (ja_cons (jv_ix (je_var 0 (hv := .inl rfl)) je_int) (ja_cons je_int (ja_cons je_int ja_nil)))) (je_and (je_call F_is_between r_is_between (ja_cons (jv_ix (je_var 0 (hv := .inl rfl)) je_int) (ja_cons je_int (ja_cons je_int ja_nil)))) (je_one (je_call F_is_between r_is_between (ja_cons (jv_ix (je_var 0 (hv := .inl rfl)) je_int) (ja_cons je_int (ja_cons je_int ja_nil))))))))))
def N_lane_begun : List Str := ["lane"]
theorem sc_lane_begun : FnScope N_lane_begun ["lane"] (defScope (top 23)) := ⟨rfl, rfl, rfl, by decide +kernel, rfl, by decide +kernel, by decide +kernel⟩
def t_lane_begun (K : PySem.W.Frag) : RS :=
    (rRet (rTup (rCons (rOp gMul (rTup (rCons (rTup (rCons (rC (.int 0)) (rCons (rC (.int 0)) (rCons (rOp gIx (rVar 0) (rC (.int 1))) (rCons (rC (.int 0)) (rCons (rC (.int 0)) (rCons (rC (.int 0)) (rCons (rC (.int 0)) rNil)))))))) rNil)) (rOp gIx (rVar 0) (rC (.int 0)))) (rCons (rC (.int 0)) rNil))))
theorem w_lane_begun {P : Program} {w : World} {K : PySem.W.Frag} {mg : Str → Option Value} {base : Heap} {f : Addr} {cdv : Value} {A : Around} {outer : List Env} {s : Shared} {H : Hp} {E : XK} (T : Tx K mg) (hu : (A.deeper (envOfC "lane_begun" (defScope (top 23)) s.heap.objs.size f cdv)).units + 64 < cLine)  :
    JB (cxOf CX0 P w K mg base N_lane_begun "lane_begun" (defScope (top 23)) f cdv A outer s H E).nox (defBody (top 23)) (t_lane_begun K ) :=
    (jb_one (js_ret (je_tup (ja_cons (je_op p_mul (je_tup (ja_cons (je_tup (ja_cons je_int (ja_cons je_int (ja_cons (jv_ix (je_var 0 (hv := .inl rfl)) je_int) (ja_cons je_int (ja_cons je_int (ja_cons je_int (ja_cons je_int ja_nil)))))))) ja_nil)) (jv_ix (je_var 0 (hv := .inl rfl)) je_int)) (ja_cons je_int ja_nil)))))
def N_frame_behind : List Str := ["lane", "row", "near", "far", "earned"]
theorem sc_frame_behind : FnScope N_frame_behind ["lane", "row", "near", "far", "earned"] (defScope (top 24)) := ⟨rfl, rfl, rfl, by decide +kernel, rfl, by decide +kernel, by decide +kernel⟩
def t_frame_behind (K : PySem.W.Frag) : RS :=
    (rSeq (rIfS (rAnd (rB (rOp GEq (rOp gIx (rVar 1) (rC (.int 0))) (rOp gSub (rOp gIx (rVar 0) (rC (.int 2))) (rC (.int 1))))) (rB (rOp gGt (rVar 4) (rC (.int 0))))) (rRet (rTup (rCons (rTup (rCons (rOp gIx (rVar 1) (rC (.int 0))) (rCons (rC (.int 0)) (rCons (rOp gIx (rVar 0) (rC (.int 1))) (rCons (rVar 2) (rCons (rVar 3) (rCons (rVar 4) (rCons (rOp gIx (rVar 1) (rC (.int 6))) rNil)))))))) (rCons (rC (.bl false)) rNil)))) rNext)
    (rRet (rTup (rCons (rTup (rCons (rOp gAdd (rOp gIx (rVar 1) (rC (.int 0))) (rC (.int 1))) (rCons (rC (.int 0)) (rCons (rOp gIx (rVar 0) (rC (.int 1))) (rCons (rVar 2) (rCons (rVar 3) (rCons (rC (.int 0)) (rCons (rOp gIx (rVar 1) (rC (.int 6))) rNil)))))))) (rCons (rC (.bl true)) rNil)))))
theorem w_frame_behind {P : Program} {w : World} {K : PySem.W.Frag} {mg : Str → Option Value} {base : Heap} {f : Addr} {cdv : Value} {A : Around} {outer : List Env} {s : Shared} {H : Hp} {E : XK} (T : Tx K mg) (hu : (A.deeper (envOfC "frame_behind" (defScope (top 24)) s.heap.objs.size f cdv)).units + 64 < cLine)  :
    JB (cxOf CX0 P w K mg base N_frame_behind "frame_behind" (defScope (top 24)) f cdv A outer s H E).nox (defBody (top 24)) (t_frame_behind K ) :=
    (jb_cons (js_if (jw_t (jw_and (jt_cmp (p_eq hu) (jv_ix (je_var 1 (hv := .inl rfl)) je_int) (je_op p_sub (jv_ix (je_var 0 (hv := .inl rfl)) je_int) je_int)) (jw_and1 (jt_cmp (p_gt) (je_var 4 (hv := .inl rfl)) je_int)))) (jb_one (js_ret (je_tup (ja_cons (je_tup (ja_cons (jv_ix (je_var 1 (hv := .inl rfl)) je_int) (ja_cons je_int (ja_cons (jv_ix (je_var 0 (hv := .inl rfl)) je_int) (ja_cons (je_var 2 (hv := .inl rfl)) (ja_cons (je_var 3 (hv := .inl rfl)) (ja_cons (je_var 4 (hv := .inl rfl)) (ja_cons (jv_ix (je_var 1 (hv := .inl rfl)) je_int) ja_nil)))))))) (ja_cons je_bl ja_nil))))) jb_nil)
    (jb_one (js_ret (je_tup (ja_cons (je_tup (ja_cons (je_op p_add (jv_ix (je_var 1 (hv := .inl rfl)) je_int) je_int) (ja_cons je_int (ja_cons (jv_ix (je_var 0 (hv := .inl rfl)) je_int) (ja_cons (je_var 2 (hv := .inl rfl)) (ja_cons (je_var 3 (hv := .inl rfl)) (ja_cons je_int (ja_cons (jv_ix (je_var 1 (hv := .inl rfl)) je_int) ja_nil)))))))) (ja_cons je_bl ja_nil))))))
def N_extra_behind : List Str := ["lane", "row", "up"]
theorem sc_extra_behind : FnScope N_extra_behind ["lane", "row"] (defScope (top 25)) := ⟨rfl, rfl, rfl, by decide +kernel, rfl, by decide +kernel, by decide +kernel⟩
def t_extra_behind (K : PySem.W.Frag) : RS :=
    (rSeq (rIfS (rB (rOp GEq (rOp gIx (rVar 1) (rC (.int 5))) (rC (.int 1)))) (rRet (rTup (rCons (rTup (rCons (rOp gAdd (rOp gIx (rVar 1) (rC (.int 0))) (rC (.int 1))) (rCons (rC (.int 0)) (rCons (rOp gIx (rVar 0) (rC (.int 1))) (rCons (rOp gIx (rVar 1) (rC (.int 3))) (rCons (rOp gIx (rVar 1) (rC (.int 4))) (rCons (rC (.int 0)) (rCons (rOp gIx (rVar 1) (rC (.int 6))) rNil)))))))) (rCons (rC (.bl true)) rNil)))) rNext)
    (rSeq (rSet 2 (rOp gIx (rVar 1) (rC (.int 2))))
    (rSeq (rIfS (rB (rOp GEq (rVar 2) (rC (.int 0)))) (rSet 2 (rOp gIx (rVar 0) (rC (.int 1)))) rNext)
    (rRet (rTup (rCons (rTup (rCons (rOp gIx (rVar 1) (rC (.int 0))) (rCons (rC (.int 0)) (rCons (rVar 2) (rCons (rOp gIx (rVar 1) (rC (.int 3))) (rCons (rOp gIx (rVar 1) (rC (.int 4))) (rCons (rOp gSub (rOp gIx (rVar 1) (rC (.int 5))) (rC (.int 1))) (rCons (rOp gIx (rVar 1) (rC (.int 6))) rNil)))))))) (rCons (rC (.bl false)) rNil)))))))
theorem w_extra_behind {P : Program} {w : World} {K : PySem.W.Frag} {mg : Str → Option Value} {base : Heap} {f : Addr} {cdv : Value} {A : Around} {outer : List Env} {s : Shared} {H : Hp} {E : XK} (T : Tx K mg) (hu : (A.deeper (envOfC "extra_behind" (defScope (top 25)) s.heap.objs.size f cdv)).units + 64 < cLine)  :
    JB (cxOf CX0 P w K mg base N_extra_behind "extra_behind" (defScope (top 25)) f cdv A outer s H E).nox (defBody (top 25)) (t_extra_behind K ) :=
    (jb_cons (js_if (jt_cmp (p_eq hu) (jv_ix (je_var 1 (hv := .inl rfl)) je_int) je_int) (jb_one (js_ret (je_tup (ja_cons (je_tup (ja_cons (je_op p_add (jv_ix (je_var 1 (hv := .inl rfl)) je_int) je_int) (ja_cons je_int (ja_cons (jv_ix (je_var 0 (hv := .inl rfl)) je_int) (ja_cons (jv_ix (je_var 1 (hv := .inl rfl)) je_int) (ja_cons (jv_ix (je_var 1 (hv := .inl rfl)) je_int) (ja_cons je_int (ja_cons (jv_ix (je_var 1 (hv := .inl rfl)) je_int) ja_nil)))))))) (ja_cons je_bl ja_nil))))) jb_nil)
    (jb_cons (js_set 2 sc_extra_behind.nd (jv_ix (je_var 1 (hv := .inl rfl)) je_int))
    (jb_cons (js_if (jt_cmp (p_eq hu) (je_var 2 (hv := .inl rfl)) je_int) (jb_one (js_set 2 sc_extra_behind.nd (jv_ix (je_var 0 (hv := .inl rfl)) je_int))) jb_nil)
    (jb_one (js_ret (je_tup (ja_cons (je_tup (ja_cons (jv_ix (je_var 1 (hv := .inl rfl)) je_int) (ja_cons je_int (ja_cons (je_var 2 (hv := .inl rfl)) (ja_cons (jv_ix (je_var 1 (hv := .inl rfl)) je_int) (ja_cons (jv_ix (je_var 1 (hv := .inl rfl)) je_int) (ja_cons (je_op p_sub (jv_ix (je_var 1 (hv := .inl rfl)) je_int) je_int) (ja_cons (jv_ix (je_var 1 (hv := .inl rfl)) je_int) ja_nil)))))))) (ja_cons je_bl ja_nil))))))))
def N_row_behind : List Str := ["lane", "row", "pins", "done", "ball", "up", "near", "far", "extra", "total", "felled"]
theorem sc_row_behind : FnScope N_row_behind ["lane", "row", "pins"] (defScope (top 26)) := ⟨rfl, rfl, rfl, by decide +kernel, rfl, by decide +kernel, by decide +kernel⟩
def t_row_behind (K : PySem.W.Frag) (s_extra_behind : DSp) (s_frame_behind : DSp) : RS :=
    (rSeq (rAsg (rVar 1) (gtD 7 (gsCons (gnD 3) (gsCons (gnD 4) (gsCons (gnD 5) (gsCons (gnD 6) (gsCons (gnD 7) (gsCons (gnD 8) (gsCons (gnD 9) gsNil)))))))))
    (rSeq (rSet 9 (rOp gAdd (rVar 9) (rOp gMul (rVar 2) (rVar 6))))
    (rSeq (rIfS (rB (rOp gGt (rVar 8) (rC (.int 0)))) (rRet (rCall .no s_extra_behind (rCons (rVar 0) (rCons (rTup (rCons (rVar 3) (rCons (rC (.int 0)) (rCons (rOp gSub (rVar 5) (rVar 2)) (rCons (rVar 7) (rCons (rC (.int 0)) (rCons (rVar 8) (rCons (rVar 9) rNil)))))))) rNil)))) rNext)
    (rSeq (rSet 10 (rTup (rCons (rVar 3) (rCons (rOp gAdd (rVar 4) (rC (.int 1))) (rCons (rOp gSub (rVar 5) (rVar 2)) (rCons (rVar 7) (rCons (rC (.int 0)) (rCons (rC (.int 0)) (rCons (rOp gAdd (rVar 9) (rVar 2)) rNil)))))))))
    (rSeq (rIfS (rAnd (rB (rOp GEq (rVar 5) (rVar 2))) (rB (rOp GEq (rVar 4) (rC (.int 0))))) (rRet (rCall .no s_frame_behind (rCons (rVar 0) (rCons (rVar 10) (rCons (rOp gAdd (rVar 7) (rC (.int 1))) (rCons (rC (.int 1)) (rCons (rC (.int 2)) rNil))))))) rNext)
    (rSeq (rIfS (rB (rOp GEq (rVar 5) (rVar 2))) (rRet (rCall .no s_frame_behind (rCons (rVar 0) (rCons (rVar 10) (rCons (rOp gAdd (rVar 7) (rC (.int 1))) (rCons (rC (.int 0)) (rCons (rC (.int 1)) rNil))))))) rNext)
    (rSeq (rIfS (rB (rOp GEq (rVar 4) (rC (.int 1)))) (rRet (rCall .no s_frame_behind (rCons (rVar 0) (rCons (rVar 10) (rCons (rVar 7) (rCons (rC (.int 0)) (rCons (rC (.int 0)) rNil))))))) rNext)
    (rRet (rTup (rCons (rVar 10) (rCons (rC (.bl false)) rNil)))))))))))
theorem w_row_behind {P : Program} {w : World} {K : PySem.W.Frag} {mg : Str → Option Value} {base : Heap} {f : Addr} {cdv : Value} {A : Around} {outer : List Env} {s : Shared} {H : Hp} {E : XK} {s_extra_behind : DSp} {s_frame_behind : DSp} (T : Tx K mg) (hu : (A.deeper (envOfC "row_behind" (defScope (top 26)) s.heap.objs.size f cdv)).units + 64 < cLine) {k_extra_behind : Nat} (F_extra_behind : Ok P w K mg base .no k_extra_behind "extra_behind" ["lane", "row"] s_extra_behind) (r_extra_behind : Room k_extra_behind (A.deeper (envOfC "row_behind" (defScope (top 26)) s.heap.objs.size f cdv))) {k_frame_behind : Nat} (F_frame_behind : Ok P w K mg base .no k_frame_behind "frame_behind" ["lane", "row", "near", "far", "earned"] s_frame_behind) (r_frame_behind : Room k_frame_behind (A.deeper (envOfC "row_behind" (defScope (top 26)) s.heap.objs.size f cdv))) :
    JB (cxOf CX0 P w K mg base N_row_behind "row_behind" (defScope (top 26)) f cdv A outer s H E).nox (defBody (top 26)) (t_row_behind K s_extra_behind s_frame_behind) :=
    (jb_cons (js_asg (je_var 1 (hv := .inl rfl)) (jg_tup rfl (jgs_cons (jg_name 3 sc_row_behind.nd) (jgs_cons (jg_name 4 sc_row_behind.nd) (jgs_cons (jg_name 5 sc_row_behind.nd) (jgs_cons (jg_name 6 sc_row_behind.nd) (jgs_cons (jg_name 7 sc_row_behind.nd) (jgs_cons (jg_name 8 sc_row_behind.nd) (jgs_cons (jg_name 9 sc_row_behind.nd) jgs_nil)))))))))
    (jb_cons (js_set 9 sc_row_behind.nd (je_op p_add (je_var 9 (hv := .inl rfl)) (je_op p_mul (je_var 2 (hv := .inl rfl)) (je_var 6 (hv := .inl rfl)))))
    (jb_cons (js_if (jt_cmp (p_gt) (je_var 8 (hv := .inl rfl)) je_int) (jb_one (js_ret (je_call F_extra_behind r_extra_behind (ja_cons (je_var 0 (hv := .inl rfl)) (ja_cons (je_tup (ja_cons (je_var 3 (hv := .inl rfl)) (ja_cons je_int (ja_cons (je_op p_sub (je_var 5 (hv := .inl rfl)) (je_var 2 (hv := .inl rfl))) (ja_cons (je_var 7 (hv := .inl rfl)) (ja_cons je_int (ja_cons (je_var 8 (hv := .inl rfl)) (ja_cons (je_var 9 (hv := .inl rfl)) ja_nil)))))))) ja_nil))))) jb_nil)
    (jb_cons (js_set 10 sc_row_behind.nd (je_tup (ja_cons (je_var 3 (hv := .inl rfl)) (ja_cons (je_op p_add (je_var 4 (hv := .inl rfl)) je_int) (ja_cons (je_op p_sub (je_var 5 (hv := .inl rfl)) (je_var 2 (hv := .inl rfl))) (ja_cons (je_var 7 (hv := .inl rfl)) (ja_cons je_int (ja_cons je_int (ja_cons (je_op p_add (je_var 9 (hv := .inl rfl)) (je_var 2 (hv := .inl rfl))) ja_nil)))))))))
    (jb_cons (js_if (jw_t (jw_and (jt_cmp (p_eq hu) (je_var 5 (hv := .inl rfl)) (je_var 2 (hv := .inl rfl))) (jw_and1 (jt_cmp (p_eq hu) (je_var 4 (hv := .inl rfl)) je_int)))) (jb_one (js_ret (je_call F_frame_behind r_frame_behind (ja_cons (je_var 0 (hv := .inl rfl)) (ja_cons (je_var 10 (hv := .inl rfl)) (ja_cons (je_op p_add (je_var 7 (hv := .inl rfl)) je_int) (ja_cons je_int (ja_cons je_int ja_nil)))))))) jb_nil)
    (jb_cons (js_if (jt_cmp (p_eq hu) (je_var 5 (hv := .inl rfl)) (je_var 2 (hv := .inl rfl))) (jb_one (js_ret (je_call F_frame_behind r_frame_behind (ja_cons (je_var 0 (hv := .inl rfl)) (ja_cons (je_var 10 (hv := .inl rfl)) (ja_cons (je_op p_add (je_var 7 (hv := .inl rfl)) je_int) (ja_cons je_int (ja_cons je_int ja_nil)))))))) jb_nil)
    (jb_cons (js_if (jt_cmp (p_eq hu) (je_var 4 (hv := .inl rfl)) je_int) (jb_one (js_ret (je_call F_frame_behind r_frame_behind (ja_cons (je_var 0 (hv := .inl rfl)) (ja_cons (je_var 10 (hv := .inl rfl)) (ja_cons (je_var 7 (hv := .inl rfl)) (ja_cons je_int (ja_cons je_int ja_nil)))))))) jb_nil)
    (jb_one (js_ret (je_tup (ja_cons (je_var 10 (hv := .inl rfl)) (ja_cons je_bl ja_nil))))))))))))
def N_lane_bowled : List Str := ["lane", "stand", "pins", "rows", "side", "row", "ended", "one"]
theorem sc_lane_bowled : FnScope N_lane_bowled ["lane", "stand", "pins"] (defScope (top 27)) := ⟨rfl, rfl, rfl, by decide +kernel, rfl, by decide +kernel, by decide +kernel⟩
def t_lane_bowled (K : PySem.W.Frag) (s_is_between : DSp) (s_row_behind : DSp) : RS :=
    (rSeq (rAsg (rVar 1) (gtD 2 (gsCons (gnD 3) (gsCons (gnD 4) gsNil))))
    (rSeq (rIfS (rNot (rB (rCall .no s_is_between (rCons (rVar 2) (rCons (rC (.int 0)) (rCons (rOp gIx (rOp gIx (rVar 3) (rVar 4)) (rC (.int 2))) rNil)))))) (rRaise (He.ga K "NoPins")) rNext)
    (rSeq (rAsg (rCall .no s_row_behind (rCons (rVar 0) (rCons (rOp gIx (rVar 3) (rVar 4)) (rCons (rVar 2) rNil)))) (gtD 2 (gsCons (gnD 5) (gsCons (gnD 6) gsNil))))
    (rSeq (rSet 3 (rOp gAdd (rOp gAdd (rSlD (rVar 3) rNoPart (rPart (rVar 4))) (rTup (rCons (rVar 5) rNil))) (rSlD (rVar 3) (rPart (rOp gAdd (rVar 4) (rC (.int 1)))) rNoPart)))
    (rSeq (rIfS (rB (rVar 6)) (rSet 4 (rOp gMod (rOp gAdd (rVar 4) (rC (.int 1))) (rOp gIx (rVar 0) (rC (.int 0))))) rNext)
    (rRet (rTup (rCons (rTup (rCons (rVar 3) (rCons (rVar 4) rNil))) (rCons (rCB gAll (rCons (rLc (rItT (rVar 3)) 7 (rOp GEq (rOp gIx (rVar 7) (rC (.int 0))) (rOp gIx (rVar 0) (rC (.int 2))))) rNil)) rNil)))))))))
theorem w_lane_bowled {P : Program} {w : World} {K : PySem.W.Frag} {mg : Str → Option Value} {base : Heap} {f : Addr} {cdv : Value} {A : Around} {outer : List Env} {s : Shared} {H : Hp} {E : XK} {s_is_between : DSp} {s_row_behind : DSp} (T : Tx K mg) (hu : (A.deeper (envOfC "lane_bowled" (defScope (top 27)) s.heap.objs.size f cdv)).units + 64 < cLine) {k_is_between : Nat} (F_is_between : Ok P w K mg base .no k_is_between "is_between" ["thing", "low", "high"] s_is_between) (r_is_between : Room k_is_between (A.deeper (envOfC "lane_bowled" (defScope (top 27)) s.heap.objs.size f cdv))) {k_row_behind : Nat} (F_row_behind : Ok P w K mg base .no k_row_behind "row_behind" ["lane", "row", "pins"] s_row_behind) (r_row_behind : Room k_row_behind (A.deeper (envOfC "lane_bowled" (defScope (top 27)) s.heap.objs.size f cdv))) :
    JB (cxOf (L2N.CX P w) P w K mg base N_lane_bowled "lane_bowled" (defScope (top 27)) f cdv A outer s H E) (defBody (top 27)) (t_lane_bowled K s_is_between s_row_behind) :=
    (jb_cons (js_asg (je_var 1 (hv := .inl rfl)) (jg_tup rfl (jgs_cons (jg_name 3 sc_lane_bowled.nd) (jgs_cons (jg_name 4 sc_lane_bowled.nd) jgs_nil))))
    (jb_cons (js_if (jt_not (jt_val (je_call F_is_between r_is_between (ja_cons (je_var 2 (hv := .inl rfl)) (ja_cons je_int (ja_cons (jv_ix (jv_ix (je_var 3 (hv := .inl rfl)) (je_var 4 (hv := .inl rfl))) je_int) ja_nil)))))) (jb_one (js_raise ⟨T.g_NoPins, T.x_NoPins⟩ rfl)) jb_nil)
    (jb_cons (js_asg (je_call F_row_behind r_row_behind (ja_cons (je_var 0 (hv := .inr (.inl rfl))) (ja_cons (jv_ix (je_var 3 (hv := .inl rfl)) (je_var 4 (hv := .inl rfl))) (ja_cons (je_var 2 (hv := .inl rfl)) ja_nil)))) (jg_tup rfl (jgs_cons (jg_name 5 sc_lane_bowled.nd) (jgs_cons (jg_name 6 sc_lane_bowled.nd) jgs_nil))))
    (jb_cons (js_set 3 sc_lane_bowled.nd (je_op p_add (je_op p_add (je_slice (je_var 3 (hv := .inl rfl)) jo_none (jo_some (je_var 4 (hv := .inl rfl)))) (je_tup (ja_cons (je_var 5 (hv := .inl rfl)) ja_nil))) (je_slice (je_var 3 (hv := .inl rfl)) (jo_some (je_op p_add (je_var 4 (hv := .inl rfl)) je_int)) jo_none)))
    (jb_cons (js_if (jt_val (je_var 6 (hv := .inl rfl))) (jb_one (js_set 4 sc_lane_bowled.nd (je_op p_mod (je_op p_add (je_var 4 (hv := .inl rfl)) je_int) (jv_ix (je_var 0 (hv := .inr (.inl rfl))) je_int)))) jb_nil)
    (jb_one (js_ret (je_tup (ja_cons (je_tup (ja_cons (je_var 3 (hv := .inl rfl)) (ja_cons (je_var 4 (hv := .inl rfl)) ja_nil))) (ja_cons (je_callB (p_all rfl) rfl T.f_all Boot.«all» (ja_cons (je_lc 7 rfl sc_lane_bowled.nd (blk_ok (N := N_lane_bowled) (sc := defScope (top 27)) (by decide +kernel)) (ji_tup (je_var 3 (hv := .inl rfl))) (fun _ _ _ _ _ => (je_cmp (p_eq hu) (jv_ix (je_var 7 (hv := .inl rfl)) je_int) (jv_ix (je_var 0 (hv := .inr (.inl rfl))) je_int))) (fun _ _ _ _ _ => pg_name sc_lane_bowled.nd rfl (.inl rfl) (.inr rfl))) ja_nil)) ja_nil))))))))))
def N_best_of : List Str := ["stand", "totals", "row", "side"]
theorem sc_best_of : FnScope N_best_of ["stand"] (defScope (top 28)) := ⟨rfl, rfl, rfl, by decide +kernel, rfl, by decide +kernel, by decide +kernel⟩
def t_best_of (K : PySem.W.Frag) : RS :=
    (rSeq (rSet 1 (rLc (rItT (rOp gIx (rVar 0) (rC (.int 0)))) 2 (rOp gIx (rVar 2) (rC (.int 6)))))
    (rRet (rCB gTupOf (rCons (rLcT (rItR (rCB gLen (rCons (rVar 1) rNil))) 3 (rB (rOp GEq (rOp gIx (rVar 1) (rVar 3)) (rCB fMaxL (rCons (rVar 1) rNil)))) (rVar 3)) rNil))))
theorem w_best_of {P : Program} {w : World} {K : PySem.W.Frag} {mg : Str → Option Value} {base : Heap} {f : Addr} {cdv : Value} {A : Around} {outer : List Env} {s : Shared} {H : Hp} {E : XK} (T : Tx K mg) (hu : (A.deeper (envOfC "best_of" (defScope (top 28)) s.heap.objs.size f cdv)).units + 64 < cLine)  :
    JB (cxOf CX0 P w K mg base N_best_of "best_of" (defScope (top 28)) f cdv A outer s H E).nox (defBody (top 28)) (t_best_of K ) :=
    (jb_cons (js_set 1 sc_best_of.nd (je_lc 2 rfl sc_best_of.nd (blk_ok (N := N_best_of) (sc := defScope (top 28)) (by decide +kernel)) (ji_tup (jv_ix (je_var 0 (hv := .inl rfl)) je_int)) (fun _ _ _ _ _ => (jv_ix (je_var 2 (hv := .inl rfl)) je_int)) (fun _ _ _ _ _ => pg_name sc_best_of.nd rfl (.inl rfl) (.inr rfl))) (hx := .inr rfl) (hf := .inl rfl))
    (jb_one (js_ret (je_callTy p_tupOf rfl T.f_tuple Boot.«tuple» (ja_cons (je_lcT 3 rfl sc_best_of.nd (blk_ok (N := N_best_of) (sc := defScope (top 28)) (by decide +kernel)) (ji_rng rfl T.f_range (je_callB p_len rfl T.f_len Boot.«len» (ja_cons (je_var 1 (hv := .inr (.inl rfl))) ja_nil))) (fun _ _ _ _ _ => (jt_cmp (p_eq hu) (jv_ix (je_var 1 (hv := .inr (.inl rfl))) (je_var 3 (hv := .inl rfl))) (je_callB (o_maxL rfl) rfl T.f_max Boot.«max» (ja_cons (je_var 1 (hv := .inr (.inl rfl))) ja_nil)))) (fun _ _ _ _ _ => (je_var 3 (hv := .inl rfl))) (fun _ _ _ _ _ => pg_name sc_best_of.nd rfl (.inl rfl) (.inr rfl))) ja_nil)))))
def N_is_count : List Str := ["thing", "least"]
theorem sc_is_count : FnScope N_is_count ["thing", "least"] (defScope (top 34)) := ⟨rfl, rfl, rfl, by decide +kernel, rfl, by decide +kernel, by decide +kernel⟩
def t_is_count (K : PySem.W.Frag) : RS :=
    (rRet (rAndV (rUn (gIsa .int) (rVar 0)) (rAndV (rNotV (rUn (gIsa .bl) (rVar 0))) (rChain gLe gLe (rVar 1) (rVar 0) (rC (.int 99))))))
theorem w_is_count {P : Program} {w : World} {K : PySem.W.Frag} {mg : Str → Option Value} {base : Heap} {f : Addr} {cdv : Value} {A : Around} {outer : List Env} {s : Shared} {H : Hp} {E : XK} (T : Tx K mg) (hu : (A.deeper (envOfC "is_count" (defScope (top 34)) s.heap.objs.size f cdv)).units + 64 < cLine)  :
    JB (cxOf CX0 P w K mg base N_is_count "is_count" (defScope (top 34)) f cdv A outer s H E).nox (defBody (top 34)) (t_is_count K ) :=
    (jb_one (js_ret (je_and (jv_isa .int (by decide) rfl T.f_isinstance rfl T.f_int Boot.«int» (je_var 0 (hv := .inl rfl))) (je_and (je_not (jv_isa .bl (by decide) rfl T.f_isinstance rfl T.f_bool Boot.«bool» (je_var 0 (hv := .inl rfl)))) (je_one (je_chain (p_le) (p_le) (je_var 1 (hv := .inl rfl)) (je_var 0 (hv := .inl rfl)) (je_gint rfl T.i_GREATEST)))))))
def N_has_numbers : List Str := ["unit"]
theorem sc_has_numbers : FnScope N_has_numbers ["unit"] (defScope (top 35)) := ⟨rfl, rfl, rfl, by decide +kernel, rfl, by decide +kernel, by decide +kernel⟩
def t_has_numbers (K : PySem.W.Frag) (s_is_count : DSp) : RS :=
    (rSeq (rIfS (rOr (rNot (rB (rCall .no s_is_count (rCons (rOp gIx (rVar 0) (rC (.int 1))) (rCons (rC (.int 1)) rNil))))) (rNot (rB (rCall .no s_is_count (rCons (rOp gIx (rVar 0) (rC (.int 2))) (rCons (rC (.int 1)) rNil)))))) (rRet (rC (.bl false))) rNext)
    (rSeq (rIfS (rB (rOp gIs (rOp gIx (rVar 0) (rC (.int 3))) (rC .non))) (rRet (rOp gIs (rOp gIx (rVar 0) (rC (.int 5))) (rC .non))) rNext)
    (rRet (rCall .no s_is_count (rCons (rOp gIx (rVar 0) (rC (.int 3))) (rCons (rOp gIx (rVar 0) (rC (.int 1))) rNil))))))
theorem w_has_numbers {P : Program} {w : World} {K : PySem.W.Frag} {mg : Str → Option Value} {base : Heap} {f : Addr} {cdv : Value} {A : Around} {outer : List Env} {s : Shared} {H : Hp} {E : XK} {s_is_count : DSp} (T : Tx K mg) (hu : (A.deeper (envOfC "has_numbers" (defScope (top 35)) s.heap.objs.size f cdv)).units + 64 < cLine) {k_is_count : Nat} (F_is_count : Ok P w K mg base .no k_is_count "is_count" ["thing", "least"] s_is_count) (r_is_count : Room k_is_count (A.deeper (envOfC "has_numbers" (defScope (top 35)) s.heap.objs.size f cdv))) :
    JB (cxOf CX0 P w K mg base N_has_numbers "has_numbers" (defScope (top 35)) f cdv A outer s H E).nox (defBody (top 35)) (t_has_numbers K s_is_count) :=
    (jb_cons (js_if (jw_t (jw_or (jt_not (jt_val (je_call F_is_count r_is_count (ja_cons (jv_ix (je_var 0 (hv := .inl rfl)) je_int) (ja_cons je_int ja_nil))))) (jw_or1 (jt_not (jt_val (je_call F_is_count r_is_count (ja_cons (jv_ix (je_var 0 (hv := .inl rfl)) je_int) (ja_cons je_int ja_nil)))))))) (jb_one (js_ret je_bl)) jb_nil)
    (jb_cons (js_if (jt_cmp (p_is) (jv_ix (je_var 0 (hv := .inl rfl)) je_int) je_non) (jb_one (js_ret (je_cmp (p_is) (jv_ix (je_var 0 (hv := .inl rfl)) je_int) je_non))) jb_nil)
    (jb_one (js_ret (je_call F_is_count r_is_count (ja_cons (jv_ix (je_var 0 (hv := .inl rfl)) je_int) (ja_cons (jv_ix (je_var 0 (hv := .inl rfl)) je_int) ja_nil)))))))
def N_units_in : List Str := ["thing", "around", "many", "parts", "part", "more"]
theorem sc_units_in : FnScope N_units_in ["thing", "around"] (defScope (top 36)) := ⟨rfl, rfl, rfl, by decide +kernel, rfl, by decide +kernel, by decide +kernel⟩
def t_units_in (K : PySem.W.Frag) (s_has_numbers : DSp) (s_units_in : DSp) : RS :=
    (rSeq (rIfS (rB (rOp GEq (rVar 0) (rC (.tup [.str "point"])))) (rRet (rC (.int 0))) rNext)
    (rSeq (rIfS (rOr (rNot (rB (rUn (gIsa .tup) (rVar 0)))) (rOr (rB (rOp GNe (rCB gLen (rCons (rVar 0) rNil)) (rC (.int 6)))) (rB (rOp GEq (rVar 1) (rC (.int 4)))))) (rRet (rC .non)) rNext)
    (rSeq (rIfS (rOr (rB (rOp GNe (rOp gIx (rVar 0) (rC (.int 0))) (rC (.str "unit")))) (rNot (rB (rCall .no s_has_numbers (rCons (rVar 0) rNil))))) (rRet (rC .non)) rNext)
    (rSeq (rSet 2 (rC (.int 1)))
    (rSeq (rSet 3 (rLst (rCons (rOp gIx (rVar 0) (rC (.int 4))) rNil)))
    (rSeq (rIfS (rB (rOp gIsNot (rOp gIx (rVar 0) (rC (.int 5))) (rC .non))) (rDrop (rBM "list" fAppend (rVar 3) (rCons (rOp gIx (rVar 0) (rC (.int 5))) rNil))) rNext)
    (rSeq (rForL (rVar 3) (gnD 4)
    (rSeq (rSet 5 (rCall .no s_units_in (rCons (rVar 4) (rCons (rOp gAdd (rVar 1) (rC (.int 1))) rNil))))
    (rSeq (rIfS (rB (rOp gIs (rVar 5) (rC .non))) (rRet (rC .non)) rNext)
    (rSet 2 (rOp gAdd (rVar 2) (rVar 5))))))
    (rRet (rVar 2)))))))))
theorem w_units_in {P : Program} {w : World} {K : PySem.W.Frag} {mg : Str → Option Value} {base : Heap} {f : Addr} {cdv : Value} {A : Around} {outer : List Env} {s : Shared} {H : Hp} {E : XK} {s_has_numbers : DSp} {s_units_in : DSp} (T : Tx K mg) (hu : (A.deeper (envOfC "units_in" (defScope (top 36)) s.heap.objs.size f cdv)).units + 64 < cLine) {k_has_numbers : Nat} (F_has_numbers : Ok P w K mg base .no k_has_numbers "has_numbers" ["unit"] s_has_numbers) (r_has_numbers : Room k_has_numbers (A.deeper (envOfC "units_in" (defScope (top 36)) s.heap.objs.size f cdv))) {k_units_in : Nat} (F_units_in : Ok P w K mg base .no k_units_in "units_in" ["thing", "around"] s_units_in) (r_units_in : Room k_units_in (A.deeper (envOfC "units_in" (defScope (top 36)) s.heap.objs.size f cdv))) :
    JB (cxOf CX0 P w K mg base N_units_in "units_in" (defScope (top 36)) f cdv A outer s H E).nox (defBody (top 36)) (t_units_in K s_has_numbers s_units_in) :=
    (jb_cons (js_if (jt_cmp (p_eq hu) (je_var 0 (hv := .inl rfl)) (je_glob rfl T.g_POINT (v := .ref _) rfl (fun H => .tup (T.t_POINT H) (.cons (.str _) .nil)))) (jb_one (js_ret je_int)) jb_nil)
    (jb_cons (js_if (jw_t (jw_or (jt_not (jt_val (jv_isa .tup (by decide) rfl T.f_isinstance rfl T.f_tuple Boot.«tuple» (je_var 0 (hv := .inl rfl))))) (jw_or (jt_cmp (p_ne hu) (je_callB p_len rfl T.f_len Boot.«len» (ja_cons (je_var 0 (hv := .inl rfl)) ja_nil)) je_int) (jw_or1 (jt_cmp (p_eq hu) (je_var 1 (hv := .inl rfl)) (je_gint rfl T.i_MOST_DEEP)))))) (jb_one (js_ret je_non)) jb_nil)
    (jb_cons (js_if (jw_t (jw_or (jt_cmp (p_ne hu) (jv_ix (je_var 0 (hv := .inl rfl)) je_int) je_str) (jw_or1 (jt_not (jt_val (je_call F_has_numbers r_has_numbers (ja_cons (je_var 0 (hv := .inl rfl)) ja_nil))))))) (jb_one (js_ret je_non)) jb_nil)
    (jb_cons (js_set 2 sc_units_in.nd je_int)
    (jb_cons (js_set 3 sc_units_in.nd (je_lst (ja_cons (jv_ix (je_var 0 (hv := .inl rfl)) je_int) ja_nil)))
    (jb_cons (js_if (jt_cmp (p_isnot) (jv_ix (je_var 0 (hv := .inl rfl)) je_int) je_non) (jb_one (js_expr (je_bm PySem.F.plainAttrs_list PySem.F.slot_list_append PySem.F.type_list_append o_append (je_var 3 (hv := .inl rfl)) (ja_cons (jv_ix (je_var 0 (hv := .inl rfl)) je_int) ja_nil)))) jb_nil)
    (jb_cons (js_forL PassesOwn.never rfl (je_var 3 (hv := .inl rfl)) (jg_name 4 sc_units_in.nd)
    (jb_cons (js_set 5 sc_units_in.nd (je_call F_units_in r_units_in (ja_cons (je_var 4 (hv := .inl rfl)) (ja_cons (je_op p_add (je_var 1 (hv := .inl rfl)) je_int) ja_nil))))
    (jb_cons (js_if (jt_cmp (p_is) (je_var 5 (hv := .inl rfl)) je_non) (jb_one (js_ret je_non)) jb_nil)
    (jb_one (js_set 2 sc_units_in.nd (je_op p_add (je_var 2 (hv := .inl rfl)) (je_var 5 (hv := .inl rfl))))))))
    (jb_one (js_ret (je_var 2 (hv := .inl rfl)))))))))))
def N_is_rule : List Str := ["thing", "many"]
theorem sc_is_rule : FnScope N_is_rule ["thing"] (defScope (top 37)) := ⟨rfl, rfl, rfl, by decide +kernel, rfl, by decide +kernel, by decide +kernel⟩
def t_is_rule (K : PySem.W.Frag) (s_units_in : DSp) : RS :=
    (rSeq (rSet 1 (rCall .no s_units_in (rCons (rVar 0) (rCons (rC (.int 0)) rNil))))
    (rRet (rAndV (rOp gIsNot (rVar 1) (rC .non)) (rOp gLe (rVar 1) (rC (.int 10))))))
theorem w_is_rule {P : Program} {w : World} {K : PySem.W.Frag} {mg : Str → Option Value} {base : Heap} {f : Addr} {cdv : Value} {A : Around} {outer : List Env} {s : Shared} {H : Hp} {E : XK} {s_units_in : DSp} (T : Tx K mg) (hu : (A.deeper (envOfC "is_rule" (defScope (top 37)) s.heap.objs.size f cdv)).units + 64 < cLine) {k_units_in : Nat} (F_units_in : Ok P w K mg base .no k_units_in "units_in" ["thing", "around"] s_units_in) (r_units_in : Room k_units_in (A.deeper (envOfC "is_rule" (defScope (top 37)) s.heap.objs.size f cdv))) :
    JB (cxOf CX0 P w K mg base N_is_rule "is_rule" (defScope (top 37)) f cdv A outer s H E).nox (defBody (top 37)) (t_is_rule K s_units_in) :=
    (jb_cons (js_set 1 sc_is_rule.nd (je_call F_units_in r_units_in (ja_cons (je_var 0 (hv := .inl rfl)) (ja_cons je_int ja_nil))))
    (jb_one (js_ret (je_and (je_cmp (p_isnot) (je_var 1 (hv := .inl rfl)) je_non) (je_one (je_cmp (p_le) (je_var 1 (hv := .inl rfl)) (je_gint rfl T.i_MOST_UNITS)))))))
def N_rule_within : List Str := ["rule", "zero", "one"]
theorem sc_rule_within : FnScope N_rule_within ["rule", "zero", "one"] (defScope (top 39)) := ⟨rfl, rfl, rfl, by decide +kernel, rfl, by decide +kernel, by decide +kernel⟩
def t_rule_within (K : PySem.W.Frag) : RS :=
    (rSeq (rIfS (rAnd (rB (rOp gIsNot (rOp gIx (rVar 0) (rC (.int 5))) (rC .non))) (rAnd (rB (rOp GEq (rVar 1) (rOp gSub (rOp gIx (rVar 0) (rC (.int 3))) (rC (.int 1))))) (rB (rOp GEq (rVar 2) (rOp gSub (rOp gIx (rVar 0) (rC (.int 3))) (rC (.int 1))))))) (rRet (rOp gIx (rVar 0) (rC (.int 5)))) rNext)
    (rRet (rOp gIx (rVar 0) (rC (.int 4)))))
theorem w_rule_within {P : Program} {w : World} {K : PySem.W.Frag} {mg : Str → Option Value} {base : Heap} {f : Addr} {cdv : Value} {A : Around} {outer : List Env} {s : Shared} {H : Hp} {E : XK} (T : Tx K mg) (hu : (A.deeper (envOfC "rule_within" (defScope (top 39)) s.heap.objs.size f cdv)).units + 64 < cLine)  :
    JB (cxOf CX0 P w K mg base N_rule_within "rule_within" (defScope (top 39)) f cdv A outer s H E).nox (defBody (top 39)) (t_rule_within K ) :=
    (jb_cons (js_if (jw_t (jw_and (jt_cmp (p_isnot) (jv_ix (je_var 0 (hv := .inl rfl)) je_int) je_non) (jw_and (jt_cmp (p_eq hu) (je_var 1 (hv := .inl rfl)) (je_op p_sub (jv_ix (je_var 0 (hv := .inl rfl)) je_int) je_int)) (jw_and1 (jt_cmp (p_eq hu) (je_var 2 (hv := .inl rfl)) (je_op p_sub (jv_ix (je_var 0 (hv := .inl rfl)) je_int) je_int)))))) (jb_one (js_ret (jv_ix (je_var 0 (hv := .inl rfl)) je_int))) jb_nil)
    (jb_one (js_ret (jv_ix (je_var 0 (hv := .inl rfl)) je_int))))
def N_begun : List Str := ["rule"]
theorem sc_begun : FnScope N_begun ["rule"] (defScope (top 40)) := ⟨rfl, rfl, rfl, by decide +kernel, rfl, by decide +kernel, by decide +kernel⟩
def t_begun (K : PySem.W.Frag) (s_begun : DSp) (s_rule_within : DSp) : RS :=
    (rSeq (rIfS (rB (rOp GEq (rVar 0) (rC (.tup [.str "point"])))) (rRet (rTup rNil)) rNext)
    (rRet (rTup (rCons (rC (.int 0)) (rCons (rC (.int 0)) (rCons (rCall .no s_begun (rCons (rCall .no s_rule_within (rCons (rVar 0) (rCons (rC (.int 0)) (rCons (rC (.int 0)) rNil)))) rNil)) rNil))))))
theorem w_begun {P : Program} {w : World} {K : PySem.W.Frag} {mg : Str → Option Value} {base : Heap} {f : Addr} {cdv : Value} {A : Around} {outer : List Env} {s : Shared} {H : Hp} {E : XK} {s_begun : DSp} {s_rule_within : DSp} (T : Tx K mg) (hu : (A.deeper (envOfC "begun" (defScope (top 40)) s.heap.objs.size f cdv)).units + 64 < cLine) {k_begun : Nat} (F_begun : Ok P w K mg base .no k_begun "begun" ["rule"] s_begun) (r_begun : Room k_begun (A.deeper (envOfC "begun" (defScope (top 40)) s.heap.objs.size f cdv))) {k_rule_within : Nat} (F_rule_within : Ok P w K mg base .no k_rule_within "rule_within" ["rule", "zero", "one"] s_rule_within) (r_rule_within : Room k_rule_within (A.deeper (envOfC "begun" (defScope (top 40)) s.heap.objs.size f cdv))) :
    JB (cxOf CX0 P w K mg base N_begun "begun" (defScope (top 40)) f cdv A outer s H E).nox (defBody (top 40)) (t_begun K s_begun s_rule_within) :=
    (jb_cons (js_if (jt_cmp (p_eq hu) (je_var 0 (hv := .inl rfl)) (je_glob rfl T.g_POINT (v := .ref _) rfl (fun H => .tup (T.t_POINT H) (.cons (.str _) .nil)))) (jb_one (js_ret (je_tup ja_nil))) jb_nil)
    (jb_one (js_ret (je_tup (ja_cons je_int (ja_cons je_int (ja_cons (je_call F_begun r_begun (ja_cons (je_call F_rule_within r_rule_within (ja_cons (je_var 0 (hv := .inl rfl)) (ja_cons je_int (ja_cons je_int ja_nil)))) ja_nil)) ja_nil)))))))
def N_is_won : List Str := ["rule", "own", "other"]
theorem sc_is_won : FnScope N_is_won ["rule", "own", "other"] (defScope (top 41)) := ⟨rfl, rfl, rfl, by decide +kernel, rfl, by decide +kernel, by decide +kernel⟩
def t_is_won (K : PySem.W.Frag) : RS :=
    (rSeq (rIfS (rAnd (rB (rOp gIsNot (rOp gIx (rVar 0) (rC (.int 3))) (rC .non))) (rB (rOp GEq (rVar 1) (rOp gIx (rVar 0) (rC (.int 3)))))) (rRet (rC (.bl true))) rNext)
    (rRet (rAndV (rOp gGe (rVar 1) (rOp gIx (rVar 0) (rC (.int 1)))) (rOp gGe (rOp gSub (rVar 1) (rVar 2)) (rOp gIx (rVar 0) (rC (.int 2)))))))
theorem w_is_won {P : Program} {w : World} {K : PySem.W.Frag} {mg : Str → Option Value} {base : Heap} {f : Addr} {cdv : Value} {A : Around} {outer : List Env} {s : Shared} {H : Hp} {E : XK} (T : Tx K mg) (hu : (A.deeper (envOfC "is_won" (defScope (top 41)) s.heap.objs.size f cdv)).units + 64 < cLine)  :
    JB (cxOf CX0 P w K mg base N_is_won "is_won" (defScope (top 41)) f cdv A outer s H E).nox (defBody (top 41)) (t_is_won K ) :=
    (jb_cons (js_if (jw_t (jw_and (jt_cmp (p_isnot) (jv_ix (je_var 0 (hv := .inl rfl)) je_int) je_non) (jw_and1 (jt_cmp (p_eq hu) (je_var 1 (hv := .inl rfl)) (jv_ix (je_var 0 (hv := .inl rfl)) je_int))))) (jb_one (js_ret je_bl)) jb_nil)
    (jb_one (js_ret (je_and (je_cmp (p_ge) (je_var 1 (hv := .inl rfl)) (jv_ix (je_var 0 (hv := .inl rfl)) je_int)) (je_one (je_cmp (p_ge) (je_op p_sub (je_var 1 (hv := .inl rfl)) (je_var 2 (hv := .inl rfl))) (jv_ix (je_var 0 (hv := .inl rfl)) je_int)))))))
def N_rallied : List Str := ["rule", "stand", "side", "counts", "within", "won"]
theorem sc_rallied : FnScope N_rallied ["rule", "stand", "side"] (defScope (top 42)) := ⟨rfl, rfl, rfl, by decide +kernel, rfl, by decide +kernel, by decide +kernel⟩
def t_rallied (K : PySem.W.Frag) (s_rallied : DSp) (s_rule_within : DSp) (s_is_won : DSp) (s_begun : DSp) : RS :=
    (rSeq (rIfS (rB (rOp GEq (rVar 0) (rC (.tup [.str "point"])))) (rRet (rTup (rCons (rTup rNil) (rCons (rC (.bl true)) rNil)))) rNext)
    (rSeq (rSet 3 (rLst (rCons (rOp gIx (rVar 1) (rC (.int 0))) (rCons (rOp gIx (rVar 1) (rC (.int 1))) rNil))))
    (rSeq (rAsg (rCall .no s_rallied (rCons (rCall .no s_rule_within (rCons (rVar 0) (rCons (rOp gIx (rVar 1) (rC (.int 0))) (rCons (rOp gIx (rVar 1) (rC (.int 1))) rNil)))) (rCons (rOp gIx (rVar 1) (rC (.int 2))) (rCons (rVar 2) rNil)))) (gtD 2 (gsCons (gnD 4) (gsCons (gnD 5) gsNil))))
    (rSeq (rIfS (rB (rVar 5)) (rSeq (rAsg (rOp gAdd (rOp gIx (rVar 3) (rVar 2)) (rC (.int 1))) (gbD (rVar 3) (rVar 2)))
    (rSeq (rIfS (rB (rCall .no s_is_won (rCons (rVar 0) (rCons (rOp gIx (rVar 3) (rVar 2)) (rCons (rOp gIx (rVar 3) (rOp gSub (rC (.int 1)) (rVar 2))) rNil))))) (rRet (rTup (rCons (rTup (rCons (rOp gIx (rVar 3) (rC (.int 0))) (rCons (rOp gIx (rVar 3) (rC (.int 1))) (rCons (rTup rNil) rNil)))) (rCons (rC (.bl true)) rNil)))) rNext)
    (rSet 4 (rCall .no s_begun (rCons (rCall .no s_rule_within (rCons (rVar 0) (rCons (rOp gIx (rVar 3) (rC (.int 0))) (rCons (rOp gIx (rVar 3) (rC (.int 1))) rNil)))) rNil))))) rNext)
    (rRet (rTup (rCons (rTup (rCons (rOp gIx (rVar 3) (rC (.int 0))) (rCons (rOp gIx (rVar 3) (rC (.int 1))) (rCons (rVar 4) rNil)))) (rCons (rC (.bl false)) rNil))))))))
theorem w_rallied {P : Program} {w : World} {K : PySem.W.Frag} {mg : Str → Option Value} {base : Heap} {f : Addr} {cdv : Value} {A : Around} {outer : List Env} {s : Shared} {H : Hp} {E : XK} {s_rallied : DSp} {s_rule_within : DSp} {s_is_won : DSp} {s_begun : DSp} (T : Tx K mg) (hu : (A.deeper (envOfC "rallied" (defScope (top 42)) s.heap.objs.size f cdv)).units + 64 < cLine) {k_rallied : Nat} (F_rallied : Ok P w K mg base .no k_rallied "rallied" ["rule", "stand", "side"] s_rallied) (r_rallied : Room k_rallied (A.deeper (envOfC "rallied" (defScope (top 42)) s.heap.objs.size f cdv))) {k_rule_within : Nat} (F_rule_within : Ok P w K mg base .no k_rule_within "rule_within" ["rule", "zero", "one"] s_rule_within) (r_rule_within : Room k_rule_within (A.deeper (envOfC "rallied" (defScope (top 42)) s.heap.objs.size f cdv))) {k_is_won : Nat} (F_is_won : Ok P w K mg base .no k_is_won "is_won" ["rule", "own", "other"] s_is_won) (r_is_won : Room k_is_won (A.deeper (envOfC "rallied" (defScope (top 42)) s.heap.objs.size f cdv))) {k_begun : Nat} (F_begun : Ok P w K mg base .no k_begun "begun" ["rule"] s_begun) (r_begun : Room k_begun (A.deeper (envOfC "rallied" (defScope (top 42)) s.heap.objs.size f cdv))) :
    JB (cxOf CX0 P w K mg base N_rallied "rallied" (defScope (top 42)) f cdv A outer s H E).nox (defBody (top 42)) (t_rallied K s_rallied s_rule_within s_is_won s_begun) :=
    (jb_cons (js_if (jt_cmp (p_eq hu) (je_var 0 (hv := .inl rfl)) (je_glob rfl T.g_POINT (v := .ref _) rfl (fun H => .tup (T.t_POINT H) (.cons (.str _) .nil)))) (jb_one (js_ret (je_tup (ja_cons (je_tup ja_nil) (ja_cons je_bl ja_nil))))) jb_nil)
    (jb_cons (js_set 3 sc_rallied.nd (je_lst (ja_cons (jv_ix (je_var 1 (hv := .inl rfl)) je_int) (ja_cons (jv_ix (je_var 1 (hv := .inl rfl)) je_int) ja_nil))))
    (jb_cons (js_asg (je_call F_rallied r_rallied (ja_cons (je_call F_rule_within r_rule_within (ja_cons (je_var 0 (hv := .inl rfl)) (ja_cons (jv_ix (je_var 1 (hv := .inl rfl)) je_int) (ja_cons (jv_ix (je_var 1 (hv := .inl rfl)) je_int) ja_nil)))) (ja_cons (jv_ix (je_var 1 (hv := .inl rfl)) je_int) (ja_cons (je_var 2 (hv := .inl rfl)) ja_nil)))) (jg_tup rfl (jgs_cons (jg_name 4 sc_rallied.nd) (jgs_cons (jg_name 5 sc_rallied.nd) jgs_nil))))
    (jb_cons (js_if (jt_val (je_var 5 (hv := .inl rfl))) (jb_cons (js_asg (je_op p_add (jv_ix (je_var 3 (hv := .inl rfl)) (je_var 2 (hv := .inl rfl))) je_int) (jg_sub (je_var 3 (hv := .inl rfl)) (je_var 2 (hv := .inl rfl))))
    (jb_cons (js_if (jt_val (je_call F_is_won r_is_won (ja_cons (je_var 0 (hv := .inl rfl)) (ja_cons (jv_ix (je_var 3 (hv := .inl rfl)) (je_var 2 (hv := .inl rfl))) (ja_cons (jv_ix (je_var 3 (hv := .inl rfl)) (je_op p_sub je_int (je_var 2 (hv := .inl rfl)))) ja_nil))))) (jb_one (js_ret (je_tup (ja_cons (je_tup (ja_cons (jv_ix (je_var 3 (hv := .inl rfl)) je_int) (ja_cons (jv_ix (je_var 3 (hv := .inl rfl)) je_int) (ja_cons (je_tup ja_nil) ja_nil)))) (ja_cons je_bl ja_nil))))) jb_nil)
    (jb_one (js_set 4 sc_rallied.nd (je_call F_begun r_begun (ja_cons (je_call F_rule_within r_rule_within (ja_cons (je_var 0 (hv := .inl rfl)) (ja_cons (jv_ix (je_var 3 (hv := .inl rfl)) je_int) (ja_cons (jv_ix (je_var 3 (hv := .inl rfl)) je_int) ja_nil)))) ja_nil)))))) jb_nil)
    (jb_one (js_ret (je_tup (ja_cons (je_tup (ja_cons (jv_ix (je_var 3 (hv := .inl rfl)) je_int) (ja_cons (jv_ix (je_var 3 (hv := .inl rfl)) je_int) (ja_cons (je_var 4 (hv := .inl rfl)) ja_nil)))) (ja_cons je_bl ja_nil)))))))))
def N_is_game : List Str := ["thing"]
theorem sc_is_game : FnScope N_is_game ["thing"] (defScope (top 44)) := ⟨rfl, rfl, rfl, by decide +kernel, rfl, by decide +kernel, by decide +kernel⟩
def t_is_game (K : PySem.W.Frag) (s_is_rule : DSp) (s_is_down : DSp) (s_is_lane : DSp) : RS :=
    (rSeq (rIfS (rOr (rNot (rB (rUn (gIsa .tup) (rVar 0)))) (rB (rOp GNe (rCB gLen (rCons (rVar 0) rNil)) (rC (.int 2))))) (rRet (rC (.bl false))) rNext)
    (rSeq (rIfS (rB (rOp GEq (rOp gIx (rVar 0) (rC (.int 0))) (rC (.str "rally")))) (rRet (rCall .no s_is_rule (rCons (rOp gIx (rVar 0) (rC (.int 1))) rNil))) rNext)
    (rSeq (rIfS (rB (rOp GEq (rOp gIx (rVar 0) (rC (.int 0))) (rC (.str "down")))) (rRet (rCall .no s_is_down (rCons (rOp gIx (rVar 0) (rC (.int 1))) rNil))) rNext)
    (rRet (rAndV (rOp GEq (rOp gIx (rVar 0) (rC (.int 0))) (rC (.str "lane"))) (rCall .no s_is_lane (rCons (rOp gIx (rVar 0) (rC (.int 1))) rNil)))))))
theorem w_is_game {P : Program} {w : World} {K : PySem.W.Frag} {mg : Str → Option Value} {base : Heap} {f : Addr} {cdv : Value} {A : Around} {outer : List Env} {s : Shared} {H : Hp} {E : XK} {s_is_rule : DSp} {s_is_down : DSp} {s_is_lane : DSp} (T : Tx K mg) (hu : (A.deeper (envOfC "is_game" (defScope (top 44)) s.heap.objs.size f cdv)).units + 64 < cLine) {k_is_rule : Nat} (F_is_rule : Ok P w K mg base .no k_is_rule "is_rule" ["thing"] s_is_rule) (r_is_rule : Room k_is_rule (A.deeper (envOfC "is_game" (defScope (top 44)) s.heap.objs.size f cdv))) {k_is_down : Nat} (F_is_down : Ok P w K mg base .no k_is_down "is_down" ["thing"] s_is_down) (r_is_down : Room k_is_down (A.deeper (envOfC "is_game" (defScope (top 44)) s.heap.objs.size f cdv))) {k_is_lane : Nat} (F_is_lane : Ok P w K mg base .no k_is_lane "is_lane" ["thing"] s_is_lane) (r_is_lane : Room k_is_lane (A.deeper (envOfC "is_game" (defScope (top 44)) s.heap.objs.size f cdv))) :
    JB (cxOf CX0 P w K mg base N_is_game "is_game" (defScope (top 44)) f cdv A outer s H E).nox (defBody (top 44)) (t_is_game K s_is_rule s_is_down s_is_lane) :=
    (jb_cons (js_if (jw_t (jw_or (jt_not (jt_val (jv_isa .tup (by decide) rfl T.f_isinstance rfl T.f_tuple Boot.«tuple» (je_var 0 (hv := .inl rfl))))) (jw_or1 (jt_cmp (p_ne hu) (je_callB p_len rfl T.f_len Boot.«len» (ja_cons (je_var 0 (hv := .inl rfl)) ja_nil)) je_int)))) (jb_one (js_ret je_bl)) jb_nil)
    (jb_cons (js_if (jt_cmp (p_eq hu) (jv_ix (je_var 0 (hv := .inl rfl)) je_int) je_str) (jb_one (js_ret (je_call F_is_rule r_is_rule (ja_cons (jv_ix (je_var 0 (hv := .inl rfl)) je_int) ja_nil)))) jb_nil)
    (jb_cons (js_if (jt_cmp (p_eq hu) (jv_ix (je_var 0 (hv := .inl rfl)) je_int) je_str) (jb_one (js_ret (je_call F_is_down r_is_down (ja_cons (jv_ix (je_var 0 (hv := .inl rfl)) je_int) ja_nil)))) jb_nil)
    (jb_one (js_ret (je_and (je_cmp (p_eq hu) (jv_ix (je_var 0 (hv := .inl rfl)) je_int) je_str) (je_one (je_call F_is_lane r_is_lane (ja_cons (jv_ix (je_var 0 (hv := .inl rfl)) je_int) ja_nil)))))))))
def N_first : List Str := ["game"]
theorem sc_first : FnScope N_first ["game"] (defScope (top 45)) := ⟨rfl, rfl, rfl, by decide +kernel, rfl, by decide +kernel, by decide +kernel⟩
def t_first (K : PySem.W.Frag) (s_begun : DSp) (s_down_begun : DSp) (s_lane_begun : DSp) : RS :=
    (rSeq (rIfS (rB (rOp GEq (rOp gIx (rVar 0) (rC (.int 0))) (rC (.str "rally")))) (rRet (rTup (rCons (rCall .no s_begun (rCons (rOp gIx (rVar 0) (rC (.int 1))) rNil)) (rCons (rC .non) rNil)))) rNext)
    (rSeq (rIfS (rB (rOp GEq (rOp gIx (rVar 0) (rC (.int 0))) (rC (.str "down")))) (rRet (rTup (rCons (rCall .no s_down_begun (rCons (rOp gIx (rVar 0) (rC (.int 1))) rNil)) (rCons (rC .non) rNil)))) rNext)
    (rRet (rTup (rCons (rCall .no s_lane_begun (rCons (rOp gIx (rVar 0) (rC (.int 1))) rNil)) (rCons (rC .non) rNil))))))
theorem w_first {P : Program} {w : World} {K : PySem.W.Frag} {mg : Str → Option Value} {base : Heap} {f : Addr} {cdv : Value} {A : Around} {outer : List Env} {s : Shared} {H : Hp} {E : XK} {s_begun : DSp} {s_down_begun : DSp} {s_lane_begun : DSp} (T : Tx K mg) (hu : (A.deeper (envOfC "first" (defScope (top 45)) s.heap.objs.size f cdv)).units + 64 < cLine) {k_begun : Nat} (F_begun : Ok P w K mg base .no k_begun "begun" ["rule"] s_begun) (r_begun : Room k_begun (A.deeper (envOfC "first" (defScope (top 45)) s.heap.objs.size f cdv))) {k_down_begun : Nat} (F_down_begun : Ok P w K mg base .no k_down_begun "down_begun" ["down"] s_down_begun) (r_down_begun : Room k_down_begun (A.deeper (envOfC "first" (defScope (top 45)) s.heap.objs.size f cdv))) {k_lane_begun : Nat} (F_lane_begun : Ok P w K mg base .no k_lane_begun "lane_begun" ["lane"] s_lane_begun) (r_lane_begun : Room k_lane_begun (A.deeper (envOfC "first" (defScope (top 45)) s.heap.objs.size f cdv))) :
    JB (cxOf CX0 P w K mg base N_first "first" (defScope (top 45)) f cdv A outer s H E).nox (defBody (top 45)) (t_first K s_begun s_down_begun s_lane_begun) :=
    (jb_cons (js_if (jt_cmp (p_eq hu) (jv_ix (je_var 0 (hv := .inl rfl)) je_int) je_str) (jb_one (js_ret (je_tup (ja_cons (je_call F_begun r_begun (ja_cons (jv_ix (je_var 0 (hv := .inl rfl)) je_int) ja_nil)) (ja_cons je_non ja_nil))))) jb_nil)
    (jb_cons (js_if (jt_cmp (p_eq hu) (jv_ix (je_var 0 (hv := .inl rfl)) je_int) je_str) (jb_one (js_ret (je_tup (ja_cons (je_call F_down_begun r_down_begun (ja_cons (jv_ix (je_var 0 (hv := .inl rfl)) je_int) ja_nil)) (ja_cons je_non ja_nil))))) jb_nil)
    (jb_one (js_ret (je_tup (ja_cons (je_call F_lane_begun r_lane_begun (ja_cons (jv_ix (je_var 0 (hv := .inl rfl)) je_int) ja_nil)) (ja_cons je_non ja_nil)))))))
def N_rally_played : List Str := ["rule", "stand", "deed", "found", "won"]
theorem sc_rally_played : FnScope N_rally_played ["rule", "stand", "deed"] (defScope (top 46)) := ⟨rfl, rfl, rfl, by decide +kernel, rfl, by decide +kernel, by decide +kernel⟩
def t_rally_played (K : PySem.W.Frag) (s_is_between : DSp) (s_rallied : DSp) : RS :=
    (rSeq (rIfS (rNot (rB (rCall .no s_is_between (rCons (rVar 2) (rCons (rC (.int 0)) (rCons (rC (.int 1)) rNil)))))) (rRaise (He.ga K "NoSide")) rNext)
    (rSeq (rAsg (rCall .no s_rallied (rCons (rVar 0) (rCons (rVar 1) (rCons (rVar 2) rNil)))) (gtD 2 (gsCons (gnD 3) (gsCons (gnD 4) gsNil))))
    (rSeq (rIfS (rB (rVar 4)) (rRet (rTup (rCons (rVar 3) (rCons (rTup (rCons (rVar 2) rNil)) rNil)))) rNext)
    (rRet (rTup (rCons (rVar 3) (rCons (rC .non) rNil)))))))
theorem w_rally_played {P : Program} {w : World} {K : PySem.W.Frag} {mg : Str → Option Value} {base : Heap} {f : Addr} {cdv : Value} {A : Around} {outer : List Env} {s : Shared} {H : Hp} {E : XK} {s_is_between : DSp} {s_rallied : DSp} (T : Tx K mg) (hu : (A.deeper (envOfC "rally_played" (defScope (top 46)) s.heap.objs.size f cdv)).units + 64 < cLine) {k_is_between : Nat} (F_is_between : Ok P w K mg base .no k_is_between "is_between" ["thing", "low", "high"] s_is_between) (r_is_between : Room k_is_between (A.deeper (envOfC "rally_played" (defScope (top 46)) s.heap.objs.size f cdv))) {k_rallied : Nat} (F_rallied : Ok P w K mg base .no k_rallied "rallied" ["rule", "stand", "side"] s_rallied) (r_rallied : Room k_rallied (A.deeper (envOfC "rally_played" (defScope (top 46)) s.heap.objs.size f cdv))) :
    JB (cxOf (L2N.CX P w) P w K mg base N_rally_played "rally_played" (defScope (top 46)) f cdv A outer s H E) (defBody (top 46)) (t_rally_played K s_is_between s_rallied) :=
    (jb_cons (js_if (jt_not (jt_val (je_call F_is_between r_is_between (ja_cons (je_var 2 (hv := .inl rfl)) (ja_cons je_int (ja_cons je_int ja_nil)))))) (jb_one (js_raise ⟨T.g_NoSide, T.x_NoSide⟩ rfl)) jb_nil)
    (jb_cons (js_asg (je_call F_rallied r_rallied (ja_cons (je_var 0 (hv := .inl rfl)) (ja_cons (je_var 1 (hv := .inl rfl)) (ja_cons (je_var 2 (hv := .inl rfl)) ja_nil)))) (jg_tup rfl (jgs_cons (jg_name 3 sc_rally_played.nd) (jgs_cons (jg_name 4 sc_rally_played.nd) jgs_nil))))
    (jb_cons (js_if (jt_val (je_var 4 (hv := .inl rfl))) (jb_one (js_ret (je_tup (ja_cons (je_var 3 (hv := .inl rfl)) (ja_cons (je_tup (ja_cons (je_var 2 (hv := .inl rfl)) ja_nil)) ja_nil))))) jb_nil)
    (jb_one (js_ret (je_tup (ja_cons (je_var 3 (hv := .inl rfl)) (ja_cons je_non ja_nil))))))))
def N_down_played : List Str := ["down", "stand", "deed", "found", "won"]
theorem sc_down_played : FnScope N_down_played ["down", "stand", "deed"] (defScope (top 47)) := ⟨rfl, rfl, rfl, by decide +kernel, rfl, by decide +kernel, by decide +kernel⟩
def t_down_played (K : PySem.W.Frag) (s_down_thrown : DSp) : RS :=
    (rSeq (rAsg (rCall .cold s_down_thrown (rCons (rVar 0) (rCons (rVar 1) (rCons (rVar 2) rNil)))) (gtD 2 (gsCons (gnD 3) (gsCons (gnD 4) gsNil))))
    (rSeq (rIfS (rB (rVar 4)) (rRet (rTup (rCons (rVar 3) (rCons (rTup (rCons (rOp gIx (rVar 3) (rC (.int 1))) rNil)) rNil)))) rNext)
    (rRet (rTup (rCons (rVar 3) (rCons (rC .non) rNil))))))
theorem w_down_played {P : Program} {w : World} {K : PySem.W.Frag} {mg : Str → Option Value} {base : Heap} {f : Addr} {cdv : Value} {A : Around} {outer : List Env} {s : Shared} {H : Hp} {E : XK} {s_down_thrown : DSp} (T : Tx K mg) (hu : (A.deeper (envOfC "down_played" (defScope (top 47)) s.heap.objs.size f cdv)).units + 64 < cLine) {k_down_thrown : Nat} (F_down_thrown : Ok P w K mg base .cold k_down_thrown "down_thrown" ["down", "stand", "name"] s_down_thrown) (r_down_thrown : Room k_down_thrown (A.deeper (envOfC "down_played" (defScope (top 47)) s.heap.objs.size f cdv))) :
    JB (cxOf (L2N.CX P w) P w K mg base N_down_played "down_played" (defScope (top 47)) f cdv A outer s H E) (defBody (top 47)) (t_down_played K s_down_thrown) :=
    (jb_cons (js_asg (je_call F_down_thrown r_down_thrown (ja_cons (je_var 0 (hv := .inl rfl)) (ja_cons (je_var 1 (hv := .inl rfl)) (ja_cons (je_var 2 (hv := .inl rfl)) ja_nil)))) (jg_tup rfl (jgs_cons (jg_name 3 sc_down_played.nd) (jgs_cons (jg_name 4 sc_down_played.nd) jgs_nil))))
    (jb_cons (js_if (jt_val (je_var 4 (hv := .inl rfl))) (jb_one (js_ret (je_tup (ja_cons (je_var 3 (hv := .inl rfl)) (ja_cons (je_tup (ja_cons (jv_ix (je_var 3 (hv := .inl rfl)) je_int) ja_nil)) ja_nil))))) jb_nil)
    (jb_one (js_ret (je_tup (ja_cons (je_var 3 (hv := .inl rfl)) (ja_cons je_non ja_nil)))))))
def N_lane_played : List Str := ["lane", "stand", "deed", "found", "over"]
theorem sc_lane_played : FnScope N_lane_played ["lane", "stand", "deed"] (defScope (top 48)) := ⟨rfl, rfl, rfl, by decide +kernel, rfl, by decide +kernel, by decide +kernel⟩
def t_lane_played (K : PySem.W.Frag) (s_lane_bowled : DSp) (s_best_of : DSp) : RS :=
    (rSeq (rAsg (rCall .cold s_lane_bowled (rCons (rVar 0) (rCons (rVar 1) (rCons (rVar 2) rNil)))) (gtD 2 (gsCons (gnD 3) (gsCons (gnD 4) gsNil))))
    (rSeq (rIfS (rB (rVar 4)) (rRet (rTup (rCons (rVar 3) (rCons (rCall .no s_best_of (rCons (rVar 3) rNil)) rNil)))) rNext)
    (rRet (rTup (rCons (rVar 3) (rCons (rC .non) rNil))))))
theorem w_lane_played {P : Program} {w : World} {K : PySem.W.Frag} {mg : Str → Option Value} {base : Heap} {f : Addr} {cdv : Value} {A : Around} {outer : List Env} {s : Shared} {H : Hp} {E : XK} {s_lane_bowled : DSp} {s_best_of : DSp} (T : Tx K mg) (hu : (A.deeper (envOfC "lane_played" (defScope (top 48)) s.heap.objs.size f cdv)).units + 64 < cLine) {k_lane_bowled : Nat} (F_lane_bowled : Ok P w K mg base .cold k_lane_bowled "lane_bowled" ["lane", "stand", "pins"] s_lane_bowled) (r_lane_bowled : Room k_lane_bowled (A.deeper (envOfC "lane_played" (defScope (top 48)) s.heap.objs.size f cdv))) {k_best_of : Nat} (F_best_of : Ok P w K mg base .no k_best_of "best_of" ["stand"] s_best_of) (r_best_of : Room k_best_of (A.deeper (envOfC "lane_played" (defScope (top 48)) s.heap.objs.size f cdv))) :
    JB (cxOf (L2N.CX P w) P w K mg base N_lane_played "lane_played" (defScope (top 48)) f cdv A outer s H E) (defBody (top 48)) (t_lane_played K s_lane_bowled s_best_of) :=
    (jb_cons (js_asg (je_call F_lane_bowled r_lane_bowled (ja_cons (je_var 0 (hv := .inl rfl)) (ja_cons (je_var 1 (hv := .inl rfl)) (ja_cons (je_var 2 (hv := .inl rfl)) ja_nil)))) (jg_tup rfl (jgs_cons (jg_name 3 sc_lane_played.nd) (jgs_cons (jg_name 4 sc_lane_played.nd) jgs_nil))))
    (jb_cons (js_if (jt_val (je_var 4 (hv := .inl rfl))) (jb_one (js_ret (je_tup (ja_cons (je_var 3 (hv := .inl rfl)) (ja_cons (je_call F_best_of r_best_of (ja_cons (je_var 3 (hv := .inl rfl)) ja_nil)) ja_nil))))) jb_nil)
    (jb_one (js_ret (je_tup (ja_cons (je_var 3 (hv := .inl rfl)) (ja_cons je_non ja_nil)))))))
def N_played : List Str := ["game", "stand", "deed"]
theorem sc_played : FnScope N_played ["game", "stand", "deed"] (defScope (top 49)) := ⟨rfl, rfl, rfl, by decide +kernel, rfl, by decide +kernel, by decide +kernel⟩
def t_played (K : PySem.W.Frag) (s_rally_played : DSp) (s_down_played : DSp) (s_lane_played : DSp) : RS :=
    (rSeq (rIfS (rB (rOp gIsNot (rOp gIx (rVar 1) (rC (.int 1))) (rC .non))) (rRaise (He.ga K "Over")) rNext)
    (rSeq (rIfS (rB (rOp GEq (rOp gIx (rVar 0) (rC (.int 0))) (rC (.str "rally")))) (rRet (rCall .cold s_rally_played (rCons (rOp gIx (rVar 0) (rC (.int 1))) (rCons (rOp gIx (rVar 1) (rC (.int 0))) (rCons (rVar 2) rNil))))) rNext)
    (rSeq (rIfS (rB (rOp GEq (rOp gIx (rVar 0) (rC (.int 0))) (rC (.str "down")))) (rRet (rCall .cold s_down_played (rCons (rOp gIx (rVar 0) (rC (.int 1))) (rCons (rOp gIx (rVar 1) (rC (.int 0))) (rCons (rVar 2) rNil))))) rNext)
    (rRet (rCall .cold s_lane_played (rCons (rOp gIx (rVar 0) (rC (.int 1))) (rCons (rOp gIx (rVar 1) (rC (.int 0))) (rCons (rVar 2) rNil))))))))
theorem w_played {P : Program} {w : World} {K : PySem.W.Frag} {mg : Str → Option Value} {base : Heap} {f : Addr} {cdv : Value} {A : Around} {outer : List Env} {s : Shared} {H : Hp} {E : XK} {s_rally_played : DSp} {s_down_played : DSp} {s_lane_played : DSp} (T : Tx K mg) (hu : (A.deeper (envOfC "played" (defScope (top 49)) s.heap.objs.size f cdv)).units + 64 < cLine) {k_rally_played : Nat} (F_rally_played : Ok P w K mg base .cold k_rally_played "rally_played" ["rule", "stand", "deed"] s_rally_played) (r_rally_played : Room k_rally_played (A.deeper (envOfC "played" (defScope (top 49)) s.heap.objs.size f cdv))) {k_down_played : Nat} (F_down_played : Ok P w K mg base .cold k_down_played "down_played" ["down", "stand", "deed"] s_down_played) (r_down_played : Room k_down_played (A.deeper (envOfC "played" (defScope (top 49)) s.heap.objs.size f cdv))) {k_lane_played : Nat} (F_lane_played : Ok P w K mg base .cold k_lane_played "lane_played" ["lane", "stand", "deed"] s_lane_played) (r_lane_played : Room k_lane_played (A.deeper (envOfC "played" (defScope (top 49)) s.heap.objs.size f cdv))) :
    JB (cxOf (L2N.CX P w) P w K mg base N_played "played" (defScope (top 49)) f cdv A outer s H E) (defBody (top 49)) (t_played K s_rally_played s_down_played s_lane_played) :=
    (jb_cons (js_if (jt_cmp (p_isnot) (jv_ix (je_var 1 (hv := .inl rfl)) je_int) je_non) (jb_one (js_raise ⟨T.g_Over, T.x_Over⟩ rfl)) jb_nil)
    (jb_cons (js_if (jt_cmp (p_eq hu) (jv_ix (je_var 0 (hv := .inl rfl)) je_int) je_str) (jb_one (js_ret (je_call F_rally_played r_rally_played (ja_cons (jv_ix (je_var 0 (hv := .inl rfl)) je_int) (ja_cons (jv_ix (je_var 1 (hv := .inl rfl)) je_int) (ja_cons (je_var 2 (hv := .inl rfl)) ja_nil)))))) jb_nil)
    (jb_cons (js_if (jt_cmp (p_eq hu) (jv_ix (je_var 0 (hv := .inl rfl)) je_int) je_str) (jb_one (js_ret (je_call F_down_played r_down_played (ja_cons (jv_ix (je_var 0 (hv := .inl rfl)) je_int) (ja_cons (jv_ix (je_var 1 (hv := .inl rfl)) je_int) (ja_cons (je_var 2 (hv := .inl rfl)) ja_nil)))))) jb_nil)
    (jb_one (js_ret (je_call F_lane_played r_lane_played (ja_cons (jv_ix (je_var 0 (hv := .inl rfl)) je_int) (ja_cons (jv_ix (je_var 1 (hv := .inl rfl)) je_int) (ja_cons (je_var 2 (hv := .inl rfl)) ja_nil)))))))))
def N_stakes : List Str := ["rule", "stand", "side", "many"]
theorem sc_stakes : FnScope N_stakes ["rule", "stand", "side"] (defScope (top 51)) := ⟨rfl, rfl, rfl, by decide +kernel, rfl, by decide +kernel, by decide +kernel⟩
def t_stakes (K : PySem.W.Frag) (s_stakes : DSp) (s_rule_within : DSp) (s_rallied : DSp) : RS :=
    (rSeq (rIfS (rB (rOp GEq (rVar 0) (rC (.tup [.str "point"])))) (rRet (rC (.int 0))) rNext)
    (rSeq (rSet 3 (rCall .no s_stakes (rCons (rCall .no s_rule_within (rCons (rVar 0) (rCons (rOp gIx (rVar 1) (rC (.int 0))) (rCons (rOp gIx (rVar 1) (rC (.int 1))) rNil)))) (rCons (rOp gIx (rVar 1) (rC (.int 2))) (rCons (rVar 2) rNil)))))
    (rSeq (rIfS (rB (rOp gIx (rCall .no s_rallied (rCons (rVar 0) (rCons (rVar 1) (rCons (rVar 2) rNil)))) (rC (.int 1)))) (rRet (rOp gAdd (rVar 3) (rC (.int 1)))) rNext)
    (rRet (rVar 3)))))
theorem w_stakes {P : Program} {w : World} {K : PySem.W.Frag} {mg : Str → Option Value} {base : Heap} {f : Addr} {cdv : Value} {A : Around} {outer : List Env} {s : Shared} {H : Hp} {E : XK} {s_stakes : DSp} {s_rule_within : DSp} {s_rallied : DSp} (T : Tx K mg) (hu : (A.deeper (envOfC "stakes" (defScope (top 51)) s.heap.objs.size f cdv)).units + 64 < cLine) {k_stakes : Nat} (F_stakes : Ok P w K mg base .no k_stakes "stakes" ["rule", "stand", "side"] s_stakes) (r_stakes : Room k_stakes (A.deeper (envOfC "stakes" (defScope (top 51)) s.heap.objs.size f cdv))) {k_rule_within : Nat} (F_rule_within : Ok P w K mg base .no k_rule_within "rule_within" ["rule", "zero", "one"] s_rule_within) (r_rule_within : Room k_rule_within (A.deeper (envOfC "stakes" (defScope (top 51)) s.heap.objs.size f cdv))) {k_rallied : Nat} (F_rallied : Ok P w K mg base .no k_rallied "rallied" ["rule", "stand", "side"] s_rallied) (r_rallied : Room k_rallied (A.deeper (envOfC "stakes" (defScope (top 51)) s.heap.objs.size f cdv))) :
    JB (cxOf CX0 P w K mg base N_stakes "stakes" (defScope (top 51)) f cdv A outer s H E).nox (defBody (top 51)) (t_stakes K s_stakes s_rule_within s_rallied) :=
    (jb_cons (js_if (jt_cmp (p_eq hu) (je_var 0 (hv := .inl rfl)) (je_glob rfl T.g_POINT (v := .ref _) rfl (fun H => .tup (T.t_POINT H) (.cons (.str _) .nil)))) (jb_one (js_ret je_int)) jb_nil)
    (jb_cons (js_set 3 sc_stakes.nd (je_call F_stakes r_stakes (ja_cons (je_call F_rule_within r_rule_within (ja_cons (je_var 0 (hv := .inl rfl)) (ja_cons (jv_ix (je_var 1 (hv := .inl rfl)) je_int) (ja_cons (jv_ix (je_var 1 (hv := .inl rfl)) je_int) ja_nil)))) (ja_cons (jv_ix (je_var 1 (hv := .inl rfl)) je_int) (ja_cons (je_var 2 (hv := .inl rfl)) ja_nil)))))
    (jb_cons (js_if (jt_val (jv_ix (je_call F_rallied r_rallied (ja_cons (je_var 0 (hv := .inl rfl)) (ja_cons (je_var 1 (hv := .inl rfl)) (ja_cons (je_var 2 (hv := .inl rfl)) ja_nil)))) je_int)) (jb_one (js_ret (je_op p_add (je_var 3 (hv := .inl rfl)) je_int))) jb_nil)
    (jb_one (js_ret (je_var 3 (hv := .inl rfl)))))))
def N_stands_of : List Str := ["game", "row", "stands", "number", "deed", "e"]
theorem sc_stands_of : FnScope N_stands_of ["game", "row"] (defScope (top 53)) := ⟨rfl, rfl, rfl, by decide +kernel, rfl, by decide +kernel, by decide +kernel⟩
def t_stands_of (P : Program) (w : World) (K : PySem.W.Frag) (mg : Str → Option Value) (base : Heap) (f : Addr) (cdv : Value) (A : Around) (outer : List Env) (s : Shared) (H : Hp) (E : XK) (s_first : DSp) (s_played : DSp) : RS :=
    (rSeq (rSet 2 (rLst (rCons (rCall .no s_first (rCons (rVar 0) rNil)) rNil)))
    (rSeq (rForE (rVar 1) (gtD 2 (gsCons (gnD 3) (gsCons (gnD 4) gsNil)))
    (rFrom ((cxOf (L2.CX P w) P w K mg base N_stands_of "stands_of" (defScope (top 53)) f cdv A outer s H E)) (He.ga K "ScoreError") 5 (He.ga K "Falls") (rCons (rOp gAdd (rVar 3) (rC (.int 1))) rNil)
    (rDrop (rBM "list" fAppend (rVar 2) (rCons (rCall .cold s_played (rCons (rVar 0) (rCons (rOp gIx (rVar 2) (rVar 3)) (rCons (rVar 4) rNil)))) rNil)))))
    (rRet (rVar 2))))
theorem w_stands_of {P : Program} {w : World} {K : PySem.W.Frag} {mg : Str → Option Value} {base : Heap} {f : Addr} {cdv : Value} {A : Around} {outer : List Env} {s : Shared} {H : Hp} {E : XK} {s_first : DSp} {s_played : DSp} (T : Tx K mg) (hu : (A.deeper (envOfC "stands_of" (defScope (top 53)) s.heap.objs.size f cdv)).units + 64 < cLine) {k_first : Nat} (F_first : Ok P w K mg base .no k_first "first" ["game"] s_first) (r_first : Room k_first (A.deeper (envOfC "stands_of" (defScope (top 53)) s.heap.objs.size f cdv))) {k_played : Nat} (F_played : Ok P w K mg base .cold k_played "played" ["game", "stand", "deed"] s_played) (r_played : Room k_played (A.deeper (envOfC "stands_of" (defScope (top 53)) s.heap.objs.size f cdv))) (OF : OkF P w K mg base "Falls") (r_Falls : Room 2 (A.deeper (envOfC "stands_of" (defScope (top 53)) s.heap.objs.size f cdv))) :
    JB (cxOf (L2.CX P w) P w K mg base N_stands_of "stands_of" (defScope (top 53)) f cdv A outer s H E) (defBody (top 53)) (t_stands_of P w K mg base f cdv A outer s H E s_first s_played) :=
    (jb_cons (js_set 2 sc_stands_of.nd (je_lst (ja_cons (je_call F_first r_first (ja_cons (je_var 0 (hv := .inl rfl)) ja_nil)) ja_nil)))
    (jb_cons (js_forE (passes_of rfl) rfl rfl T.f_enumerate (je_var 1 (hv := .inl rfl)) (jg_tup rfl (jgs_cons (jg_name 3 sc_stands_of.nd) (jgs_cons (jg_name 4 sc_stands_of.nd) jgs_nil)))
    (jb_one (js_from (X := (cxOf (L2.CX P w) P w K mg base N_stands_of "stands_of" (defScope (top 53)) f cdv A outer s H E)) 5 OF r_Falls rfl rfl sc_stands_of.nd T.g_ScoreError (L2H.passesAt_of rfl)
    (fun pn xe po => (jb_one (js_expr (je_bm PySem.F.plainAttrs_list PySem.F.slot_list_append PySem.F.type_list_append o_append (je_var 2 (hv := .inl rfl)) (ja_cons (je_call F_played r_played (ja_cons (je_var 0 (hv := .inl rfl)) (ja_cons (jv_ix (je_var 2 (hv := .inl rfl)) (je_var 3 (hv := .inl rfl))) (ja_cons (je_var 4 (hv := .inl rfl)) ja_nil)))) ja_nil)))))
    (fun a pn G => (ja_cons (je_op p_add (je_var 3 (hv := .inl rfl)) je_int) ja_nil)))))
    (jb_one (js_ret (je_var 2 (hv := .inl rfl))))))
def N_Book_init : List Str := ["self", "game"]
theorem sc_Book_init : FnScope N_Book_init ["self", "game"] (defScope (mem 54 0)) := ⟨rfl, rfl, rfl, by decide +kernel, rfl, by decide +kernel, by decide +kernel⟩
def t_Book_init (K : PySem.W.Frag) (s_is_game : DSp) (s_first : DSp) : RS :=
    (rSeq (rIfS (rNot (rB (rCall .no s_is_game (rCons (rVar 1) rNil)))) (rRaise (He.ga K "NoGame")) rNext)
    (rSeq (rSetFld K "kept_game" (rVar 0) (rVar 1))
    (rSeq (rSetFld K "kept_deeds" (rVar 0) (rLst rNil))
    (rSetFld K "kept_stands" (rVar 0) (rLst (rCons (rCall .no s_first (rCons (rVar 1) rNil)) rNil))))))
theorem w_Book_init {P : Program} {w : World} {K : PySem.W.Frag} {mg : Str → Option Value} {base : Heap} {f : Addr} {cdv : Value} {A : Around} {outer : List Env} {s : Shared} {H : Hp} {E : XK} {s_is_game : DSp} {s_first : DSp} (T : Tx K mg) (hu : (A.deeper (envOfC "Book.__init__" (defScope (mem 54 0)) s.heap.objs.size f cdv)).units + 64 < cLine) {k_is_game : Nat} (F_is_game : Ok P w K mg base .no k_is_game "is_game" ["thing"] s_is_game) (r_is_game : Room k_is_game (A.deeper (envOfC "Book.__init__" (defScope (mem 54 0)) s.heap.objs.size f cdv))) {k_first : Nat} (F_first : Ok P w K mg base .no k_first "first" ["game"] s_first) (r_first : Room k_first (A.deeper (envOfC "Book.__init__" (defScope (mem 54 0)) s.heap.objs.size f cdv))) :
    JB (cxOf CX0 P w K mg base N_Book_init "Book.__init__" (defScope (mem 54 0)) f cdv A outer s H E).nox (defBody (mem 54 0)) (t_Book_init K s_is_game s_first) :=
    (jb_cons (js_if (jt_not (jt_val (je_call F_is_game r_is_game (ja_cons (je_var 1 (hv := .inl rfl)) ja_nil)))) (jb_one (js_raise ⟨T.g_NoGame, T.x_NoGame⟩ rfl)) jb_nil)
    (jb_cons (js_fld (je_var 0 (hv := .inl rfl)) (je_var 1 (hv := .inl rfl)))
    (jb_cons (js_fld (je_var 0 (hv := .inl rfl)) (je_lst ja_nil))
    (jb_one (js_fld (je_var 0 (hv := .inl rfl)) (je_lst (ja_cons (je_call F_first r_first (ja_cons (je_var 1 (hv := .inl rfl)) ja_nil)) ja_nil)))))))
def N_Book_game : List Str := ["self"]
theorem sc_Book_game : FnScope N_Book_game ["self"] (defScope (mem 54 1)) := ⟨rfl, rfl, rfl, by decide +kernel, rfl, by decide +kernel, by decide +kernel⟩
def t_Book_game (K : PySem.W.Frag) : RS :=
    (rRet (rFld K "kept_game" (rVar 0)))
theorem w_Book_game {P : Program} {w : World} {K : PySem.W.Frag} {mg : Str → Option Value} {base : Heap} {f : Addr} {cdv : Value} {A : Around} {outer : List Env} {s : Shared} {H : Hp} {E : XK} (T : Tx K mg) (hu : (A.deeper (envOfC "Book.game" (defScope (mem 54 1)) s.heap.objs.size f cdv)).units + 64 < cLine)  :
    JB (cxOf CX0 P w K mg base N_Book_game "Book.game" (defScope (mem 54 1)) f cdv A outer s H E).nox (defBody (mem 54 1)) (t_Book_game K ) :=
    (jb_one (js_ret (je_fld (je_var 0 (hv := .inl rfl)))))
def N_Book_deeds : List Str := ["self"]
theorem sc_Book_deeds : FnScope N_Book_deeds ["self"] (defScope (mem 54 2)) := ⟨rfl, rfl, rfl, by decide +kernel, rfl, by decide +kernel, by decide +kernel⟩
def t_Book_deeds (K : PySem.W.Frag) : RS :=
    (rRet (rCB gLstOf (rCons (rFld K "kept_deeds" (rVar 0)) rNil)))
theorem w_Book_deeds {P : Program} {w : World} {K : PySem.W.Frag} {mg : Str → Option Value} {base : Heap} {f : Addr} {cdv : Value} {A : Around} {outer : List Env} {s : Shared} {H : Hp} {E : XK} (T : Tx K mg) (hu : (A.deeper (envOfC "Book.deeds" (defScope (mem 54 2)) s.heap.objs.size f cdv)).units + 64 < cLine)  :
    JB (cxOf CX0 P w K mg base N_Book_deeds "Book.deeds" (defScope (mem 54 2)) f cdv A outer s H E).nox (defBody (mem 54 2)) (t_Book_deeds K ) :=
    (jb_one (js_ret (je_callTy p_lstOf rfl T.f_list Boot.«list» (ja_cons (je_fld (je_var 0 (hv := .inl rfl))) ja_nil))))
def N_Book_add : List Str := ["self", "deed"]
theorem sc_Book_add : FnScope N_Book_add ["self", "deed"] (defScope (mem 54 3)) := ⟨rfl, rfl, rfl, by decide +kernel, rfl, by decide +kernel, by decide +kernel⟩
def t_Book_add (K : PySem.W.Frag) (s_played : DSp) : RS :=
    (rSeq (rDrop (rBM "list" fAppend (rFld K "kept_stands" (rVar 0)) (rCons (rCall .cold s_played (rCons (rFld K "kept_game" (rVar 0)) (rCons (rOp gIx (rFld K "kept_stands" (rVar 0)) (rUn gNeg (rC (.int 1)))) (rCons (rVar 1) rNil)))) rNil)))
    (rSeq (rDrop (rBM "list" fAppend (rFld K "kept_deeds" (rVar 0)) (rCons (rVar 1) rNil)))
    (rRet (rCB gLen (rCons (rFld K "kept_deeds" (rVar 0)) rNil)))))
theorem w_Book_add {P : Program} {w : World} {K : PySem.W.Frag} {mg : Str → Option Value} {base : Heap} {f : Addr} {cdv : Value} {A : Around} {outer : List Env} {s : Shared} {H : Hp} {E : XK} {s_played : DSp} (T : Tx K mg) (hu : (A.deeper (envOfC "Book.add" (defScope (mem 54 3)) s.heap.objs.size f cdv)).units + 64 < cLine) {k_played : Nat} (F_played : Ok P w K mg base .cold k_played "played" ["game", "stand", "deed"] s_played) (r_played : Room k_played (A.deeper (envOfC "Book.add" (defScope (mem 54 3)) s.heap.objs.size f cdv))) :
    JB (cxOf (L2N.CX P w) P w K mg base N_Book_add "Book.add" (defScope (mem 54 3)) f cdv A outer s H E) (defBody (mem 54 3)) (t_Book_add K s_played) :=
    (jb_cons (js_expr (je_bm PySem.F.plainAttrs_list PySem.F.slot_list_append PySem.F.type_list_append o_append (je_fld (je_var 0 (hv := .inl rfl))) (ja_cons (je_call F_played r_played (ja_cons (je_fld (je_var 0 (hv := .inl rfl))) (ja_cons (jv_ix (je_fld (je_var 0 (hv := .inl rfl))) (jv_neg je_int)) (ja_cons (je_var 1 (hv := .inl rfl)) ja_nil)))) ja_nil)))
    (jb_cons (js_expr (je_bm PySem.F.plainAttrs_list PySem.F.slot_list_append PySem.F.type_list_append o_append (je_fld (je_var 0 (hv := .inl rfl))) (ja_cons (je_var 1 (hv := .inl rfl)) ja_nil)))
    (jb_one (js_ret (je_callB p_len rfl T.f_len Boot.«len» (ja_cons (je_fld (je_var 0 (hv := .inl rfl))) ja_nil))))))
def N_Book_back : List Str := ["self"]
theorem sc_Book_back : FnScope N_Book_back ["self"] (defScope (mem 54 4)) := ⟨rfl, rfl, rfl, by decide +kernel, rfl, by decide +kernel, by decide +kernel⟩
def t_Book_back (K : PySem.W.Frag) : RS :=
    (rSeq (rIfS (rB (rOp GEq (rCB gLen (rCons (rFld K "kept_deeds" (rVar 0)) rNil)) (rC (.int 0)))) (rRaise (He.ga K "NoDeed")) rNext)
    (rSeq (rDrop (rBM0 "list" fPop (rFld K "kept_stands" (rVar 0))))
    (rRet (rBM0 "list" fPop (rFld K "kept_deeds" (rVar 0))))))
theorem w_Book_back {P : Program} {w : World} {K : PySem.W.Frag} {mg : Str → Option Value} {base : Heap} {f : Addr} {cdv : Value} {A : Around} {outer : List Env} {s : Shared} {H : Hp} {E : XK} (T : Tx K mg) (hu : (A.deeper (envOfC "Book.back" (defScope (mem 54 4)) s.heap.objs.size f cdv)).units + 64 < cLine)  :
    JB (cxOf (L2N.CX P w) P w K mg base N_Book_back "Book.back" (defScope (mem 54 4)) f cdv A outer s H E) (defBody (mem 54 4)) (t_Book_back K ) :=
    (jb_cons (js_if (jt_cmp (p_eq hu) (je_callB p_len rfl T.f_len Boot.«len» (ja_cons (je_fld (je_var 0 (hv := .inl rfl))) ja_nil)) je_int) (jb_one (js_raise ⟨T.g_NoDeed, T.x_NoDeed⟩ rfl)) jb_nil)
    (jb_cons (js_expr (je_bm0 PySem.F.plainAttrs_list PySem.F.slot_list_pop PySem.F.type_list_pop o_pop (je_fld (je_var 0 (hv := .inl rfl)))))
    (jb_one (js_ret (je_bm0 PySem.F.plainAttrs_list PySem.F.slot_list_pop PySem.F.type_list_pop o_pop (je_fld (je_var 0 (hv := .inl rfl))))))))
def N_Book_hold_number : List Str := ["self", "number", "most"]
theorem sc_Book_hold_number : FnScope N_Book_hold_number ["self", "number", "most"] (defScope (mem 54 5)) := ⟨rfl, rfl, rfl, by decide +kernel, rfl, by decide +kernel, by decide +kernel⟩
def t_Book_hold_number (K : PySem.W.Frag) : RS :=
    (rIfS (rOr (rB (rOp gLt (rVar 1) (rC (.int 1)))) (rB (rOp gGt (rVar 1) (rVar 2)))) (rRaise (He.ga K "NoDeed")) rNext)
theorem w_Book_hold_number {P : Program} {w : World} {K : PySem.W.Frag} {mg : Str → Option Value} {base : Heap} {f : Addr} {cdv : Value} {A : Around} {outer : List Env} {s : Shared} {H : Hp} {E : XK} (T : Tx K mg) (hu : (A.deeper (envOfC "Book.hold_number" (defScope (mem 54 5)) s.heap.objs.size f cdv)).units + 64 < cLine)  :
    JB (cxOf (L2N.CX P w) P w K mg base N_Book_hold_number "Book.hold_number" (defScope (mem 54 5)) f cdv A outer s H E) (defBody (mem 54 5)) (t_Book_hold_number K ) :=
    (jb_one (js_if (jw_t (jw_or (jt_cmp (p_lt) (je_var 1 (hv := .inl rfl)) je_int) (jw_or1 (jt_cmp (p_gt) (je_var 1 (hv := .inl rfl)) (je_var 2 (hv := .inl rfl)))))) (jb_one (js_raise ⟨T.g_NoDeed, T.x_NoDeed⟩ rfl)) jb_nil))
def N_Book_written_anew : List Str := ["self", "row"]
theorem sc_Book_written_anew : FnScope N_Book_written_anew ["self", "row"] (defScope (mem 54 6)) := ⟨rfl, rfl, rfl, by decide +kernel, rfl, by decide +kernel, by decide +kernel⟩
def t_Book_written_anew (K : PySem.W.Frag) (s_stands_of : DSp) : RS :=
    (rSeq (rSetFld K "kept_stands" (rVar 0) (rCall .any s_stands_of (rCons (rFld K "kept_game" (rVar 0)) (rCons (rVar 1) rNil))))
    (rSetFld K "kept_deeds" (rVar 0) (rVar 1)))
theorem w_Book_written_anew {P : Program} {w : World} {K : PySem.W.Frag} {mg : Str → Option Value} {base : Heap} {f : Addr} {cdv : Value} {A : Around} {outer : List Env} {s : Shared} {H : Hp} {E : XK} {s_stands_of : DSp} (T : Tx K mg) (hu : (A.deeper (envOfC "Book.written_anew" (defScope (mem 54 6)) s.heap.objs.size f cdv)).units + 64 < cLine) {k_stands_of : Nat} (F_stands_of : Ok P w K mg base .any k_stands_of "stands_of" ["game", "row"] s_stands_of) (r_stands_of : Room k_stands_of (A.deeper (envOfC "Book.written_anew" (defScope (mem 54 6)) s.heap.objs.size f cdv))) :
    JB (cxOf (L2.CX P w) P w K mg base N_Book_written_anew "Book.written_anew" (defScope (mem 54 6)) f cdv A outer s H E) (defBody (mem 54 6)) (t_Book_written_anew K s_stands_of) :=
    (jb_cons (js_fld (je_var 0 (hv := .inl rfl)) (je_call F_stands_of r_stands_of (ja_cons (je_fld (je_var 0 (hv := .inl rfl))) (ja_cons (je_var 1 (hv := .inl rfl)) ja_nil))))
    (jb_one (js_fld (je_var 0 (hv := .inl rfl)) (je_var 1 (hv := .inl rfl)))))
def N_Book_put_right : List Str := ["self", "number", "deed"]
theorem sc_Book_put_right : FnScope N_Book_put_right ["self", "number", "deed"] (defScope (mem 54 7)) := ⟨rfl, rfl, rfl, by decide +kernel, rfl, by decide +kernel, by decide +kernel⟩
def t_Book_put_right (K : PySem.W.Frag) (s_hold_number : DSp) (s_written_anew : DSp) : RS :=
    (rSeq (rDrop (rMeth (He.ga K "Book") "hold_number" .cold s_hold_number (rVar 0) (rCons (rVar 1) (rCons (rCB gLen (rCons (rFld K "kept_deeds" (rVar 0)) rNil)) rNil))))
    (rDrop (rMeth (He.ga K "Book") "written_anew" .any s_written_anew (rVar 0) (rCons (rOp gAdd (rOp gAdd (rSlD (rFld K "kept_deeds" (rVar 0)) rNoPart (rPart (rOp gSub (rVar 1) (rC (.int 1))))) (rLst (rCons (rVar 2) rNil))) (rSlD (rFld K "kept_deeds" (rVar 0)) (rPart (rVar 1)) rNoPart)) rNil))))
theorem w_Book_put_right {P : Program} {w : World} {K : PySem.W.Frag} {mg : Str → Option Value} {base : Heap} {f : Addr} {cdv : Value} {A : Around} {outer : List Env} {s : Shared} {H : Hp} {E : XK} {s_hold_number : DSp} {s_written_anew : DSp} (T : Tx K mg) (hu : (A.deeper (envOfC "Book.put_right" (defScope (mem 54 7)) s.heap.objs.size f cdv)).units + 64 < cLine) {k_hold_number : Nat} (F_hold_number : OkM P w K mg base .cold k_hold_number (He.ga K "Book") "hold_number" ["self", "number", "most"] s_hold_number) (r_hold_number : Room k_hold_number (A.deeper (envOfC "Book.put_right" (defScope (mem 54 7)) s.heap.objs.size f cdv))) {k_written_anew : Nat} (F_written_anew : OkM P w K mg base .any k_written_anew (He.ga K "Book") "written_anew" ["self", "row"] s_written_anew) (r_written_anew : Room k_written_anew (A.deeper (envOfC "Book.put_right" (defScope (mem 54 7)) s.heap.objs.size f cdv))) :
    JB (cxOf (L2.CX P w) P w K mg base N_Book_put_right "Book.put_right" (defScope (mem 54 7)) f cdv A outer s H E) (defBody (mem 54 7)) (t_Book_put_right K s_hold_number s_written_anew) :=
    (jb_cons (js_expr (je_meth F_hold_number r_hold_number (je_var 0 (hv := .inl rfl)) (ja_cons (je_var 1 (hv := .inl rfl)) (ja_cons (je_callB p_len rfl T.f_len Boot.«len» (ja_cons (je_fld (je_var 0 (hv := .inl rfl))) ja_nil)) ja_nil))))
    (jb_one (js_expr (je_meth F_written_anew r_written_anew (je_var 0 (hv := .inl rfl)) (ja_cons (je_op p_add (je_op p_add (je_slice (je_fld (je_var 0 (hv := .inl rfl))) jo_none (jo_some (je_op p_sub (je_var 1 (hv := .inl rfl)) je_int))) (je_lst (ja_cons (je_var 2 (hv := .inl rfl)) ja_nil))) (je_slice (je_fld (je_var 0 (hv := .inl rfl))) (jo_some (je_var 1 (hv := .inl rfl))) jo_none)) ja_nil)))))
def N_Book_put_in : List Str := ["self", "number", "deed"]
theorem sc_Book_put_in : FnScope N_Book_put_in ["self", "number", "deed"] (defScope (mem 54 8)) := ⟨rfl, rfl, rfl, by decide +kernel, rfl, by decide +kernel, by decide +kernel⟩
def t_Book_put_in (K : PySem.W.Frag) (s_hold_number : DSp) (s_written_anew : DSp) : RS :=
    (rSeq (rDrop (rMeth (He.ga K "Book") "hold_number" .cold s_hold_number (rVar 0) (rCons (rVar 1) (rCons (rOp gAdd (rCB gLen (rCons (rFld K "kept_deeds" (rVar 0)) rNil)) (rC (.int 1))) rNil))))
    (rDrop (rMeth (He.ga K "Book") "written_anew" .any s_written_anew (rVar 0) (rCons (rOp gAdd (rOp gAdd (rSlD (rFld K "kept_deeds" (rVar 0)) rNoPart (rPart (rOp gSub (rVar 1) (rC (.int 1))))) (rLst (rCons (rVar 2) rNil))) (rSlD (rFld K "kept_deeds" (rVar 0)) (rPart (rOp gSub (rVar 1) (rC (.int 1)))) rNoPart)) rNil))))
theorem w_Book_put_in {P : Program} {w : World} {K : PySem.W.Frag} {mg : Str → Option Value} {base : Heap} {f : Addr} {cdv : Value} {A : Around} {outer : List Env} {s : Shared} {H : Hp} {E : XK} {s_hold_number : DSp} {s_written_anew : DSp} (T : Tx K mg) (hu : (A.deeper (envOfC "Book.put_in" (defScope (mem 54 8)) s.heap.objs.size f cdv)).units + 64 < cLine) {k_hold_number : Nat} (F_hold_number : OkM P w K mg base .cold k_hold_number (He.ga K "Book") "hold_number" ["self", "number", "most"] s_hold_number) (r_hold_number : Room k_hold_number (A.deeper (envOfC "Book.put_in" (defScope (mem 54 8)) s.heap.objs.size f cdv))) {k_written_anew : Nat} (F_written_anew : OkM P w K mg base .any k_written_anew (He.ga K "Book") "written_anew" ["self", "row"] s_written_anew) (r_written_anew : Room k_written_anew (A.deeper (envOfC "Book.put_in" (defScope (mem 54 8)) s.heap.objs.size f cdv))) :
    JB (cxOf (L2.CX P w) P w K mg base N_Book_put_in "Book.put_in" (defScope (mem 54 8)) f cdv A outer s H E) (defBody (mem 54 8)) (t_Book_put_in K s_hold_number s_written_anew) :=
    (jb_cons (js_expr (je_meth F_hold_number r_hold_number (je_var 0 (hv := .inl rfl)) (ja_cons (je_var 1 (hv := .inl rfl)) (ja_cons (je_op p_add (je_callB p_len rfl T.f_len Boot.«len» (ja_cons (je_fld (je_var 0 (hv := .inl rfl))) ja_nil)) je_int) ja_nil))))
    (jb_one (js_expr (je_meth F_written_anew r_written_anew (je_var 0 (hv := .inl rfl)) (ja_cons (je_op p_add (je_op p_add (je_slice (je_fld (je_var 0 (hv := .inl rfl))) jo_none (jo_some (je_op p_sub (je_var 1 (hv := .inl rfl)) je_int))) (je_lst (ja_cons (je_var 2 (hv := .inl rfl)) ja_nil))) (je_slice (je_fld (je_var 0 (hv := .inl rfl))) (jo_some (je_op p_sub (je_var 1 (hv := .inl rfl)) je_int)) jo_none)) ja_nil)))))
def N_Book_leave_out : List Str := ["self", "number"]
theorem sc_Book_leave_out : FnScope N_Book_leave_out ["self", "number"] (defScope (mem 54 9)) := ⟨rfl, rfl, rfl, by decide +kernel, rfl, by decide +kernel, by decide +kernel⟩
def t_Book_leave_out (K : PySem.W.Frag) (s_hold_number : DSp) (s_written_anew : DSp) : RS :=
    (rSeq (rDrop (rMeth (He.ga K "Book") "hold_number" .cold s_hold_number (rVar 0) (rCons (rVar 1) (rCons (rCB gLen (rCons (rFld K "kept_deeds" (rVar 0)) rNil)) rNil))))
    (rDrop (rMeth (He.ga K "Book") "written_anew" .any s_written_anew (rVar 0) (rCons (rOp gAdd (rSlD (rFld K "kept_deeds" (rVar 0)) rNoPart (rPart (rOp gSub (rVar 1) (rC (.int 1))))) (rSlD (rFld K "kept_deeds" (rVar 0)) (rPart (rVar 1)) rNoPart)) rNil))))
theorem w_Book_leave_out {P : Program} {w : World} {K : PySem.W.Frag} {mg : Str → Option Value} {base : Heap} {f : Addr} {cdv : Value} {A : Around} {outer : List Env} {s : Shared} {H : Hp} {E : XK} {s_hold_number : DSp} {s_written_anew : DSp} (T : Tx K mg) (hu : (A.deeper (envOfC "Book.leave_out" (defScope (mem 54 9)) s.heap.objs.size f cdv)).units + 64 < cLine) {k_hold_number : Nat} (F_hold_number : OkM P w K mg base .cold k_hold_number (He.ga K "Book") "hold_number" ["self", "number", "most"] s_hold_number) (r_hold_number : Room k_hold_number (A.deeper (envOfC "Book.leave_out" (defScope (mem 54 9)) s.heap.objs.size f cdv))) {k_written_anew : Nat} (F_written_anew : OkM P w K mg base .any k_written_anew (He.ga K "Book") "written_anew" ["self", "row"] s_written_anew) (r_written_anew : Room k_written_anew (A.deeper (envOfC "Book.leave_out" (defScope (mem 54 9)) s.heap.objs.size f cdv))) :
    JB (cxOf (L2.CX P w) P w K mg base N_Book_leave_out "Book.leave_out" (defScope (mem 54 9)) f cdv A outer s H E) (defBody (mem 54 9)) (t_Book_leave_out K s_hold_number s_written_anew) :=
    (jb_cons (js_expr (je_meth F_hold_number r_hold_number (je_var 0 (hv := .inl rfl)) (ja_cons (je_var 1 (hv := .inl rfl)) (ja_cons (je_callB p_len rfl T.f_len Boot.«len» (ja_cons (je_fld (je_var 0 (hv := .inl rfl))) ja_nil)) ja_nil))))
    (jb_one (js_expr (je_meth F_written_anew r_written_anew (je_var 0 (hv := .inl rfl)) (ja_cons (je_op p_add (je_slice (je_fld (je_var 0 (hv := .inl rfl))) jo_none (jo_some (je_op p_sub (je_var 1 (hv := .inl rfl)) je_int))) (je_slice (je_fld (je_var 0 (hv := .inl rfl))) (jo_some (je_var 1 (hv := .inl rfl))) jo_none)) ja_nil)))))
def N_Book_stand : List Str := ["self", "number"]
theorem sc_Book_stand : FnScope N_Book_stand ["self", "number"] (defScope (mem 54 10)) := ⟨rfl, rfl, rfl, by decide +kernel, rfl, by decide +kernel, by decide +kernel⟩
def t_Book_stand (K : PySem.W.Frag) : RS :=
    (rSeq (rIfS (rB (rOp gIs (rVar 1) (rC .non))) (rRet (rOp gIx (rFld K "kept_stands" (rVar 0)) (rUn gNeg (rC (.int 1))))) rNext)
    (rSeq (rIfS (rOr (rB (rOp gLt (rVar 1) (rC (.int 0)))) (rB (rOp gGt (rVar 1) (rCB gLen (rCons (rFld K "kept_deeds" (rVar 0)) rNil))))) (rRaise (He.ga K "NoDeed")) rNext)
    (rRet (rOp gIx (rFld K "kept_stands" (rVar 0)) (rVar 1)))))
theorem w_Book_stand {P : Program} {w : World} {K : PySem.W.Frag} {mg : Str → Option Value} {base : Heap} {f : Addr} {cdv : Value} {A : Around} {outer : List Env} {s : Shared} {H : Hp} {E : XK} (T : Tx K mg) (hu : (A.deeper (envOfC "Book.stand" (defScope (mem 54 10)) s.heap.objs.size f cdv)).units + 64 < cLine)  :
    JB (cxOf CX0 P w K mg base N_Book_stand "Book.stand" (defScope (mem 54 10)) f cdv A outer s H E).nox (defBody (mem 54 10)) (t_Book_stand K ) :=
    (jb_cons (js_if (jt_cmp (p_is) (je_var 1 (hv := .inl rfl)) je_non) (jb_one (js_ret (jv_ix (je_fld (je_var 0 (hv := .inl rfl))) (jv_neg je_int)))) jb_nil)
    (jb_cons (js_if (jw_t (jw_or (jt_cmp (p_lt) (je_var 1 (hv := .inl rfl)) je_int) (jw_or1 (jt_cmp (p_gt) (je_var 1 (hv := .inl rfl)) (je_callB p_len rfl T.f_len Boot.«len» (ja_cons (je_fld (je_var 0 (hv := .inl rfl))) ja_nil)))))) (jb_one (js_raise ⟨T.g_NoDeed, T.x_NoDeed⟩ rfl)) jb_nil)
    (jb_one (js_ret (jv_ix (je_fld (je_var 0 (hv := .inl rfl))) (je_var 1 (hv := .inl rfl)))))))
def N_Book_units : List Str := ["self", "found", "number", "deed", "many"]
theorem sc_Book_units : FnScope N_Book_units ["self"] (defScope (mem 54 11)) := ⟨rfl, rfl, rfl, by decide +kernel, rfl, by decide +kernel, by decide +kernel⟩
def t_Book_units (K : PySem.W.Frag) (s_stakes : DSp) : RS :=
    (rSeq (rSet 1 (rLst rNil))
    (rSeq (rIfS (rB (rOp GNe (rOp gIx (rFld K "kept_game" (rVar 0)) (rC (.int 0))) (rC (.str "rally")))) (rRet (rVar 1)) rNext)
    (rSeq (rForE (rFld K "kept_deeds" (rVar 0)) (gtD 2 (gsCons (gnD 2) (gsCons (gnD 3) gsNil)))
    (rSeq (rSet 4 (rCall .no s_stakes (rCons (rOp gIx (rFld K "kept_game" (rVar 0)) (rC (.int 1))) (rCons (rOp gIx (rOp gIx (rFld K "kept_stands" (rVar 0)) (rVar 2)) (rC (.int 0))) (rCons (rVar 3) rNil)))))
    (rIfS (rB (rOp gGt (rVar 4) (rC (.int 0)))) (rDrop (rBM "list" fAppend (rVar 1) (rCons (rTup (rCons (rOp gAdd (rVar 2) (rC (.int 1))) (rCons (rVar 3) (rCons (rVar 4) rNil)))) rNil))) rNext)))
    (rRet (rVar 1)))))
theorem w_Book_units {P : Program} {w : World} {K : PySem.W.Frag} {mg : Str → Option Value} {base : Heap} {f : Addr} {cdv : Value} {A : Around} {outer : List Env} {s : Shared} {H : Hp} {E : XK} {s_stakes : DSp} (T : Tx K mg) (hu : (A.deeper (envOfC "Book.units" (defScope (mem 54 11)) s.heap.objs.size f cdv)).units + 64 < cLine) {k_stakes : Nat} (F_stakes : Ok P w K mg base .no k_stakes "stakes" ["rule", "stand", "side"] s_stakes) (r_stakes : Room k_stakes (A.deeper (envOfC "Book.units" (defScope (mem 54 11)) s.heap.objs.size f cdv))) :
    JB (cxOf CX0 P w K mg base N_Book_units "Book.units" (defScope (mem 54 11)) f cdv A outer s H E).nox (defBody (mem 54 11)) (t_Book_units K s_stakes) :=
    (jb_cons (js_set 1 sc_Book_units.nd (je_lst ja_nil))
    (jb_cons (js_if (jt_cmp (p_ne hu) (jv_ix (je_fld (je_var 0 (hv := .inl rfl))) je_int) je_str) (jb_one (js_ret (je_var 1 (hv := .inl rfl)))) jb_nil)
    (jb_cons (js_forE PassesOwn.never rfl rfl T.f_enumerate (je_fld (je_var 0 (hv := .inl rfl))) (jg_tup rfl (jgs_cons (jg_name 2 sc_Book_units.nd) (jgs_cons (jg_name 3 sc_Book_units.nd) jgs_nil)))
    (jb_cons (js_set 4 sc_Book_units.nd (je_call F_stakes r_stakes (ja_cons (jv_ix (je_fld (je_var 0 (hv := .inl rfl))) je_int) (ja_cons (jv_ix (jv_ix (je_fld (je_var 0 (hv := .inl rfl))) (je_var 2 (hv := .inl rfl))) je_int) (ja_cons (je_var 3 (hv := .inl rfl)) ja_nil)))))
    (jb_one (js_if (jt_cmp (p_gt) (je_var 4 (hv := .inl rfl)) je_int) (jb_one (js_expr (je_bm PySem.F.plainAttrs_list PySem.F.slot_list_append PySem.F.type_list_append o_append (je_var 1 (hv := .inl rfl)) (ja_cons (je_tup (ja_cons (je_op p_add (je_var 2 (hv := .inl rfl)) je_int) (ja_cons (je_var 3 (hv := .inl rfl)) (ja_cons (je_var 4 (hv := .inl rfl)) ja_nil)))) ja_nil)))) jb_nil))))
    (jb_one (js_ret (je_var 1 (hv := .inl rfl)))))))
def N__law_draw : List Str := ["_law_tape_here", "_law_many", "_law_script", "_law_spot", "_law_cell", "_law_left", "_law_mixed"]
theorem sc__law_draw : FnScope N__law_draw ["_law_tape_here", "_law_many"] (defScope (top 57)) := ⟨rfl, rfl, rfl, by decide +kernel, rfl, by decide +kernel, by decide +kernel⟩
def t__law_draw (K : PySem.W.Frag) : RS :=
    (rSeq (rSet 2 (rOp gIxP (rVar 0) (rC (.int 0))))
    (rSeq (rSet 3 (rOp gIxP (rVar 0) (rC (.int 1))))
    (rSeq (rAsg (rOp gAdd (rVar 3) (rC (.int 1))) (gbP (rVar 0) (rC (.int 1))))
    (rSeq (rSet 4 (rC (.int 0)))
    (rSeq (rIfS (rB (rOp gGt (rCB gLenP (rCons (rVar 2) rNil)) (rC (.int 0)))) (rSet 4 (rOp gIxP (rVar 2) (rOp gMod (rIfE (rB (rOp GEq (rOp gIxP (rVar 0) (rC (.int 3))) (rC (.int 1)))) (rOp gDiv (rVar 3) (rC (.int 60))) (rVar 3)) (rCB gLenP (rCons (rVar 2) rNil))))) rNext)
    (rSeq (rIfS (rB (rOp GEq (rOp gIxP (rVar 0) (rC (.int 3))) (rC (.int 1)))) (rSeq (rIfS (rB (rOp GEq (rOp gMod (rVar 3) (rC (.int 60))) (rC (.int 0)))) (rAsg (rOp gDiv (rVar 4) (rC (.int 2))) (gbP (rVar 0) (rC (.int 2)))) rNext)
    (rSeq (rSet 5 (rOp gIxP (rVar 0) (rC (.int 2))))
    (rSeq (rAsg (rOp gDiv (rVar 5) (rVar 1)) (gbP (rVar 0) (rC (.int 2))))
    (rRet (rOp gMod (rVar 5) (rVar 1)))))) rNext)
    (rSeq (rSet 6 (rOp gMod (rOp gMul (rOp gAdd (rOp gMod (rVar 4) (rC (.int 1000003))) (rC (.int 1))) (rOp gAdd (rOp gAdd (rOp gMul (rOp gMod (rVar 3) (rC (.int 997))) (rC (.int 7919))) (rC (.int 104729))) (rVar 3))) (rC (.int 1000033))))
    (rSeq (rSet 6 (rOp gMod (rOp gAdd (rOp gAdd (rOp gMul (rVar 6) (rVar 6)) (rOp gMul (rC (.int 3)) (rVar 6))) (rVar 3)) (rC (.int 999983))))
    (rRet (rOp gMod (rOp gMod (rOp gMul (rVar 6) (rC (.int 48271))) (rC (.int 65537))) (rVar 1)))))))))))
theorem w__law_draw {P : Program} {w : World} {K : PySem.W.Frag} {mg : Str → Option Value} {base : Heap} {f : Addr} {cdv : Value} {A : Around} {outer : List Env} {s : Shared} {H : Hp} {E : XK} (T : Tx K mg) (hu : (A.deeper (envOfC "_law_draw" (defScope (top 57)) s.heap.objs.size f cdv)).units + 64 < cLine)  :
    JB (cxOf CX0 P w K mg base N__law_draw "_law_draw" (defScope (top 57)) f cdv A outer s H E).nox (defBody (top 57)) (t__law_draw K ) :=
    (jb_cons (js_set 2 sc__law_draw.nd (jv_ixP (je_var 0 (hv := .inl rfl)) je_int))
    (jb_cons (js_set 3 sc__law_draw.nd (jv_ixP (je_var 0 (hv := .inl rfl)) je_int))
    (jb_cons (js_asg (je_op p_add (je_var 3 (hv := .inl rfl)) je_int) (jg_subP (je_var 0 (hv := .inl rfl)) je_int))
    (jb_cons (js_set 4 sc__law_draw.nd je_int)
    (jb_cons (js_if (jt_cmp (p_gt) (je_callB p_lenP rfl T.f_len Boot.«len» (ja_cons (je_var 2 (hv := .inl rfl)) ja_nil)) je_int) (jb_one (js_set 4 sc__law_draw.nd (jv_ixP (je_var 2 (hv := .inl rfl)) (je_op p_mod (je_if (jt_cmp (p_eq hu) (jv_ixP (je_var 0 (hv := .inl rfl)) je_int) je_int) (je_op p_div (je_var 3 (hv := .inl rfl)) je_int) (je_var 3 (hv := .inl rfl))) (je_callB p_lenP rfl T.f_len Boot.«len» (ja_cons (je_var 2 (hv := .inl rfl)) ja_nil)))))) jb_nil)
    (jb_cons (js_if (jt_cmp (p_eq hu) (jv_ixP (je_var 0 (hv := .inl rfl)) je_int) je_int) (jb_cons (js_if (jt_cmp (p_eq hu) (je_op p_mod (je_var 3 (hv := .inl rfl)) je_int) je_int) (jb_one (js_asg (je_op p_div (je_var 4 (hv := .inl rfl)) je_int) (jg_subP (je_var 0 (hv := .inl rfl)) je_int))) jb_nil)
    (jb_cons (js_set 5 sc__law_draw.nd (jv_ixP (je_var 0 (hv := .inl rfl)) je_int))
    (jb_cons (js_asg (je_op p_div (je_var 5 (hv := .inl rfl)) (je_var 1 (hv := .inl rfl))) (jg_subP (je_var 0 (hv := .inl rfl)) je_int))
    (jb_one (js_ret (je_op p_mod (je_var 5 (hv := .inl rfl)) (je_var 1 (hv := .inl rfl)))))))) jb_nil)
    (jb_cons (js_set 6 sc__law_draw.nd (je_op p_mod (je_op p_mul (je_op p_add (je_op p_mod (je_var 4 (hv := .inl rfl)) je_int) je_int) (je_op p_add (je_op p_add (je_op p_mul (je_op p_mod (je_var 3 (hv := .inl rfl)) je_int) je_int) je_int) (je_var 3 (hv := .inl rfl)))) je_int))
    (jb_cons (js_set 6 sc__law_draw.nd (je_op p_mod (je_op p_add (je_op p_add (je_op p_mul (je_var 6 (hv := .inl rfl)) (je_var 6 (hv := .inl rfl))) (je_op p_mul je_int (je_var 6 (hv := .inl rfl)))) (je_var 3 (hv := .inl rfl))) je_int))
    (jb_one (js_ret (je_op p_mod (je_op p_mod (je_op p_mul (je_var 6 (hv := .inl rfl)) je_int) je_int) (je_var 1 (hv := .inl rfl)))))))))))))
def N__law_unit : List Str := ["_law_tape_here", "_law_deep", "_law_thin", "_law_to", "_law_lead", "_law_cap", "_law_last", "_law_inner"]
theorem sc__law_unit : FnScope N__law_unit ["_law_tape_here", "_law_deep", "_law_thin"] (defScope (top 58)) := ⟨rfl, rfl, rfl, by decide +kernel, rfl, by decide +kernel, by decide +kernel⟩
def t__law_unit (K : PySem.W.Frag) (s__law_draw : DSp) (s__law_rule : DSp) : RS :=
    (rSeq (rSet 3 (rOp gAdd (rC (.int 1)) (rCall .no s__law_draw (rCons (rVar 0) (rCons (rOp gIx (rLst (rCons (rC (.int 3)) (rCons (rC (.int 5)) (rCons (rC (.int 99)) rNil)))) (rOp gDiv (rCall .no s__law_draw (rCons (rVar 0) (rCons (rC (.int 20)) rNil))) (rC (.int 8)))) rNil)))))
    (rSeq (rSet 4 (rOp gAdd (rC (.int 1)) (rCall .no s__law_draw (rCons (rVar 0) (rCons (rOp gIx (rLst (rCons (rC (.int 2)) (rCons (rC (.int 3)) (rCons (rC (.int 99)) rNil)))) (rOp gDiv (rCall .no s__law_draw (rCons (rVar 0) (rCons (rC (.int 20)) rNil))) (rC (.int 9)))) rNil)))))
    (rSeq (rSet 5 (rC .non))
    (rSeq (rSet 6 (rC .non))
    (rSeq (rIfS (rB (rOp GEq (rCall .no s__law_draw (rCons (rVar 0) (rCons (rC (.int 2)) rNil))) (rC (.int 1)))) (rSet 5 (rCB gMin2 (rCons (rC (.int 99)) (rCons (rOp gAdd (rVar 3) (rCall .no s__law_draw (rCons (rVar 0) (rCons (rC (.int 4)) rNil)))) rNil)))) rNext)
    (rSeq (rSet 7 (rCall .no s__law_rule (rCons (rVar 0) (rCons (rOp gSub (rVar 1) (rC (.int 1))) (rCons (rVar 2) rNil)))))
    (rSeq (rIfS (rAnd (rB (rOp gIsNot (rVar 5) (rC .non))) (rB (rOp gGt (rCall .no s__law_draw (rCons (rVar 0) (rCons (rC (.int 3)) rNil))) (rC (.int 0))))) (rSet 6 (rCall .no s__law_rule (rCons (rVar 0) (rCons (rCB gMin2 (rCons (rOp gSub (rVar 1) (rC (.int 1))) (rCons (rVar 2) rNil))) (rCons (rVar 2) rNil))))) rNext)
    (rRet (rTup (rCons (rC (.str "unit")) (rCons (rVar 3) (rCons (rVar 4) (rCons (rVar 5) (rCons (rVar 7) (rCons (rVar 6) rNil)))))))))))))))
theorem w__law_unit {P : Program} {w : World} {K : PySem.W.Frag} {mg : Str → Option Value} {base : Heap} {f : Addr} {cdv : Value} {A : Around} {outer : List Env} {s : Shared} {H : Hp} {E : XK} {s__law_draw : DSp} {s__law_rule : DSp} (T : Tx K mg) (hu : (A.deeper (envOfC "_law_unit" (defScope (top 58)) s.heap.objs.size f cdv)).units + 64 < cLine) {k__law_draw : Nat} (F__law_draw : Ok P w K mg base .no k__law_draw "_law_draw" ["_law_tape_here", "_law_many"] s__law_draw) (r__law_draw : Room k__law_draw (A.deeper (envOfC "_law_unit" (defScope (top 58)) s.heap.objs.size f cdv))) {k__law_rule : Nat} (F__law_rule : Ok P w K mg base .no k__law_rule "_law_rule" ["_law_tape_here", "_law_deep", "_law_thin"] s__law_rule) (r__law_rule : Room k__law_rule (A.deeper (envOfC "_law_unit" (defScope (top 58)) s.heap.objs.size f cdv))) :
    JB (cxOf CX0 P w K mg base N__law_unit "_law_unit" (defScope (top 58)) f cdv A outer s H E).nox (defBody (top 58)) (t__law_unit K s__law_draw s__law_rule) :=
    (jb_cons (js_set 3 sc__law_unit.nd (je_op p_add je_int (je_call F__law_draw r__law_draw (ja_cons (je_var 0 (hv := .inl rfl)) (ja_cons (jv_ix (je_lst (ja_cons je_int (ja_cons je_int (ja_cons je_int ja_nil)))) (je_op p_div (je_call F__law_draw r__law_draw (ja_cons (je_var 0 (hv := .inl rfl)) (ja_cons je_int ja_nil))) je_int)) ja_nil)))))
    (jb_cons (js_set 4 sc__law_unit.nd (je_op p_add je_int (je_call F__law_draw r__law_draw (ja_cons (je_var 0 (hv := .inl rfl)) (ja_cons (jv_ix (je_lst (ja_cons je_int (ja_cons je_int (ja_cons je_int ja_nil)))) (je_op p_div (je_call F__law_draw r__law_draw (ja_cons (je_var 0 (hv := .inl rfl)) (ja_cons je_int ja_nil))) je_int)) ja_nil)))))
    (jb_cons (js_set 5 sc__law_unit.nd je_non)
    (jb_cons (js_set 6 sc__law_unit.nd je_non)
    (jb_cons (js_if (jt_cmp (p_eq hu) (je_call F__law_draw r__law_draw (ja_cons (je_var 0 (hv := .inl rfl)) (ja_cons je_int ja_nil))) je_int) (jb_one (js_set 5 sc__law_unit.nd (je_callB (p_min2 rfl) rfl T.f_min Boot.«min» (ja_cons je_int (ja_cons (je_op p_add (je_var 3 (hv := .inl rfl)) (je_call F__law_draw r__law_draw (ja_cons (je_var 0 (hv := .inl rfl)) (ja_cons je_int ja_nil)))) ja_nil))))) jb_nil)
    (jb_cons (js_set 7 sc__law_unit.nd (je_call F__law_rule r__law_rule (ja_cons (je_var 0 (hv := .inl rfl)) (ja_cons (je_op p_sub (je_var 1 (hv := .inl rfl)) je_int) (ja_cons (je_var 2 (hv := .inl rfl)) ja_nil)))))
    (jb_cons (js_if (jw_t (jw_and (jt_cmp (p_isnot) (je_var 5 (hv := .inl rfl)) je_non) (jw_and1 (jt_cmp (p_gt) (je_call F__law_draw r__law_draw (ja_cons (je_var 0 (hv := .inl rfl)) (ja_cons je_int ja_nil))) je_int)))) (jb_one (js_set 6 sc__law_unit.nd (je_call F__law_rule r__law_rule (ja_cons (je_var 0 (hv := .inl rfl)) (ja_cons (je_callB (p_min2 rfl) rfl T.f_min Boot.«min» (ja_cons (je_op p_sub (je_var 1 (hv := .inl rfl)) je_int) (ja_cons (je_var 2 (hv := .inl rfl)) ja_nil))) (ja_cons (je_var 2 (hv := .inl rfl)) ja_nil)))))) jb_nil)
    (jb_one (js_ret (je_tup (ja_cons je_str (ja_cons (je_var 3 (hv := .inl rfl)) (ja_cons (je_var 4 (hv := .inl rfl)) (ja_cons (je_var 5 (hv := .inl rfl)) (ja_cons (je_var 7 (hv := .inl rfl)) (ja_cons (je_var 6 (hv := .inl rfl)) ja_nil))))))))))))))))
def N__law_rule : List Str := ["_law_tape_here", "_law_deep", "_law_thin"]
theorem sc__law_rule : FnScope N__law_rule ["_law_tape_here", "_law_deep", "_law_thin"] (defScope (top 59)) := ⟨rfl, rfl, rfl, by decide +kernel, rfl, by decide +kernel, by decide +kernel⟩
def t__law_rule (K : PySem.W.Frag) (s__law_draw : DSp) (s__law_unit : DSp) : RS :=
    (rSeq (rIfS (rOr (rB (rOp GEq (rVar 1) (rC (.int 0)))) (rB (rOp GEq (rCall .no s__law_draw (rCons (rVar 0) (rCons (rC (.int 7)) rNil))) (rC (.int 3))))) (rRet (rTup (rCons (rC (.str "point")) rNil))) rNext)
    (rRet (rCall .no s__law_unit (rCons (rVar 0) (rCons (rVar 1) (rCons (rVar 2) rNil))))))
theorem w__law_rule {P : Program} {w : World} {K : PySem.W.Frag} {mg : Str → Option Value} {base : Heap} {f : Addr} {cdv : Value} {A : Around} {outer : List Env} {s : Shared} {H : Hp} {E : XK} {s__law_draw : DSp} {s__law_unit : DSp} (T : Tx K mg) (hu : (A.deeper (envOfC "_law_rule" (defScope (top 59)) s.heap.objs.size f cdv)).units + 64 < cLine) {k__law_draw : Nat} (F__law_draw : Ok P w K mg base .no k__law_draw "_law_draw" ["_law_tape_here", "_law_many"] s__law_draw) (r__law_draw : Room k__law_draw (A.deeper (envOfC "_law_rule" (defScope (top 59)) s.heap.objs.size f cdv))) {k__law_unit : Nat} (F__law_unit : Ok P w K mg base .no k__law_unit "_law_unit" ["_law_tape_here", "_law_deep", "_law_thin"] s__law_unit) (r__law_unit : Room k__law_unit (A.deeper (envOfC "_law_rule" (defScope (top 59)) s.heap.objs.size f cdv))) :
    JB (cxOf CX0 P w K mg base N__law_rule "_law_rule" (defScope (top 59)) f cdv A outer s H E).nox (defBody (top 59)) (t__law_rule K s__law_draw s__law_unit) :=
    (jb_cons (js_if (jw_t (jw_or (jt_cmp (p_eq hu) (je_var 1 (hv := .inl rfl)) je_int) (jw_or1 (jt_cmp (p_eq hu) (je_call F__law_draw r__law_draw (ja_cons (je_var 0 (hv := .inl rfl)) (ja_cons je_int ja_nil))) je_int)))) (jb_one (js_ret (je_tup (ja_cons je_str ja_nil)))) jb_nil)
    (jb_one (js_ret (je_call F__law_unit r__law_unit (ja_cons (je_var 0 (hv := .inl rfl)) (ja_cons (je_var 1 (hv := .inl rfl)) (ja_cons (je_var 2 (hv := .inl rfl)) ja_nil)))))))
def N__law_any_rule : List Str := ["_law_tape_here", "_law_way"]
theorem sc__law_any_rule : FnScope N__law_any_rule ["_law_tape_here"] (defScope (top 60)) := ⟨rfl, rfl, rfl, by decide +kernel, rfl, by decide +kernel, by decide +kernel⟩
def t__law_any_rule (K : PySem.W.Frag) (s__law_draw : DSp) (s__law_rule : DSp) : RS :=
    (rSeq (rSet 1 (rCall .no s__law_draw (rCons (rVar 0) (rCons (rC (.int 6)) rNil))))
    (rRet (rCall .no s__law_rule (rCons (rVar 0) (rCons (rOp gIx (rLst (rCons (rC (.int 2)) (rCons (rC (.int 1)) (rCons (rC (.int 2)) (rCons (rC (.int 3)) (rCons (rC (.int 3)) (rCons (rC (.int 4)) rNil))))))) (rVar 1)) (rCons (rOp gIx (rLst (rCons (rC (.int 3)) (rCons (rC (.int 3)) (rCons (rC (.int 3)) (rCons (rC (.int 3)) (rCons (rC (.int 1)) (rCons (rC (.int 1)) rNil))))))) (rVar 1)) rNil))))))
theorem w__law_any_rule {P : Program} {w : World} {K : PySem.W.Frag} {mg : Str → Option Value} {base : Heap} {f : Addr} {cdv : Value} {A : Around} {outer : List Env} {s : Shared} {H : Hp} {E : XK} {s__law_draw : DSp} {s__law_rule : DSp} (T : Tx K mg) (hu : (A.deeper (envOfC "_law_any_rule" (defScope (top 60)) s.heap.objs.size f cdv)).units + 64 < cLine) {k__law_draw : Nat} (F__law_draw : Ok P w K mg base .no k__law_draw "_law_draw" ["_law_tape_here", "_law_many"] s__law_draw) (r__law_draw : Room k__law_draw (A.deeper (envOfC "_law_any_rule" (defScope (top 60)) s.heap.objs.size f cdv))) {k__law_rule : Nat} (F__law_rule : Ok P w K mg base .no k__law_rule "_law_rule" ["_law_tape_here", "_law_deep", "_law_thin"] s__law_rule) (r__law_rule : Room k__law_rule (A.deeper (envOfC "_law_any_rule" (defScope (top 60)) s.heap.objs.size f cdv))) :
    JB (cxOf CX0 P w K mg base N__law_any_rule "_law_any_rule" (defScope (top 60)) f cdv A outer s H E).nox (defBody (top 60)) (t__law_any_rule K s__law_draw s__law_rule) :=
    (jb_cons (js_set 1 sc__law_any_rule.nd (je_call F__law_draw r__law_draw (ja_cons (je_var 0 (hv := .inl rfl)) (ja_cons je_int ja_nil))))
    (jb_one (js_ret (je_call F__law_rule r__law_rule (ja_cons (je_var 0 (hv := .inl rfl)) (ja_cons (jv_ix (je_lst (ja_cons je_int (ja_cons je_int (ja_cons je_int (ja_cons je_int (ja_cons je_int (ja_cons je_int ja_nil))))))) (je_var 1 (hv := .inl rfl))) (ja_cons (jv_ix (je_lst (ja_cons je_int (ja_cons je_int (ja_cons je_int (ja_cons je_int (ja_cons je_int (ja_cons je_int ja_nil))))))) (je_var 1 (hv := .inl rfl))) ja_nil)))))))
def N__law_won : List Str := ["_law_rule_here", "_law_own", "_law_other"]
theorem sc__law_won : FnScope N__law_won ["_law_rule_here", "_law_own", "_law_other"] (defScope (top 61)) := ⟨rfl, rfl, rfl, by decide +kernel, rfl, by decide +kernel, by decide +kernel⟩
def t__law_won (K : PySem.W.Frag) : RS :=
    (rRet (rOrV (rAndV (rOp gIsNot (rOp gIx (rVar 0) (rC (.int 3))) (rC .non)) (rOp gGe (rVar 1) (rOp gIx (rVar 0) (rC (.int 3))))) (rAndV (rOp gGe (rVar 1) (rOp gIx (rVar 0) (rC (.int 1)))) (rOp gGe (rOp gSub (rVar 1) (rVar 2)) (rOp gIx (rVar 0) (rC (.int 2)))))))
theorem w__law_won {P : Program} {w : World} {K : PySem.W.Frag} {mg : Str → Option Value} {base : Heap} {f : Addr} {cdv : Value} {A : Around} {outer : List Env} {s : Shared} {H : Hp} {E : XK} (T : Tx K mg) (hu : (A.deeper (envOfC "_law_won" (defScope (top 61)) s.heap.objs.size f cdv)).units + 64 < cLine)  :
    JB (cxOf CX0 P w K mg base N__law_won "_law_won" (defScope (top 61)) f cdv A outer s H E).nox (defBody (top 61)) (t__law_won K ) :=
    (jb_one (js_ret (je_or (je_and (je_cmp (p_isnot) (jv_ix (je_var 0 (hv := .inl rfl)) je_int) je_non) (je_one (je_cmp (p_ge) (je_var 1 (hv := .inl rfl)) (jv_ix (je_var 0 (hv := .inl rfl)) je_int)))) (je_one (je_and (je_cmp (p_ge) (je_var 1 (hv := .inl rfl)) (jv_ix (je_var 0 (hv := .inl rfl)) je_int)) (je_one (je_cmp (p_ge) (je_op p_sub (je_var 1 (hv := .inl rfl)) (je_var 2 (hv := .inl rfl))) (jv_ix (je_var 0 (hv := .inl rfl)) je_int))))))))
def N__law_played : List Str := ["_law_rule_here", "_law_row", "_law_at", "_law_ends", "_law_counts", "_law_turn", "_law_inner", "_law_side", "_law_within"]
theorem sc__law_played : FnScope N__law_played ["_law_rule_here", "_law_row", "_law_at", "_law_ends"] (defScope (top 62)) := ⟨rfl, rfl, rfl, by decide +kernel, rfl, by decide +kernel, by decide +kernel⟩
def t__law_played (K : PySem.W.Frag) (s__law_played : DSp) (s__law_won : DSp) : RS :=
    (rSeq (rIfS (rB (rOp GEq (rVar 0) (rTup (rCons (rC (.str "point")) rNil)))) (rSeq (rIfS (rB (rOp GEq (rVar 2) (rCB gLen (rCons (rVar 1) rNil)))) (rRet (rTup (rCons (rC .non) (rCons (rTup rNil) (rCons (rVar 2) rNil))))) rNext)
    (rRet (rTup (rCons (rOp gIx (rVar 1) (rVar 2)) (rCons (rTup rNil) (rCons (rOp gAdd (rVar 2) (rC (.int 1))) rNil)))))) rNext)
    (rSeq (rSet 4 (rLst (rCons (rC (.int 0)) (rCons (rC (.int 0)) rNil))))
    (rSeq (rForR (rOp gAdd (rCB gLen (rCons (rVar 1) rNil)) (rC (.int 1))) (gnD 5)
    (rSeq (rSet 6 (rOp gIx (rVar 0) (rC (.int 4))))
    (rSeq (rIfS (rAnd (rB (rOp gIsNot (rOp gIx (rVar 0) (rC (.int 5))) (rC .non))) (rAnd (rB (rOp GEq (rOp gAdd (rOp gIx (rVar 4) (rC (.int 0))) (rC (.int 1))) (rOp gIx (rVar 0) (rC (.int 3))))) (rB (rOp GEq (rOp gAdd (rOp gIx (rVar 4) (rC (.int 1))) (rC (.int 1))) (rOp gIx (rVar 0) (rC (.int 3))))))) (rSet 6 (rOp gIx (rVar 0) (rC (.int 5)))) rNext)
    (rSeq (rAsg (rCall .no s__law_played (rCons (rVar 6) (rCons (rVar 1) (rCons (rVar 2) (rCons (rVar 3) rNil))))) (gtD 3 (gsCons (gnD 7) (gsCons (gnD 8) (gsCons (gnD 2) gsNil)))))
    (rSeq (rIfS (rB (rOp gIs (rVar 7) (rC .non))) (rRet (rTup (rCons (rC .non) (rCons (rTup (rCons (rOp gIx (rVar 4) (rC (.int 0))) (rCons (rOp gIx (rVar 4) (rC (.int 1))) (rCons (rVar 8) rNil)))) (rCons (rVar 2) rNil))))) rNext)
    (rSeq (rAsg (rOp gAdd (rOp gIx (rVar 4) (rVar 7)) (rC (.int 1))) (gbD (rVar 4) (rVar 7)))
    (rIfS (rB (rCall .no s__law_won (rCons (rVar 0) (rCons (rOp gIx (rVar 4) (rVar 7)) (rCons (rOp gIx (rVar 4) (rOp gSub (rC (.int 1)) (rVar 7))) rNil))))) (rSeq (rDrop (rBM "list" fAppend (rVar 3) (rCons (rVar 2) rNil)))
    (rRet (rTup (rCons (rVar 7) (rCons (rTup (rCons (rOp gIx (rVar 4) (rC (.int 0))) (rCons (rOp gIx (rVar 4) (rC (.int 1))) (rCons (rTup rNil) rNil)))) (rCons (rVar 2) rNil)))))) rNext)))))))
    (rRet (rTup (rCons (rC .non) (rCons (rTup (rCons (rOp gIx (rVar 4) (rC (.int 0))) (rCons (rOp gIx (rVar 4) (rC (.int 1))) (rCons (rTup rNil) rNil)))) (rCons (rVar 2) rNil))))))))
theorem w__law_played {P : Program} {w : World} {K : PySem.W.Frag} {mg : Str → Option Value} {base : Heap} {f : Addr} {cdv : Value} {A : Around} {outer : List Env} {s : Shared} {H : Hp} {E : XK} {s__law_played : DSp} {s__law_won : DSp} (T : Tx K mg) (hu : (A.deeper (envOfC "_law_played" (defScope (top 62)) s.heap.objs.size f cdv)).units + 64 < cLine) {k__law_played : Nat} (F__law_played : Ok P w K mg base .no k__law_played "_law_played" ["_law_rule_here", "_law_row", "_law_at", "_law_ends"] s__law_played) (r__law_played : Room k__law_played (A.deeper (envOfC "_law_played" (defScope (top 62)) s.heap.objs.size f cdv))) {k__law_won : Nat} (F__law_won : Ok P w K mg base .no k__law_won "_law_won" ["_law_rule_here", "_law_own", "_law_other"] s__law_won) (r__law_won : Room k__law_won (A.deeper (envOfC "_law_played" (defScope (top 62)) s.heap.objs.size f cdv))) :
    JB (cxOf CX0 P w K mg base N__law_played "_law_played" (defScope (top 62)) f cdv A outer s H E).nox (defBody (top 62)) (t__law_played K s__law_played s__law_won) :=
    (jb_cons (js_if (jt_cmp (p_eq hu) (je_var 0 (hv := .inl rfl)) (je_tup (ja_cons je_str ja_nil))) (jb_cons (js_if (jt_cmp (p_eq hu) (je_var 2 (hv := .inl rfl)) (je_callB p_len rfl T.f_len Boot.«len» (ja_cons (je_var 1 (hv := .inl rfl)) ja_nil))) (jb_one (js_ret (je_tup (ja_cons je_non (ja_cons (je_tup ja_nil) (ja_cons (je_var 2 (hv := .inl rfl)) ja_nil)))))) jb_nil)
    (jb_one (js_ret (je_tup (ja_cons (jv_ix (je_var 1 (hv := .inl rfl)) (je_var 2 (hv := .inl rfl))) (ja_cons (je_tup ja_nil) (ja_cons (je_op p_add (je_var 2 (hv := .inl rfl)) je_int) ja_nil))))))) jb_nil)
    (jb_cons (js_set 4 sc__law_played.nd (je_lst (ja_cons je_int (ja_cons je_int ja_nil))))
    (jb_cons (js_forR PassesOwn.never rfl rfl T.f_range (je_op p_add (je_callB p_len rfl T.f_len Boot.«len» (ja_cons (je_var 1 (hv := .inl rfl)) ja_nil)) je_int) (jg_name 5 sc__law_played.nd)
    (jb_cons (js_set 6 sc__law_played.nd (jv_ix (je_var 0 (hv := .inl rfl)) je_int))
    (jb_cons (js_if (jw_t (jw_and (jt_cmp (p_isnot) (jv_ix (je_var 0 (hv := .inl rfl)) je_int) je_non) (jw_and (jt_cmp (p_eq hu) (je_op p_add (jv_ix (je_var 4 (hv := .inl rfl)) je_int) je_int) (jv_ix (je_var 0 (hv := .inl rfl)) je_int)) (jw_and1 (jt_cmp (p_eq hu) (je_op p_add (jv_ix (je_var 4 (hv := .inl rfl)) je_int) je_int) (jv_ix (je_var 0 (hv := .inl rfl)) je_int)))))) (jb_one (js_set 6 sc__law_played.nd (jv_ix (je_var 0 (hv := .inl rfl)) je_int))) jb_nil)
    (jb_cons (js_asg (je_call F__law_played r__law_played (ja_cons (je_var 6 (hv := .inl rfl)) (ja_cons (je_var 1 (hv := .inl rfl)) (ja_cons (je_var 2 (hv := .inl rfl)) (ja_cons (je_var 3 (hv := .inl rfl)) ja_nil))))) (jg_tup rfl (jgs_cons (jg_name 7 sc__law_played.nd) (jgs_cons (jg_name 8 sc__law_played.nd) (jgs_cons (jg_name 2 sc__law_played.nd) jgs_nil)))))
    (jb_cons (js_if (jt_cmp (p_is) (je_var 7 (hv := .inl rfl)) je_non) (jb_one (js_ret (je_tup (ja_cons je_non (ja_cons (je_tup (ja_cons (jv_ix (je_var 4 (hv := .inl rfl)) je_int) (ja_cons (jv_ix (je_var 4 (hv := .inl rfl)) je_int) (ja_cons (je_var 8 (hv := .inl rfl)) ja_nil)))) (ja_cons (je_var 2 (hv := .inl rfl)) ja_nil)))))) jb_nil)
    (jb_cons (js_asg (je_op p_add (jv_ix (je_var 4 (hv := .inl rfl)) (je_var 7 (hv := .inl rfl))) je_int) (jg_sub (je_var 4 (hv := .inl rfl)) (je_var 7 (hv := .inl rfl))))
    (jb_one (js_if (jt_val (je_call F__law_won r__law_won (ja_cons (je_var 0 (hv := .inl rfl)) (ja_cons (jv_ix (je_var 4 (hv := .inl rfl)) (je_var 7 (hv := .inl rfl))) (ja_cons (jv_ix (je_var 4 (hv := .inl rfl)) (je_op p_sub je_int (je_var 7 (hv := .inl rfl)))) ja_nil))))) (jb_cons (js_expr (je_bm PySem.F.plainAttrs_list PySem.F.slot_list_append PySem.F.type_list_append o_append (je_var 3 (hv := .inl rfl)) (ja_cons (je_var 2 (hv := .inl rfl)) ja_nil)))
    (jb_one (js_ret (je_tup (ja_cons (je_var 7 (hv := .inl rfl)) (ja_cons (je_tup (ja_cons (jv_ix (je_var 4 (hv := .inl rfl)) je_int) (ja_cons (jv_ix (je_var 4 (hv := .inl rfl)) je_int) (ja_cons (je_tup ja_nil) ja_nil)))) (ja_cons (je_var 2 (hv := .inl rfl)) ja_nil))))))) jb_nil))))))))
    (jb_one (js_ret (je_tup (ja_cons je_non (ja_cons (je_tup (ja_cons (jv_ix (je_var 4 (hv := .inl rfl)) je_int) (ja_cons (jv_ix (je_var 4 (hv := .inl rfl)) je_int) (ja_cons (je_tup ja_nil) ja_nil)))) (ja_cons (je_var 2 (hv := .inl rfl)) ja_nil)))))))))
def N__law_names : List Str := ["_law_tape_here", "_law_many", "_law_letters", "_law_signs", "_law_word", "_law_place", "_law_turn", "_law_size", "_law_names_here", "_law_k", "_law_sign"]
theorem sc__law_names : FnScope N__law_names ["_law_tape_here", "_law_many"] (defScope (top 63)) := ⟨rfl, rfl, rfl, by decide +kernel, rfl, by decide +kernel, by decide +kernel⟩
def t__law_names (K : PySem.W.Frag) (s__law_draw : DSp) : RS :=
    (rSeq (rSet 2 (rC (.str "abcdefghijklmnopqrstuvwxyz0123456789")))
    (rSeq (rSet 3 (rLc (rItR (rC (.int 7))) 9 (rOp gIx (rVar 2) (rCall .no s__law_draw (rCons (rVar 0) (rCons (rC (.int 36)) rNil))))))
    (rSeq (rSet 4 (rOp gAdd (rOp gIx (rVar 2) (rCall .no s__law_draw (rCons (rVar 0) (rCons (rC (.int 26)) rNil)))) (rBM "str" fJoin (rC (.str "")) (rCons (rVar 3) rNil))))
    (rSeq (rIfS (rB (rOp GEq (rCall .no s__law_draw (rCons (rVar 0) (rCons (rC (.int 2)) rNil))) (rC (.int 0)))) (rRet (rLc (rItR (rVar 1)) 9 (rSlD (rVar 4) rNoPart (rPart (rOp gAdd (rVar 9) (rC (.int 1))))))) rNext)
    (rSeq (rSet 5 (rOp gAdd (rC (.int 1)) (rCall .no s__law_draw (rCons (rVar 0) (rCons (rC (.int 7)) rNil)))))
    (rSeq (rSet 6 (rCall .no s__law_draw (rCons (rVar 0) (rCons (rC (.int 36)) rNil))))
    (rSeq (rSet 7 (rOp gAdd (rOp gAdd (rVar 5) (rC (.int 1))) (rCall .no s__law_draw (rCons (rVar 0) (rCons (rOp gSub (rC (.int 8)) (rVar 5)) rNil)))))
    (rSeq (rSet 8 (rLst rNil))
    (rSeq (rForR (rVar 1) (gnD 9)
    (rSeq (rSet 10 (rOp gIx (rVar 2) (rOp gMod (rOp gAdd (rVar 6) (rOp gMul (rC (.int 5)) (rVar 9))) (rC (.int 36)))))
    (rDrop (rBM "list" fAppend (rVar 8) (rCons (rOp gAdd (rOp gAdd (rSlD (rVar 4) rNoPart (rPart (rVar 5))) (rVar 10)) (rSlD (rVar 4) (rPart (rOp gAdd (rVar 5) (rC (.int 1)))) (rPart (rVar 7)))) rNil)))))
    (rRet (rVar 8)))))))))))
theorem w__law_names {P : Program} {w : World} {K : PySem.W.Frag} {mg : Str → Option Value} {base : Heap} {f : Addr} {cdv : Value} {A : Around} {outer : List Env} {s : Shared} {H : Hp} {E : XK} {s__law_draw : DSp} (T : Tx K mg) (hu : (A.deeper (envOfC "_law_names" (defScope (top 63)) s.heap.objs.size f cdv)).units + 64 < cLine) {k__law_draw : Nat} (F__law_draw : Ok P w K mg base .no k__law_draw "_law_draw" ["_law_tape_here", "_law_many"] s__law_draw) (r__law_draw : Room k__law_draw (A.deeper (envOfC "_law_names" (defScope (top 63)) s.heap.objs.size f cdv))) :
    JB (cxOf CX0 P w K mg base N__law_names "_law_names" (defScope (top 63)) f cdv A outer s H E).nox (defBody (top 63)) (t__law_names K s__law_draw) :=
    (jb_cons (js_set 2 sc__law_names.nd je_str (hx := .inr rfl) (hf := .inl rfl))
    (jb_cons (js_setLc 3 9 rfl sc__law_names.nd (blk_ok (N := N__law_names) (sc := defScope (top 63)) (by decide +kernel)) (ji_rng rfl T.f_range je_int) (fun _ _ _ _ _ => (jv_ix (je_var 2 (hv := .inr (.inl rfl))) (je_call F__law_draw r__law_draw (ja_cons (je_var 0 (hv := .inr (.inl rfl))) (ja_cons je_int ja_nil))))) (fun _ _ _ _ _ => pg_name sc__law_names.nd rfl (.inl rfl) (.inr rfl)))
    (jb_cons (js_set 4 sc__law_names.nd (je_op p_add (jv_ix (je_var 2 (hv := .inr (.inl rfl))) (je_call F__law_draw r__law_draw (ja_cons (je_var 0 (hv := .inr (.inl rfl))) (ja_cons je_int ja_nil)))) (je_bm PySem.F.plainAttrs_str PySem.F.slot_str_join PySem.F.type_str_join o_join je_str (ja_cons (je_var 3 (hv := .inl rfl)) ja_nil))) (hx := .inr rfl) (hf := .inl rfl))
    (jb_cons (js_if (jt_cmp (p_eq hu) (je_call F__law_draw r__law_draw (ja_cons (je_var 0 (hv := .inr (.inl rfl))) (ja_cons je_int ja_nil))) je_int) (jb_one (js_ret (je_lc 9 rfl sc__law_names.nd (blk_ok (N := N__law_names) (sc := defScope (top 63)) (by decide +kernel)) (ji_rng rfl T.f_range (je_var 1 (hv := .inl rfl))) (fun _ _ _ _ _ => (je_slice (je_var 4 (hv := .inr (.inl rfl))) jo_none (jo_some (je_op p_add (je_var 9 (hv := .inl rfl)) je_int)))) (fun _ _ _ _ _ => pg_name sc__law_names.nd rfl (.inl rfl) (.inr rfl))))) jb_nil)
    (jb_cons (js_set 5 sc__law_names.nd (je_op p_add je_int (je_call F__law_draw r__law_draw (ja_cons (je_var 0 (hv := .inr (.inl rfl))) (ja_cons je_int ja_nil)))))
    (jb_cons (js_set 6 sc__law_names.nd (je_call F__law_draw r__law_draw (ja_cons (je_var 0 (hv := .inr (.inl rfl))) (ja_cons je_int ja_nil))))
    (jb_cons (js_set 7 sc__law_names.nd (je_op p_add (je_op p_add (je_var 5 (hv := .inl rfl)) je_int) (je_call F__law_draw r__law_draw (ja_cons (je_var 0 (hv := .inr (.inl rfl))) (ja_cons (je_op p_sub je_int (je_var 5 (hv := .inl rfl))) ja_nil)))))
    (jb_cons (js_set 8 sc__law_names.nd (je_lst ja_nil))
    (jb_cons (js_forR PassesOwn.never rfl rfl T.f_range (je_var 1 (hv := .inl rfl)) (jg_name 9 sc__law_names.nd)
    (jb_cons (js_set 10 sc__law_names.nd (jv_ix (je_var 2 (hv := .inr (.inl rfl))) (je_op p_mod (je_op p_add (je_var 6 (hv := .inl rfl)) (je_op p_mul je_int (je_var 9 (hv := .inl rfl)))) je_int)))
    (jb_one (js_expr (je_bm PySem.F.plainAttrs_list PySem.F.slot_list_append PySem.F.type_list_append o_append (je_var 8 (hv := .inl rfl)) (ja_cons (je_op p_add (je_op p_add (je_slice (je_var 4 (hv := .inr (.inl rfl))) jo_none (jo_some (je_var 5 (hv := .inl rfl)))) (je_var 10 (hv := .inl rfl))) (je_slice (je_var 4 (hv := .inr (.inl rfl))) (jo_some (je_op p_add (je_var 5 (hv := .inl rfl)) je_int)) (jo_some (je_var 7 (hv := .inl rfl))))) ja_nil))))))
    (jb_one (js_ret (je_var 8 (hv := .inl rfl)))))))))))))
def N__law_a_down : List Str := ["_law_tape_here", "_law_great", "_law_sides", "_law_begin", "_law_many", "_law_names_here", "_law_throws", "_law_k", "_law_worth"]
theorem sc__law_a_down : FnScope N__law_a_down ["_law_tape_here", "_law_great"] (defScope (top 64)) := ⟨rfl, rfl, rfl, by decide +kernel, rfl, by decide +kernel, by decide +kernel⟩
def t__law_a_down (K : PySem.W.Frag) (s__law_draw : DSp) (s__law_names : DSp) : RS :=
    (rSeq (rSet 2 (rOp gAdd (rC (.int 1)) (rCall .no s__law_draw (rCons (rVar 0) (rCons (rC (.int 3)) rNil)))))
    (rSeq (rSet 3 (rOp gAdd (rC (.int 1)) (rCall .no s__law_draw (rCons (rVar 0) (rCons (rOp gIx (rLst (rCons (rC (.int 6)) (rCons (rC (.int 20)) (rCons (rVar 1) rNil)))) (rCall .no s__law_draw (rCons (rVar 0) (rCons (rC (.int 3)) rNil)))) rNil)))))
    (rSeq (rSet 4 (rOp gAdd (rC (.int 1)) (rCall .no s__law_draw (rCons (rVar 0) (rCons (rC (.int 5)) rNil)))))
    (rSeq (rSet 5 (rCall .no s__law_names (rCons (rVar 0) (rCons (rVar 4) rNil))))
    (rSeq (rSet 6 (rLst rNil))
    (rSeq (rForR (rVar 4) (gnD 7)
    (rSeq (rSet 8 (rCall .no s__law_draw (rCons (rVar 0) (rCons (rOp gIx (rLst (rCons (rC (.int 5)) (rCons (rC (.int 4)) (rCons (rOp gAdd (rVar 3) (rC (.int 2))) rNil)))) (rCall .no s__law_draw (rCons (rVar 0) (rCons (rC (.int 3)) rNil)))) rNil))))
    (rDrop (rBM "list" fAppend (rVar 6) (rCons (rTup (rCons (rOp gIx (rVar 5) (rVar 7)) (rCons (rVar 8) (rCons (rOp GEq (rCall .no s__law_draw (rCons (rVar 0) (rCons (rC (.int 2)) rNil))) (rC (.int 0))) rNil)))) rNil)))))
    (rRet (rTup (rCons (rVar 2) (rCons (rVar 3) (rCons (rOp gAdd (rC (.int 1)) (rCall .no s__law_draw (rCons (rVar 0) (rCons (rC (.int 3)) rNil)))) (rCons (rCB gTupOf (rCons (rVar 6) rNil)) rNil))))))))))))
theorem w__law_a_down {P : Program} {w : World} {K : PySem.W.Frag} {mg : Str → Option Value} {base : Heap} {f : Addr} {cdv : Value} {A : Around} {outer : List Env} {s : Shared} {H : Hp} {E : XK} {s__law_draw : DSp} {s__law_names : DSp} (T : Tx K mg) (hu : (A.deeper (envOfC "_law_a_down" (defScope (top 64)) s.heap.objs.size f cdv)).units + 64 < cLine) {k__law_draw : Nat} (F__law_draw : Ok P w K mg base .no k__law_draw "_law_draw" ["_law_tape_here", "_law_many"] s__law_draw) (r__law_draw : Room k__law_draw (A.deeper (envOfC "_law_a_down" (defScope (top 64)) s.heap.objs.size f cdv))) {k__law_names : Nat} (F__law_names : Ok P w K mg base .no k__law_names "_law_names" ["_law_tape_here", "_law_many"] s__law_names) (r__law_names : Room k__law_names (A.deeper (envOfC "_law_a_down" (defScope (top 64)) s.heap.objs.size f cdv))) :
    JB (cxOf CX0 P w K mg base N__law_a_down "_law_a_down" (defScope (top 64)) f cdv A outer s H E).nox (defBody (top 64)) (t__law_a_down K s__law_draw s__law_names) :=
    (jb_cons (js_set 2 sc__law_a_down.nd (je_op p_add je_int (je_call F__law_draw r__law_draw (ja_cons (je_var 0 (hv := .inl rfl)) (ja_cons je_int ja_nil)))))
    (jb_cons (js_set 3 sc__law_a_down.nd (je_op p_add je_int (je_call F__law_draw r__law_draw (ja_cons (je_var 0 (hv := .inl rfl)) (ja_cons (jv_ix (je_lst (ja_cons je_int (ja_cons je_int (ja_cons (je_var 1 (hv := .inl rfl)) ja_nil)))) (je_call F__law_draw r__law_draw (ja_cons (je_var 0 (hv := .inl rfl)) (ja_cons je_int ja_nil)))) ja_nil)))))
    (jb_cons (js_set 4 sc__law_a_down.nd (je_op p_add je_int (je_call F__law_draw r__law_draw (ja_cons (je_var 0 (hv := .inl rfl)) (ja_cons je_int ja_nil)))))
    (jb_cons (js_set 5 sc__law_a_down.nd (je_call F__law_names r__law_names (ja_cons (je_var 0 (hv := .inl rfl)) (ja_cons (je_var 4 (hv := .inl rfl)) ja_nil))))
    (jb_cons (js_set 6 sc__law_a_down.nd (je_lst ja_nil))
    (jb_cons (js_forR PassesOwn.never rfl rfl T.f_range (je_var 4 (hv := .inl rfl)) (jg_name 7 sc__law_a_down.nd)
    (jb_cons (js_set 8 sc__law_a_down.nd (je_call F__law_draw r__law_draw (ja_cons (je_var 0 (hv := .inl rfl)) (ja_cons (jv_ix (je_lst (ja_cons je_int (ja_cons je_int (ja_cons (je_op p_add (je_var 3 (hv := .inl rfl)) je_int) ja_nil)))) (je_call F__law_draw r__law_draw (ja_cons (je_var 0 (hv := .inl rfl)) (ja_cons je_int ja_nil)))) ja_nil))))
    (jb_one (js_expr (je_bm PySem.F.plainAttrs_list PySem.F.slot_list_append PySem.F.type_list_append o_append (je_var 6 (hv := .inl rfl)) (ja_cons (je_tup (ja_cons (jv_ix (je_var 5 (hv := .inl rfl)) (je_var 7 (hv := .inl rfl))) (ja_cons (je_var 8 (hv := .inl rfl)) (ja_cons (je_cmp (p_eq hu) (je_call F__law_draw r__law_draw (ja_cons (je_var 0 (hv := .inl rfl)) (ja_cons je_int ja_nil))) je_int) ja_nil)))) ja_nil))))))
    (jb_one (js_ret (je_tup (ja_cons (je_var 2 (hv := .inl rfl)) (ja_cons (je_var 3 (hv := .inl rfl)) (ja_cons (je_op p_add je_int (je_call F__law_draw r__law_draw (ja_cons (je_var 0 (hv := .inl rfl)) (ja_cons je_int ja_nil)))) (ja_cons (je_callTy p_tupOf rfl T.f_tuple Boot.«tuple» (ja_cons (je_var 6 (hv := .inl rfl)) ja_nil)) ja_nil)))))))))))))
def N__law_down : List Str := ["_law_down_here", "_law_row", "_law_sides", "_law_begin", "_law_turn", "_law_throws", "_law_counts", "_law_side", "_law_thrown", "_law_held", "_law_k", "_law_some", "_law_left", "_law_one"]
theorem sc__law_down : FnScope N__law_down ["_law_down_here", "_law_row"] (defScope (top 65)) := ⟨rfl, rfl, rfl, by decide +kernel, rfl, by decide +kernel, by decide +kernel⟩
def t__law_down (K : PySem.W.Frag) : RS :=
    (rSeq (rAsg (rVar 0) (gtD 4 (gsCons (gnD 2) (gsCons (gnD 3) (gsCons (gnD 4) (gsCons (gnD 5) gsNil))))))
    (rSeq (rSet 6 (rOp gMul (rLst (rCons (rVar 3) rNil)) (rVar 2)))
    (rSeq (rSet 7 (rC (.int 0)))
    (rSeq (rSet 8 (rC (.int 0)))
    (rSeq (rSet 9 (rVar 3))
    (rSeq (rForR (rCB gLen (rCons (rVar 1) rNil)) (gnD 10)
    (rSeq (rSet 11 (rLcT (rItT (rVar 5)) 13 (rB (rOp GEq (rOp gIx (rVar 13) (rC (.int 0))) (rOp gIx (rVar 1) (rVar 10)))) (rVar 13)))
    (rSeq (rIfS (rOr (rB (rOp (fIn false) (rC (.int 0)) (rVar 6))) (rB (rOp GEq (rVar 11) (rLst rNil)))) (rRet (rTup (rCons (rVar 10) (rCons (rTup (rCons (rCB gTupOf (rCons (rVar 6) rNil)) (rCons (rVar 7) (rCons (rVar 8) (rCons (rVar 9) rNil))))) (rCons (rIfE (rB (rOp (fIn false) (rC (.int 0)) (rVar 6))) (rTup (rCons (rVar 7) rNil)) (rC .non)) rNil))))) rNext)
    (rSeq (rSet 12 (rOp gSub (rOp gIx (rVar 6) (rVar 7)) (rOp gIx (rOp gIx (rVar 11) (rC (.int 0))) (rC (.int 1)))))
    (rSeq (rSet 8 (rOp gAdd (rVar 8) (rC (.int 1))))
    (rIfS (rAnd (rB (rOp GEq (rVar 12) (rC (.int 0)))) (rB (rOp gIx (rOp gIx (rVar 11) (rC (.int 0))) (rC (.int 2))))) (rAsg (rC (.int 0)) (gbD (rVar 6) (rVar 7))) (rSeq (rAsg (rIfE (rB (rOp gGt (rVar 12) (rC (.int 0)))) (rVar 12) (rVar 9)) (gbD (rVar 6) (rVar 7)))
    (rIfS (rOr (rB (rOp gLe (rVar 12) (rC (.int 0)))) (rB (rOp GEq (rVar 8) (rVar 4)))) (rSeq (rSet 7 (rOp gMod (rOp gAdd (rVar 7) (rC (.int 1))) (rVar 2)))
    (rSeq (rSet 8 (rC (.int 0)))
    (rSet 9 (rOp gIx (rVar 6) (rVar 7))))) rNext))))))))
    (rRet (rTup (rCons (rCB gLen (rCons (rVar 1) rNil)) (rCons (rTup (rCons (rCB gTupOf (rCons (rVar 6) rNil)) (rCons (rVar 7) (rCons (rVar 8) (rCons (rVar 9) rNil))))) (rCons (rIfE (rB (rOp (fIn false) (rC (.int 0)) (rVar 6))) (rTup (rCons (rVar 7) rNil)) (rC .non)) rNil)))))))))))
theorem w__law_down {P : Program} {w : World} {K : PySem.W.Frag} {mg : Str → Option Value} {base : Heap} {f : Addr} {cdv : Value} {A : Around} {outer : List Env} {s : Shared} {H : Hp} {E : XK} (T : Tx K mg) (hu : (A.deeper (envOfC "_law_down" (defScope (top 65)) s.heap.objs.size f cdv)).units + 64 < cLine)  :
    JB (cxOf CX0 P w K mg base N__law_down "_law_down" (defScope (top 65)) f cdv A outer s H E).nox (defBody (top 65)) (t__law_down K ) :=
    (jb_cons (js_asg (je_var 0 (hv := .inl rfl)) (jg_tup rfl (jgs_cons (jg_name 2 sc__law_down.nd) (jgs_cons (jg_name 3 sc__law_down.nd) (jgs_cons (jg_name 4 sc__law_down.nd) (jgs_cons (jg_name 5 sc__law_down.nd) jgs_nil))))))
    (jb_cons (js_set 6 sc__law_down.nd (je_op p_mul (je_lst (ja_cons (je_var 3 (hv := .inl rfl)) ja_nil)) (je_var 2 (hv := .inl rfl))))
    (jb_cons (js_set 7 sc__law_down.nd je_int)
    (jb_cons (js_set 8 sc__law_down.nd je_int)
    (jb_cons (js_set 9 sc__law_down.nd (je_var 3 (hv := .inl rfl)))
    (jb_cons (js_forR PassesOwn.never rfl rfl T.f_range (je_callB p_len rfl T.f_len Boot.«len» (ja_cons (je_var 1 (hv := .inr (.inl rfl))) ja_nil)) (jg_name 10 sc__law_down.nd (hx := .inr rfl) (hf := .inl rfl))
    (jb_cons (js_setLcT 11 13 rfl sc__law_down.nd (blk_ok (N := N__law_down) (sc := defScope (top 65)) (by decide +kernel)) (ji_tup (je_var 5 (hv := .inl rfl))) (fun _ _ _ _ _ => (jt_cmp (p_eq hu) (jv_ix (je_var 13 (hv := .inl rfl)) je_int) (jv_ix (je_var 1 (hv := .inr (.inl rfl))) (je_var 10 (hv := .inr (.inl rfl)))))) (fun _ _ _ _ _ => (je_var 13 (hv := .inl rfl))) (fun _ _ _ _ _ => pg_name sc__law_down.nd rfl (.inl rfl) (.inr rfl)))
    (jb_cons (js_if (jw_t (jw_or (jt_cmp (o_in) je_int (je_var 6 (hv := .inl rfl))) (jw_or1 (jt_cmp (p_eq hu) (je_var 11 (hv := .inl rfl)) (je_lst ja_nil))))) (jb_one (js_ret (je_tup (ja_cons (je_var 10 (hv := .inr (.inl rfl))) (ja_cons (je_tup (ja_cons (je_callTy p_tupOf rfl T.f_tuple Boot.«tuple» (ja_cons (je_var 6 (hv := .inl rfl)) ja_nil)) (ja_cons (je_var 7 (hv := .inl rfl)) (ja_cons (je_var 8 (hv := .inl rfl)) (ja_cons (je_var 9 (hv := .inl rfl)) ja_nil))))) (ja_cons (je_if (jt_cmp (o_in) je_int (je_var 6 (hv := .inl rfl))) (je_tup (ja_cons (je_var 7 (hv := .inl rfl)) ja_nil)) je_non) ja_nil)))))) jb_nil)
    (jb_cons (js_set 12 sc__law_down.nd (je_op p_sub (jv_ix (je_var 6 (hv := .inl rfl)) (je_var 7 (hv := .inl rfl))) (jv_ix (jv_ix (je_var 11 (hv := .inl rfl)) je_int) je_int)))
    (jb_cons (js_set 8 sc__law_down.nd (je_op p_add (je_var 8 (hv := .inl rfl)) je_int))
    (jb_one (js_if (jw_t (jw_and (jt_cmp (p_eq hu) (je_var 12 (hv := .inl rfl)) je_int) (jw_and1 (jt_val (jv_ix (jv_ix (je_var 11 (hv := .inl rfl)) je_int) je_int))))) (jb_one (js_asg je_int (jg_sub (je_var 6 (hv := .inl rfl)) (je_var 7 (hv := .inl rfl))))) (jb_cons (js_asg (je_if (jt_cmp (p_gt) (je_var 12 (hv := .inl rfl)) je_int) (je_var 12 (hv := .inl rfl)) (je_var 9 (hv := .inl rfl))) (jg_sub (je_var 6 (hv := .inl rfl)) (je_var 7 (hv := .inl rfl))))
    (jb_one (js_if (jw_t (jw_or (jt_cmp (p_le) (je_var 12 (hv := .inl rfl)) je_int) (jw_or1 (jt_cmp (p_eq hu) (je_var 8 (hv := .inl rfl)) (je_var 4 (hv := .inl rfl)))))) (jb_cons (js_set 7 sc__law_down.nd (je_op p_mod (je_op p_add (je_var 7 (hv := .inl rfl)) je_int) (je_var 2 (hv := .inl rfl))))
    (jb_cons (js_set 8 sc__law_down.nd je_int)
    (jb_one (js_set 9 sc__law_down.nd (jv_ix (je_var 6 (hv := .inl rfl)) (je_var 7 (hv := .inl rfl))))))) jb_nil))))))))))
    (jb_one (js_ret (je_tup (ja_cons (je_callB p_len rfl T.f_len Boot.«len» (ja_cons (je_var 1 (hv := .inr (.inl rfl))) ja_nil)) (ja_cons (je_tup (ja_cons (je_callTy p_tupOf rfl T.f_tuple Boot.«tuple» (ja_cons (je_var 6 (hv := .inl rfl)) ja_nil)) (ja_cons (je_var 7 (hv := .inl rfl)) (ja_cons (je_var 8 (hv := .inl rfl)) (ja_cons (je_var 9 (hv := .inl rfl)) ja_nil))))) (ja_cons (je_if (jt_cmp (o_in) je_int (je_var 6 (hv := .inl rfl))) (je_tup (ja_cons (je_var 7 (hv := .inl rfl)) ja_nil)) je_non) ja_nil))))))))))))
def N__law_ball : List Str := ["_law_one", "_law_pins", "_law_frames", "_law_fell", "_law_done_here", "_law_ball_here", "_law_up", "_law_near", "_law_far", "_law_extra", "_law_total", "_law_earned"]
theorem sc__law_ball : FnScope N__law_ball ["_law_one", "_law_pins", "_law_frames", "_law_fell"] (defScope (top 66)) := ⟨rfl, rfl, rfl, by decide +kernel, rfl, by decide +kernel, by decide +kernel⟩
def t__law_ball (K : PySem.W.Frag) : RS :=
    (rSeq (rAsg (rVar 0) (gtD 7 (gsCons (gnD 4) (gsCons (gnD 5) (gsCons (gnD 6) (gsCons (gnD 7) (gsCons (gnD 8) (gsCons (gnD 9) (gsCons (gnD 10) gsNil)))))))))
    (rSeq (rSet 10 (rOp gAdd (rVar 10) (rOp gMul (rVar 3) (rOp gAdd (rVar 7) (rCB gInt (rCons (rOp GEq (rVar 9) (rC (.int 0))) rNil))))))
    (rSeq (rSet 6 (rOp gSub (rVar 6) (rVar 3)))
    (rSeq (rIfS (rB (rOp gGt (rVar 9) (rC (.int 0)))) (rSeq (rIfS (rB (rOp GEq (rVar 9) (rC (.int 1)))) (rRet (rTup (rCons (rTup (rCons (rOp gAdd (rVar 4) (rC (.int 1))) (rCons (rC (.int 0)) (rCons (rVar 1) (rCons (rVar 8) (rCons (rC (.int 0)) (rCons (rC (.int 0)) (rCons (rVar 10) rNil)))))))) (rCons (rC (.bl true)) rNil)))) rNext)
    (rRet (rTup (rCons (rTup (rCons (rVar 4) (rCons (rC (.int 0)) (rCons (rIfE (rB (rOp gGt (rVar 6) (rC (.int 0)))) (rVar 6) (rVar 1)) (rCons (rVar 8) (rCons (rC (.int 0)) (rCons (rOp gSub (rVar 9) (rC (.int 1))) (rCons (rVar 10) rNil)))))))) (rCons (rC (.bl false)) rNil))))) rNext)
    (rSeq (rIfS (rAnd (rB (rOp gGt (rVar 6) (rC (.int 0)))) (rB (rOp GEq (rVar 5) (rC (.int 0))))) (rRet (rTup (rCons (rTup (rCons (rVar 4) (rCons (rC (.int 1)) (rCons (rVar 6) (rCons (rVar 8) (rCons (rC (.int 0)) (rCons (rC (.int 0)) (rCons (rVar 10) rNil)))))))) (rCons (rC (.bl false)) rNil)))) rNext)
    (rSeq (rSet 11 (rC (.int 0)))
    (rSeq (rIfS (rB (rOp GEq (rVar 6) (rC (.int 0)))) (rSet 11 (rOp gSub (rC (.int 2)) (rVar 5))) rNext)
    (rSeq (rSet 7 (rOp gAdd (rVar 8) (rCB gInt (rCons (rOp gGt (rVar 11) (rC (.int 0))) rNil))))
    (rSeq (rSet 8 (rCB gInt (rCons (rOp GEq (rVar 11) (rC (.int 2))) rNil)))
    (rSeq (rIfS (rAnd (rB (rOp GEq (rOp gAdd (rVar 4) (rC (.int 1))) (rVar 2))) (rB (rOp gGt (rVar 11) (rC (.int 0))))) (rRet (rTup (rCons (rTup (rCons (rVar 4) (rCons (rC (.int 0)) (rCons (rVar 1) (rCons (rVar 7) (rCons (rVar 8) (rCons (rVar 11) (rCons (rVar 10) rNil)))))))) (rCons (rC (.bl false)) rNil)))) rNext)
    (rRet (rTup (rCons (rTup (rCons (rOp gAdd (rVar 4) (rC (.int 1))) (rCons (rC (.int 0)) (rCons (rVar 1) (rCons (rVar 7) (rCons (rVar 8) (rCons (rC (.int 0)) (rCons (rVar 10) rNil)))))))) (rCons (rC (.bl true)) rNil))))))))))))))
theorem w__law_ball {P : Program} {w : World} {K : PySem.W.Frag} {mg : Str → Option Value} {base : Heap} {f : Addr} {cdv : Value} {A : Around} {outer : List Env} {s : Shared} {H : Hp} {E : XK} (T : Tx K mg) (hu : (A.deeper (envOfC "_law_ball" (defScope (top 66)) s.heap.objs.size f cdv)).units + 64 < cLine)  :
    JB (cxOf CX0 P w K mg base N__law_ball "_law_ball" (defScope (top 66)) f cdv A outer s H E).nox (defBody (top 66)) (t__law_ball K ) :=
    (jb_cons (js_asg (je_var 0 (hv := .inl rfl)) (jg_tup rfl (jgs_cons (jg_name 4 sc__law_ball.nd) (jgs_cons (jg_name 5 sc__law_ball.nd) (jgs_cons (jg_name 6 sc__law_ball.nd) (jgs_cons (jg_name 7 sc__law_ball.nd) (jgs_cons (jg_name 8 sc__law_ball.nd) (jgs_cons (jg_name 9 sc__law_ball.nd) (jgs_cons (jg_name 10 sc__law_ball.nd) jgs_nil)))))))))
    (jb_cons (js_set 10 sc__law_ball.nd (je_op p_add (je_var 10 (hv := .inl rfl)) (je_op p_mul (je_var 3 (hv := .inl rfl)) (je_op p_add (je_var 7 (hv := .inl rfl)) (je_callTy p_int rfl T.f_int Boot.«int» (ja_cons (je_cmp (p_eq hu) (je_var 9 (hv := .inl rfl)) je_int) ja_nil))))))
    (jb_cons (js_set 6 sc__law_ball.nd (je_op p_sub (je_var 6 (hv := .inl rfl)) (je_var 3 (hv := .inl rfl))))
    (jb_cons (js_if (jt_cmp (p_gt) (je_var 9 (hv := .inl rfl)) je_int) (jb_cons (js_if (jt_cmp (p_eq hu) (je_var 9 (hv := .inl rfl)) je_int) (jb_one (js_ret (je_tup (ja_cons (je_tup (ja_cons (je_op p_add (je_var 4 (hv := .inl rfl)) je_int) (ja_cons je_int (ja_cons (je_var 1 (hv := .inl rfl)) (ja_cons (je_var 8 (hv := .inl rfl)) (ja_cons je_int (ja_cons je_int (ja_cons (je_var 10 (hv := .inl rfl)) ja_nil)))))))) (ja_cons je_bl ja_nil))))) jb_nil)
    (jb_one (js_ret (je_tup (ja_cons (je_tup (ja_cons (je_var 4 (hv := .inl rfl)) (ja_cons je_int (ja_cons (je_if (jt_cmp (p_gt) (je_var 6 (hv := .inl rfl)) je_int) (je_var 6 (hv := .inl rfl)) (je_var 1 (hv := .inl rfl))) (ja_cons (je_var 8 (hv := .inl rfl)) (ja_cons je_int (ja_cons (je_op p_sub (je_var 9 (hv := .inl rfl)) je_int) (ja_cons (je_var 10 (hv := .inl rfl)) ja_nil)))))))) (ja_cons je_bl ja_nil)))))) jb_nil)
    (jb_cons (js_if (jw_t (jw_and (jt_cmp (p_gt) (je_var 6 (hv := .inl rfl)) je_int) (jw_and1 (jt_cmp (p_eq hu) (je_var 5 (hv := .inl rfl)) je_int)))) (jb_one (js_ret (je_tup (ja_cons (je_tup (ja_cons (je_var 4 (hv := .inl rfl)) (ja_cons je_int (ja_cons (je_var 6 (hv := .inl rfl)) (ja_cons (je_var 8 (hv := .inl rfl)) (ja_cons je_int (ja_cons je_int (ja_cons (je_var 10 (hv := .inl rfl)) ja_nil)))))))) (ja_cons je_bl ja_nil))))) jb_nil)
    (jb_cons (js_set 11 sc__law_ball.nd je_int)
    (jb_cons (js_if (jt_cmp (p_eq hu) (je_var 6 (hv := .inl rfl)) je_int) (jb_one (js_set 11 sc__law_ball.nd (je_op p_sub je_int (je_var 5 (hv := .inl rfl))))) jb_nil)
    (jb_cons (js_set 7 sc__law_ball.nd (je_op p_add (je_var 8 (hv := .inl rfl)) (je_callTy p_int rfl T.f_int Boot.«int» (ja_cons (je_cmp (p_gt) (je_var 11 (hv := .inl rfl)) je_int) ja_nil))))
    (jb_cons (js_set 8 sc__law_ball.nd (je_callTy p_int rfl T.f_int Boot.«int» (ja_cons (je_cmp (p_eq hu) (je_var 11 (hv := .inl rfl)) je_int) ja_nil)))
    (jb_cons (js_if (jw_t (jw_and (jt_cmp (p_eq hu) (je_op p_add (je_var 4 (hv := .inl rfl)) je_int) (je_var 2 (hv := .inl rfl))) (jw_and1 (jt_cmp (p_gt) (je_var 11 (hv := .inl rfl)) je_int)))) (jb_one (js_ret (je_tup (ja_cons (je_tup (ja_cons (je_var 4 (hv := .inl rfl)) (ja_cons je_int (ja_cons (je_var 1 (hv := .inl rfl)) (ja_cons (je_var 7 (hv := .inl rfl)) (ja_cons (je_var 8 (hv := .inl rfl)) (ja_cons (je_var 11 (hv := .inl rfl)) (ja_cons (je_var 10 (hv := .inl rfl)) ja_nil)))))))) (ja_cons je_bl ja_nil))))) jb_nil)
    (jb_one (js_ret (je_tup (ja_cons (je_tup (ja_cons (je_op p_add (je_var 4 (hv := .inl rfl)) je_int) (ja_cons je_int (ja_cons (je_var 1 (hv := .inl rfl)) (ja_cons (je_var 7 (hv := .inl rfl)) (ja_cons (je_var 8 (hv := .inl rfl)) (ja_cons je_int (ja_cons (je_var 10 (hv := .inl rfl)) ja_nil)))))))) (ja_cons je_bl ja_nil)))))))))))))))
def N__law_lane : List Str := ["_law_lane_here", "_law_row", "_law_sides", "_law_pins", "_law_frames", "_law_rows", "_law_side", "_law_k", "_law_most", "_law_passes", "_law_one", "_law_j"]
theorem sc__law_lane : FnScope N__law_lane ["_law_lane_here", "_law_row"] (defScope (top 67)) := ⟨rfl, rfl, rfl, by decide +kernel, rfl, by decide +kernel, by decide +kernel⟩
def t__law_lane (K : PySem.W.Frag) (s__law_whole : DSp) (s__law_ball : DSp) : RS :=
    (rSeq (rAsg (rVar 0) (gtD 3 (gsCons (gnD 2) (gsCons (gnD 3) (gsCons (gnD 4) gsNil)))))
    (rSeq (rSet 5 (rOp gMul (rLst (rCons (rTup (rCons (rC (.int 0)) (rCons (rC (.int 0)) (rCons (rVar 3) (rCons (rC (.int 0)) (rCons (rC (.int 0)) (rCons (rC (.int 0)) (rCons (rC (.int 0)) rNil)))))))) rNil)) (rVar 2)))
    (rSeq (rSet 6 (rC (.int 0)))
    (rSeq (rForR (rOp gAdd (rCB gLen (rCons (rVar 1) rNil)) (rC (.int 1))) (gnD 7)
    (rSeq (rIfS (rB (rOp GEq (rCB fMinL (rCons (rLc (rItL (rVar 5)) 10 (rOp gIx (rVar 10) (rC (.int 0)))) rNil)) (rVar 4))) (rSeq (rSet 8 (rCB fMaxL (rCons (rLc (rItL (rVar 5)) 10 (rOp gIx (rVar 10) (rC (.int 6)))) rNil)))
    (rRet (rTup (rCons (rVar 7) (rCons (rTup (rCons (rCB gTupOf (rCons (rVar 5) rNil)) (rCons (rVar 6) rNil))) (rCons (rCB gTupOf (rCons (rLcT (rItR (rVar 2)) 11 (rB (rOp GEq (rOp gIx (rOp gIx (rVar 5) (rVar 11)) (rC (.int 6))) (rVar 8))) (rVar 11)) rNil)) rNil)))))) rNext)
    (rSeq (rIfS (rOr (rB (rOp GEq (rVar 7) (rCB gLen (rCons (rVar 1) rNil)))) (rOr (rNot (rB (rCall .no s__law_whole (rCons (rOp gIx (rVar 1) (rVar 7)) rNil)))) (rOr (rB (rOp gLt (rOp gIx (rVar 1) (rVar 7)) (rC (.int 0)))) (rB (rOp gGt (rOp gIx (rVar 1) (rVar 7)) (rOp gIx (rOp gIx (rVar 5) (rVar 6)) (rC (.int 2)))))))) (rRet (rTup (rCons (rVar 7) (rCons (rTup (rCons (rCB gTupOf (rCons (rVar 5) rNil)) (rCons (rVar 6) rNil))) (rCons (rC .non) rNil))))) rNext)
    (rSeq (rAsg (rCall .no s__law_ball (rCons (rOp gIx (rVar 5) (rVar 6)) (rCons (rVar 3) (rCons (rVar 4) (rCons (rOp gIx (rVar 1) (rVar 7)) rNil))))) (gtD 2 (gsCons (gbD (rVar 5) (rVar 6)) (gsCons (gnD 9) gsNil))))
    (rSet 6 (rOp gMod (rOp gAdd (rVar 6) (rCB gInt (rCons (rVar 9) rNil))) (rVar 2)))))))
    (rRet (rTup (rCons (rCB gLen (rCons (rVar 1) rNil)) (rCons (rTup (rCons (rCB gTupOf (rCons (rVar 5) rNil)) (rCons (rVar 6) rNil))) (rCons (rC .non) rNil)))))))))
theorem w__law_lane {P : Program} {w : World} {K : PySem.W.Frag} {mg : Str → Option Value} {base : Heap} {f : Addr} {cdv : Value} {A : Around} {outer : List Env} {s : Shared} {H : Hp} {E : XK} {s__law_whole : DSp} {s__law_ball : DSp} (T : Tx K mg) (hu : (A.deeper (envOfC "_law_lane" (defScope (top 67)) s.heap.objs.size f cdv)).units + 64 < cLine) {k__law_whole : Nat} (F__law_whole : Ok P w K mg base .no k__law_whole "_law_whole" ["_law_thing"] s__law_whole) (r__law_whole : Room k__law_whole (A.deeper (envOfC "_law_lane" (defScope (top 67)) s.heap.objs.size f cdv))) {k__law_ball : Nat} (F__law_ball : Ok P w K mg base .no k__law_ball "_law_ball" ["_law_one", "_law_pins", "_law_frames", "_law_fell"] s__law_ball) (r__law_ball : Room k__law_ball (A.deeper (envOfC "_law_lane" (defScope (top 67)) s.heap.objs.size f cdv))) :
    JB (cxOf CX0 P w K mg base N__law_lane "_law_lane" (defScope (top 67)) f cdv A outer s H E).nox (defBody (top 67)) (t__law_lane K s__law_whole s__law_ball) :=
    (jb_cons (js_asg (je_var 0 (hv := .inl rfl)) (jg_tup rfl (jgs_cons (jg_name 2 sc__law_lane.nd) (jgs_cons (jg_name 3 sc__law_lane.nd) (jgs_cons (jg_name 4 sc__law_lane.nd) jgs_nil)))))
    (jb_cons (js_set 5 sc__law_lane.nd (je_op p_mul (je_lst (ja_cons (je_tup (ja_cons je_int (ja_cons je_int (ja_cons (je_var 3 (hv := .inl rfl)) (ja_cons je_int (ja_cons je_int (ja_cons je_int (ja_cons je_int ja_nil)))))))) ja_nil)) (je_var 2 (hv := .inl rfl))) (hx := .inr rfl) (hf := .inl rfl))
    (jb_cons (js_set 6 sc__law_lane.nd je_int)
    (jb_cons (js_forR PassesOwn.never rfl rfl T.f_range (je_op p_add (je_callB p_len rfl T.f_len Boot.«len» (ja_cons (je_var 1 (hv := .inl rfl)) ja_nil)) je_int) (jg_name 7 sc__law_lane.nd)
    (jb_cons (js_if (jt_cmp (p_eq hu) (je_callB (o_minL rfl) rfl T.f_min Boot.«min» (ja_cons (je_lc 10 rfl sc__law_lane.nd (blk_ok (N := N__law_lane) (sc := defScope (top 67)) (by decide +kernel)) (ji_lst (je_var 5 (hv := .inr (.inl rfl)))) (fun _ _ _ _ _ => (jv_ix (je_var 10 (hv := .inl rfl)) je_int)) (fun _ _ _ _ _ => pg_name sc__law_lane.nd rfl (.inl rfl) (.inr rfl))) ja_nil)) (je_var 4 (hv := .inl rfl))) (jb_cons (js_set 8 sc__law_lane.nd (je_callB (o_maxL rfl) rfl T.f_max Boot.«max» (ja_cons (je_lc 10 rfl sc__law_lane.nd (blk_ok (N := N__law_lane) (sc := defScope (top 67)) (by decide +kernel)) (ji_lst (je_var 5 (hv := .inr (.inl rfl)))) (fun _ _ _ _ _ => (jv_ix (je_var 10 (hv := .inl rfl)) je_int)) (fun _ _ _ _ _ => pg_name sc__law_lane.nd rfl (.inl rfl) (.inr rfl))) ja_nil)) (hx := .inr rfl) (hf := .inl rfl))
    (jb_one (js_ret (je_tup (ja_cons (je_var 7 (hv := .inl rfl)) (ja_cons (je_tup (ja_cons (je_callTy p_tupOf rfl T.f_tuple Boot.«tuple» (ja_cons (je_var 5 (hv := .inr (.inl rfl))) ja_nil)) (ja_cons (je_var 6 (hv := .inl rfl)) ja_nil))) (ja_cons (je_callTy p_tupOf rfl T.f_tuple Boot.«tuple» (ja_cons (je_lcT 11 rfl sc__law_lane.nd (blk_ok (N := N__law_lane) (sc := defScope (top 67)) (by decide +kernel)) (ji_rng rfl T.f_range (je_var 2 (hv := .inl rfl))) (fun _ _ _ _ _ => (jt_cmp (p_eq hu) (jv_ix (jv_ix (je_var 5 (hv := .inr (.inl rfl))) (je_var 11 (hv := .inl rfl))) je_int) (je_var 8 (hv := .inr (.inl rfl))))) (fun _ _ _ _ _ => (je_var 11 (hv := .inl rfl))) (fun _ _ _ _ _ => pg_name sc__law_lane.nd rfl (.inl rfl) (.inr rfl))) ja_nil)) ja_nil))))))) jb_nil)
    (jb_cons (js_if (jw_t (jw_or (jt_cmp (p_eq hu) (je_var 7 (hv := .inl rfl)) (je_callB p_len rfl T.f_len Boot.«len» (ja_cons (je_var 1 (hv := .inl rfl)) ja_nil))) (jw_or (jt_not (jt_val (je_call F__law_whole r__law_whole (ja_cons (jv_ix (je_var 1 (hv := .inl rfl)) (je_var 7 (hv := .inl rfl))) ja_nil)))) (jw_or (jt_cmp (p_lt) (jv_ix (je_var 1 (hv := .inl rfl)) (je_var 7 (hv := .inl rfl))) je_int) (jw_or1 (jt_cmp (p_gt) (jv_ix (je_var 1 (hv := .inl rfl)) (je_var 7 (hv := .inl rfl))) (jv_ix (jv_ix (je_var 5 (hv := .inr (.inl rfl))) (je_var 6 (hv := .inl rfl))) je_int))))))) (jb_one (js_ret (je_tup (ja_cons (je_var 7 (hv := .inl rfl)) (ja_cons (je_tup (ja_cons (je_callTy p_tupOf rfl T.f_tuple Boot.«tuple» (ja_cons (je_var 5 (hv := .inr (.inl rfl))) ja_nil)) (ja_cons (je_var 6 (hv := .inl rfl)) ja_nil))) (ja_cons je_non ja_nil)))))) jb_nil)
    (jb_cons (js_asg (je_call F__law_ball r__law_ball (ja_cons (jv_ix (je_var 5 (hv := .inr (.inl rfl))) (je_var 6 (hv := .inl rfl))) (ja_cons (je_var 3 (hv := .inl rfl)) (ja_cons (je_var 4 (hv := .inl rfl)) (ja_cons (jv_ix (je_var 1 (hv := .inl rfl)) (je_var 7 (hv := .inl rfl))) ja_nil))))) (jg_tup rfl (jgs_cons (jg_sub (je_var 5 (hv := .inr (.inl rfl))) (je_var 6 (hv := .inl rfl))) (jgs_cons (jg_name 9 sc__law_lane.nd) jgs_nil))))
    (jb_one (js_set 6 sc__law_lane.nd (je_op p_mod (je_op p_add (je_var 6 (hv := .inl rfl)) (je_callTy p_int rfl T.f_int Boot.«int» (ja_cons (je_var 9 (hv := .inl rfl)) ja_nil))) (je_var 2 (hv := .inl rfl)))))))))
    (jb_one (js_ret (je_tup (ja_cons (je_callB p_len rfl T.f_len Boot.«len» (ja_cons (je_var 1 (hv := .inl rfl)) ja_nil)) (ja_cons (je_tup (ja_cons (je_callTy p_tupOf rfl T.f_tuple Boot.«tuple» (ja_cons (je_var 5 (hv := .inr (.inl rfl))) ja_nil)) (ja_cons (je_var 6 (hv := .inl rfl)) ja_nil))) (ja_cons je_non ja_nil))))))))))
def N__law_whole : List Str := ["_law_thing"]
theorem sc__law_whole : FnScope N__law_whole ["_law_thing"] (defScope (top 68)) := ⟨rfl, rfl, rfl, by decide +kernel, rfl, by decide +kernel, by decide +kernel⟩
def t__law_whole (K : PySem.W.Frag) : RS :=
    (rRet (rAndV (rUn (gIsa .int) (rVar 0)) (rNotV (rUn (gIsa .bl) (rVar 0)))))
theorem w__law_whole {P : Program} {w : World} {K : PySem.W.Frag} {mg : Str → Option Value} {base : Heap} {f : Addr} {cdv : Value} {A : Around} {outer : List Env} {s : Shared} {H : Hp} {E : XK} (T : Tx K mg) (hu : (A.deeper (envOfC "_law_whole" (defScope (top 68)) s.heap.objs.size f cdv)).units + 64 < cLine)  :
    JB (cxOf CX0 P w K mg base N__law_whole "_law_whole" (defScope (top 68)) f cdv A outer s H E).nox (defBody (top 68)) (t__law_whole K ) :=
    (jb_one (js_ret (je_and (jv_isa .int (by decide) rfl T.f_isinstance rfl T.f_int Boot.«int» (je_var 0 (hv := .inl rfl))) (je_one (je_not (jv_isa .bl (by decide) rfl T.f_isinstance rfl T.f_bool Boot.«bool» (je_var 0 (hv := .inl rfl))))))))
def N__law_rally : List Str := ["_law_rule_here", "_law_row", "_law_good", "_law_winner", "_law_stand", "_law_at"]
theorem sc__law_rally : FnScope N__law_rally ["_law_rule_here", "_law_row"] (defScope (top 69)) := ⟨rfl, rfl, rfl, by decide +kernel, rfl, by decide +kernel, by decide +kernel⟩
def t__law_rally (K : PySem.W.Frag) (s__law_whole : DSp) (s__law_played : DSp) : RS :=
    (rSeq (rSet 2 (rC (.int 0)))
    (rSeq (rWhile (rAnd (rB (rOp gLt (rVar 2) (rCB gLen (rCons (rVar 1) rNil)))) (rAnd (rB (rCall .no s__law_whole (rCons (rOp gIx (rVar 1) (rVar 2)) rNil))) (rB (rOp (fIn false) (rOp gIx (rVar 1) (rVar 2)) (rTup (rCons (rC (.int 0)) (rCons (rC (.int 1)) rNil))))))) (rSet 2 (rOp gAdd (rVar 2) (rC (.int 1)))))
    (rSeq (rAsg (rCall .no s__law_played (rCons (rVar 0) (rCons (rSlD (rVar 1) rNoPart (rPart (rVar 2))) (rCons (rC (.int 0)) (rCons (rLst rNil) rNil))))) (gtD 3 (gsCons (gnD 3) (gsCons (gnD 4) (gsCons (gnD 5) gsNil)))))
    (rRet (rTup (rCons (rVar 5) (rCons (rVar 4) (rCons (rIfE (rB (rOp gIsNot (rVar 3) (rC .non))) (rTup (rCons (rVar 3) rNil)) (rC .non)) rNil))))))))
theorem w__law_rally {P : Program} {w : World} {K : PySem.W.Frag} {mg : Str → Option Value} {base : Heap} {f : Addr} {cdv : Value} {A : Around} {outer : List Env} {s : Shared} {H : Hp} {E : XK} {s__law_whole : DSp} {s__law_played : DSp} (T : Tx K mg) (hu : (A.deeper (envOfC "_law_rally" (defScope (top 69)) s.heap.objs.size f cdv)).units + 64 < cLine) {k__law_whole : Nat} (F__law_whole : Ok P w K mg base .no k__law_whole "_law_whole" ["_law_thing"] s__law_whole) (r__law_whole : Room k__law_whole (A.deeper (envOfC "_law_rally" (defScope (top 69)) s.heap.objs.size f cdv))) {k__law_played : Nat} (F__law_played : Ok P w K mg base .no k__law_played "_law_played" ["_law_rule_here", "_law_row", "_law_at", "_law_ends"] s__law_played) (r__law_played : Room k__law_played (A.deeper (envOfC "_law_rally" (defScope (top 69)) s.heap.objs.size f cdv))) :
    JB (cxOf CX0 P w K mg base N__law_rally "_law_rally" (defScope (top 69)) f cdv A outer s H E).nox (defBody (top 69)) (t__law_rally K s__law_whole s__law_played) :=
    (jb_cons (js_set 2 sc__law_rally.nd je_int)
    (jb_cons (js_while PassesOwn.never (jw_t (jw_and (jt_cmp (p_lt) (je_var 2 (hv := .inl rfl)) (je_callB p_len rfl T.f_len Boot.«len» (ja_cons (je_var 1 (hv := .inl rfl)) ja_nil))) (jw_and (jt_val (je_call F__law_whole r__law_whole (ja_cons (jv_ix (je_var 1 (hv := .inl rfl)) (je_var 2 (hv := .inl rfl))) ja_nil))) (jw_and1 (jt_cmp (o_in) (jv_ix (je_var 1 (hv := .inl rfl)) (je_var 2 (hv := .inl rfl))) (je_tup (ja_cons je_int (ja_cons je_int ja_nil)))))))) (jb_one (js_set 2 sc__law_rally.nd (je_op p_add (je_var 2 (hv := .inl rfl)) je_int))))
    (jb_cons (js_asg (je_call F__law_played r__law_played (ja_cons (je_var 0 (hv := .inl rfl)) (ja_cons (je_slice (je_var 1 (hv := .inl rfl)) jo_none (jo_some (je_var 2 (hv := .inl rfl)))) (ja_cons je_int (ja_cons (je_lst ja_nil) ja_nil))))) (jg_tup rfl (jgs_cons (jg_name 3 sc__law_rally.nd) (jgs_cons (jg_name 4 sc__law_rally.nd) (jgs_cons (jg_name 5 sc__law_rally.nd) jgs_nil)))))
    (jb_one (js_ret (je_tup (ja_cons (je_var 5 (hv := .inl rfl)) (ja_cons (je_var 4 (hv := .inl rfl)) (ja_cons (je_if (jt_cmp (p_isnot) (je_var 3 (hv := .inl rfl)) je_non) (je_tup (ja_cons (je_var 3 (hv := .inl rfl)) ja_nil)) je_non) ja_nil)))))))))
def N__law_read : List Str := ["_law_game_here", "_law_row"]
theorem sc__law_read : FnScope N__law_read ["_law_game_here", "_law_row"] (defScope (top 70)) := ⟨rfl, rfl, rfl, by decide +kernel, rfl, by decide +kernel, by decide +kernel⟩
def t__law_read (K : PySem.W.Frag) (s__law_rally : DSp) (s__law_down : DSp) (s__law_lane : DSp) : RS :=
    (rSeq (rIfS (rB (rOp GEq (rOp gIx (rVar 0) (rC (.int 0))) (rC (.str "rally")))) (rRet (rCall .no s__law_rally (rCons (rOp gIx (rVar 0) (rC (.int 1))) (rCons (rVar 1) rNil)))) rNext)
    (rSeq (rIfS (rB (rOp GEq (rOp gIx (rVar 0) (rC (.int 0))) (rC (.str "down")))) (rRet (rCall .no s__law_down (rCons (rOp gIx (rVar 0) (rC (.int 1))) (rCons (rVar 1) rNil)))) rNext)
    (rRet (rCall .no s__law_lane (rCons (rOp gIx (rVar 0) (rC (.int 1))) (rCons (rVar 1) rNil))))))
theorem w__law_read {P : Program} {w : World} {K : PySem.W.Frag} {mg : Str → Option Value} {base : Heap} {f : Addr} {cdv : Value} {A : Around} {outer : List Env} {s : Shared} {H : Hp} {E : XK} {s__law_rally : DSp} {s__law_down : DSp} {s__law_lane : DSp} (T : Tx K mg) (hu : (A.deeper (envOfC "_law_read" (defScope (top 70)) s.heap.objs.size f cdv)).units + 64 < cLine) {k__law_rally : Nat} (F__law_rally : Ok P w K mg base .no k__law_rally "_law_rally" ["_law_rule_here", "_law_row"] s__law_rally) (r__law_rally : Room k__law_rally (A.deeper (envOfC "_law_read" (defScope (top 70)) s.heap.objs.size f cdv))) {k__law_down : Nat} (F__law_down : Ok P w K mg base .no k__law_down "_law_down" ["_law_down_here", "_law_row"] s__law_down) (r__law_down : Room k__law_down (A.deeper (envOfC "_law_read" (defScope (top 70)) s.heap.objs.size f cdv))) {k__law_lane : Nat} (F__law_lane : Ok P w K mg base .no k__law_lane "_law_lane" ["_law_lane_here", "_law_row"] s__law_lane) (r__law_lane : Room k__law_lane (A.deeper (envOfC "_law_read" (defScope (top 70)) s.heap.objs.size f cdv))) :
    JB (cxOf CX0 P w K mg base N__law_read "_law_read" (defScope (top 70)) f cdv A outer s H E).nox (defBody (top 70)) (t__law_read K s__law_rally s__law_down s__law_lane) :=
    (jb_cons (js_if (jt_cmp (p_eq hu) (jv_ix (je_var 0 (hv := .inl rfl)) je_int) je_str) (jb_one (js_ret (je_call F__law_rally r__law_rally (ja_cons (jv_ix (je_var 0 (hv := .inl rfl)) je_int) (ja_cons (je_var 1 (hv := .inl rfl)) ja_nil))))) jb_nil)
    (jb_cons (js_if (jt_cmp (p_eq hu) (jv_ix (je_var 0 (hv := .inl rfl)) je_int) je_str) (jb_one (js_ret (je_call F__law_down r__law_down (ja_cons (jv_ix (je_var 0 (hv := .inl rfl)) je_int) (ja_cons (je_var 1 (hv := .inl rfl)) ja_nil))))) jb_nil)
    (jb_one (js_ret (je_call F__law_lane r__law_lane (ja_cons (jv_ix (je_var 0 (hv := .inl rfl)) je_int) (ja_cons (je_var 1 (hv := .inl rfl)) ja_nil)))))))
def N__law_game : List Str := ["_law_tape_here", "_law_great", "_law_kind", "_law_pins"]
theorem sc__law_game : FnScope N__law_game ["_law_tape_here", "_law_great"] (defScope (top 71)) := ⟨rfl, rfl, rfl, by decide +kernel, rfl, by decide +kernel, by decide +kernel⟩
def t__law_game (K : PySem.W.Frag) (s__law_draw : DSp) (s__law_any_rule : DSp) (s__law_a_down : DSp) : RS :=
    (rSeq (rSet 2 (rCall .no s__law_draw (rCons (rVar 0) (rCons (rC (.int 3)) rNil))))
    (rSeq (rIfS (rB (rOp GEq (rVar 2) (rC (.int 0)))) (rRet (rTup (rCons (rC (.str "rally")) (rCons (rCall .no s__law_any_rule (rCons (rVar 0) rNil)) rNil)))) rNext)
    (rSeq (rIfS (rB (rOp GEq (rVar 2) (rC (.int 1)))) (rRet (rTup (rCons (rC (.str "down")) (rCons (rCall .no s__law_a_down (rCons (rVar 0) (rCons (rVar 1) rNil))) rNil)))) rNext)
    (rSeq (rSet 3 (rOp gAdd (rC (.int 1)) (rCall .no s__law_draw (rCons (rVar 0) (rCons (rOp gIx (rLst (rCons (rC (.int 3)) (rCons (rC (.int 10)) (rCons (rC (.int 20)) rNil)))) (rCall .no s__law_draw (rCons (rVar 0) (rCons (rC (.int 3)) rNil)))) rNil)))))
    (rRet (rTup (rCons (rC (.str "lane")) (rCons (rTup (rCons (rOp gAdd (rC (.int 1)) (rCall .no s__law_draw (rCons (rVar 0) (rCons (rC (.int 3)) rNil)))) (rCons (rVar 3) (rCons (rOp gAdd (rC (.int 1)) (rCall .no s__law_draw (rCons (rVar 0) (rCons (rOp gIx (rLst (rCons (rC (.int 2)) (rCons (rC (.int 4)) (rCons (rC (.int 12)) rNil)))) (rCall .no s__law_draw (rCons (rVar 0) (rCons (rC (.int 3)) rNil)))) rNil)))) rNil)))) rNil))))))))
theorem w__law_game {P : Program} {w : World} {K : PySem.W.Frag} {mg : Str → Option Value} {base : Heap} {f : Addr} {cdv : Value} {A : Around} {outer : List Env} {s : Shared} {H : Hp} {E : XK} {s__law_draw : DSp} {s__law_any_rule : DSp} {s__law_a_down : DSp} (T : Tx K mg) (hu : (A.deeper (envOfC "_law_game" (defScope (top 71)) s.heap.objs.size f cdv)).units + 64 < cLine) {k__law_draw : Nat} (F__law_draw : Ok P w K mg base .no k__law_draw "_law_draw" ["_law_tape_here", "_law_many"] s__law_draw) (r__law_draw : Room k__law_draw (A.deeper (envOfC "_law_game" (defScope (top 71)) s.heap.objs.size f cdv))) {k__law_any_rule : Nat} (F__law_any_rule : Ok P w K mg base .no k__law_any_rule "_law_any_rule" ["_law_tape_here"] s__law_any_rule) (r__law_any_rule : Room k__law_any_rule (A.deeper (envOfC "_law_game" (defScope (top 71)) s.heap.objs.size f cdv))) {k__law_a_down : Nat} (F__law_a_down : Ok P w K mg base .no k__law_a_down "_law_a_down" ["_law_tape_here", "_law_great"] s__law_a_down) (r__law_a_down : Room k__law_a_down (A.deeper (envOfC "_law_game" (defScope (top 71)) s.heap.objs.size f cdv))) :
    JB (cxOf CX0 P w K mg base N__law_game "_law_game" (defScope (top 71)) f cdv A outer s H E).nox (defBody (top 71)) (t__law_game K s__law_draw s__law_any_rule s__law_a_down) :=
    (jb_cons (js_set 2 sc__law_game.nd (je_call F__law_draw r__law_draw (ja_cons (je_var 0 (hv := .inl rfl)) (ja_cons je_int ja_nil))))
    (jb_cons (js_if (jt_cmp (p_eq hu) (je_var 2 (hv := .inl rfl)) je_int) (jb_one (js_ret (je_tup (ja_cons je_str (ja_cons (je_call F__law_any_rule r__law_any_rule (ja_cons (je_var 0 (hv := .inl rfl)) ja_nil)) ja_nil))))) jb_nil)
    (jb_cons (js_if (jt_cmp (p_eq hu) (je_var 2 (hv := .inl rfl)) je_int) (jb_one (js_ret (je_tup (ja_cons je_str (ja_cons (je_call F__law_a_down r__law_a_down (ja_cons (je_var 0 (hv := .inl rfl)) (ja_cons (je_var 1 (hv := .inl rfl)) ja_nil))) ja_nil))))) jb_nil)
    (jb_cons (js_set 3 sc__law_game.nd (je_op p_add je_int (je_call F__law_draw r__law_draw (ja_cons (je_var 0 (hv := .inl rfl)) (ja_cons (jv_ix (je_lst (ja_cons je_int (ja_cons je_int (ja_cons je_int ja_nil)))) (je_call F__law_draw r__law_draw (ja_cons (je_var 0 (hv := .inl rfl)) (ja_cons je_int ja_nil)))) ja_nil)))))
    (jb_one (js_ret (je_tup (ja_cons je_str (ja_cons (je_tup (ja_cons (je_op p_add je_int (je_call F__law_draw r__law_draw (ja_cons (je_var 0 (hv := .inl rfl)) (ja_cons je_int ja_nil)))) (ja_cons (je_var 3 (hv := .inl rfl)) (ja_cons (je_op p_add je_int (je_call F__law_draw r__law_draw (ja_cons (je_var 0 (hv := .inl rfl)) (ja_cons (jv_ix (je_lst (ja_cons je_int (ja_cons je_int (ja_cons je_int ja_nil)))) (je_call F__law_draw r__law_draw (ja_cons (je_var 0 (hv := .inl rfl)) (ja_cons je_int ja_nil)))) ja_nil)))) ja_nil)))) ja_nil)))))))))
def N__law_deed : List Str := ["_law_tape_here", "_law_game_here", "_law_stand", "_law_up"]
theorem sc__law_deed : FnScope N__law_deed ["_law_tape_here", "_law_game_here", "_law_stand"] (defScope (top 72)) := ⟨rfl, rfl, rfl, by decide +kernel, rfl, by decide +kernel, by decide +kernel⟩
def t__law_deed (K : PySem.W.Frag) (s__law_draw : DSp) : RS :=
    (rSeq (rIfS (rB (rOp GEq (rOp gIx (rVar 1) (rC (.int 0))) (rC (.str "rally")))) (rRet (rCall .no s__law_draw (rCons (rVar 0) (rCons (rC (.int 2)) rNil)))) rNext)
    (rSeq (rIfS (rB (rOp GEq (rOp gIx (rVar 1) (rC (.int 0))) (rC (.str "down")))) (rRet (rOp gIx (rOp gIx (rOp gIx (rOp gIx (rVar 1) (rC (.int 1))) (rC (.int 3))) (rCall .no s__law_draw (rCons (rVar 0) (rCons (rCB gLen (rCons (rOp gIx (rOp gIx (rVar 1) (rC (.int 1))) (rC (.int 3))) rNil)) rNil)))) (rC (.int 0)))) rNext)
    (rSeq (rSet 3 (rOp gIx (rOp gIx (rOp gIx (rVar 2) (rC (.int 0))) (rOp gIx (rVar 2) (rC (.int 1)))) (rC (.int 2))))
    (rRet (rOp gIx (rLst (rCons (rVar 3) (rCons (rCall .no s__law_draw (rCons (rVar 0) (rCons (rOp gAdd (rVar 3) (rC (.int 1))) rNil))) (rCons (rVar 3) (rCons (rCB gMax2 (rCons (rC (.int 0)) (rCons (rOp gSub (rVar 3) (rC (.int 1))) rNil))) rNil))))) (rCall .no s__law_draw (rCons (rVar 0) (rCons (rC (.int 4)) rNil))))))))
theorem w__law_deed {P : Program} {w : World} {K : PySem.W.Frag} {mg : Str → Option Value} {base : Heap} {f : Addr} {cdv : Value} {A : Around} {outer : List Env} {s : Shared} {H : Hp} {E : XK} {s__law_draw : DSp} (T : Tx K mg) (hu : (A.deeper (envOfC "_law_deed" (defScope (top 72)) s.heap.objs.size f cdv)).units + 64 < cLine) {k__law_draw : Nat} (F__law_draw : Ok P w K mg base .no k__law_draw "_law_draw" ["_law_tape_here", "_law_many"] s__law_draw) (r__law_draw : Room k__law_draw (A.deeper (envOfC "_law_deed" (defScope (top 72)) s.heap.objs.size f cdv))) :
    JB (cxOf CX0 P w K mg base N__law_deed "_law_deed" (defScope (top 72)) f cdv A outer s H E).nox (defBody (top 72)) (t__law_deed K s__law_draw) :=
    (jb_cons (js_if (jt_cmp (p_eq hu) (jv_ix (je_var 1 (hv := .inl rfl)) je_int) je_str) (jb_one (js_ret (je_call F__law_draw r__law_draw (ja_cons (je_var 0 (hv := .inl rfl)) (ja_cons je_int ja_nil))))) jb_nil)
    (jb_cons (js_if (jt_cmp (p_eq hu) (jv_ix (je_var 1 (hv := .inl rfl)) je_int) je_str) (jb_one (js_ret (jv_ix (jv_ix (jv_ix (jv_ix (je_var 1 (hv := .inl rfl)) je_int) je_int) (je_call F__law_draw r__law_draw (ja_cons (je_var 0 (hv := .inl rfl)) (ja_cons (je_callB p_len rfl T.f_len Boot.«len» (ja_cons (jv_ix (jv_ix (je_var 1 (hv := .inl rfl)) je_int) je_int) ja_nil)) ja_nil)))) je_int))) jb_nil)
    (jb_cons (js_set 3 sc__law_deed.nd (jv_ix (jv_ix (jv_ix (je_var 2 (hv := .inl rfl)) je_int) (jv_ix (je_var 2 (hv := .inl rfl)) je_int)) je_int))
    (jb_one (js_ret (jv_ix (je_lst (ja_cons (je_var 3 (hv := .inl rfl)) (ja_cons (je_call F__law_draw r__law_draw (ja_cons (je_var 0 (hv := .inl rfl)) (ja_cons (je_op p_add (je_var 3 (hv := .inl rfl)) je_int) ja_nil))) (ja_cons (je_var 3 (hv := .inl rfl)) (ja_cons (je_callB (p_max2 rfl) rfl T.f_max Boot.«max» (ja_cons je_int (ja_cons (je_op p_sub (je_var 3 (hv := .inl rfl)) je_int) ja_nil))) ja_nil))))) (je_call F__law_draw r__law_draw (ja_cons (je_var 0 (hv := .inl rfl)) (ja_cons je_int ja_nil)))))))))
def N__law_run : List Str := ["_law_tape_here", "_law_game_here", "_law_most", "_law_row", "_law_side", "_law_k", "_law_good", "_law_stand", "_law_winners", "_law_deed_here"]
theorem sc__law_run : FnScope N__law_run ["_law_tape_here", "_law_game_here", "_law_most"] (defScope (top 73)) := ⟨rfl, rfl, rfl, by decide +kernel, rfl, by decide +kernel, by decide +kernel⟩
def t__law_run (K : PySem.W.Frag) (s__law_draw : DSp) (s__law_read : DSp) (s__law_deed : DSp) : RS :=
    (rSeq (rSet 3 (rLst rNil))
    (rSeq (rSet 4 (rCall .no s__law_draw (rCons (rVar 0) (rCons (rC (.int 3)) rNil))))
    (rSeq (rForR (rVar 2) (gnD 5)
    (rSeq (rAsg (rCall .no s__law_read (rCons (rVar 1) (rCons (rVar 3) rNil))) (gtD 3 (gsCons (gnD 6) (gsCons (gnD 7) (gsCons (gnD 8) gsNil)))))
    (rSeq (rIfS (rB (rOp gIsNot (rVar 8) (rC .non))) (rRet (rVar 3)) rNext)
    (rSeq (rSet 9 (rCall .no s__law_deed (rCons (rVar 0) (rCons (rVar 1) (rCons (rVar 7) rNil)))))
    (rSeq (rIfS (rAnd (rB (rOp GEq (rOp gIx (rVar 1) (rC (.int 0))) (rC (.str "rally")))) (rAnd (rB (rOp gLt (rVar 4) (rC (.int 2)))) (rB (rOp gGt (rCall .no s__law_draw (rCons (rVar 0) (rCons (rC (.int 3)) rNil))) (rC (.int 0)))))) (rSet 9 (rVar 4)) rNext)
    (rDrop (rBM "list" fAppend (rVar 3) (rCons (rVar 9) rNil))))))))
    (rRet (rVar 3)))))
theorem w__law_run {P : Program} {w : World} {K : PySem.W.Frag} {mg : Str → Option Value} {base : Heap} {f : Addr} {cdv : Value} {A : Around} {outer : List Env} {s : Shared} {H : Hp} {E : XK} {s__law_draw : DSp} {s__law_read : DSp} {s__law_deed : DSp} (T : Tx K mg) (hu : (A.deeper (envOfC "_law_run" (defScope (top 73)) s.heap.objs.size f cdv)).units + 64 < cLine) {k__law_draw : Nat} (F__law_draw : Ok P w K mg base .no k__law_draw "_law_draw" ["_law_tape_here", "_law_many"] s__law_draw) (r__law_draw : Room k__law_draw (A.deeper (envOfC "_law_run" (defScope (top 73)) s.heap.objs.size f cdv))) {k__law_read : Nat} (F__law_read : Ok P w K mg base .no k__law_read "_law_read" ["_law_game_here", "_law_row"] s__law_read) (r__law_read : Room k__law_read (A.deeper (envOfC "_law_run" (defScope (top 73)) s.heap.objs.size f cdv))) {k__law_deed : Nat} (F__law_deed : Ok P w K mg base .no k__law_deed "_law_deed" ["_law_tape_here", "_law_game_here", "_law_stand"] s__law_deed) (r__law_deed : Room k__law_deed (A.deeper (envOfC "_law_run" (defScope (top 73)) s.heap.objs.size f cdv))) :
    JB (cxOf CX0 P w K mg base N__law_run "_law_run" (defScope (top 73)) f cdv A outer s H E).nox (defBody (top 73)) (t__law_run K s__law_draw s__law_read s__law_deed) :=
    (jb_cons (js_set 3 sc__law_run.nd (je_lst ja_nil))
    (jb_cons (js_set 4 sc__law_run.nd (je_call F__law_draw r__law_draw (ja_cons (je_var 0 (hv := .inl rfl)) (ja_cons je_int ja_nil))))
    (jb_cons (js_forR PassesOwn.never rfl rfl T.f_range (je_var 2 (hv := .inl rfl)) (jg_name 5 sc__law_run.nd)
    (jb_cons (js_asg (je_call F__law_read r__law_read (ja_cons (je_var 1 (hv := .inl rfl)) (ja_cons (je_var 3 (hv := .inl rfl)) ja_nil))) (jg_tup rfl (jgs_cons (jg_name 6 sc__law_run.nd) (jgs_cons (jg_name 7 sc__law_run.nd) (jgs_cons (jg_name 8 sc__law_run.nd) jgs_nil)))))
    (jb_cons (js_if (jt_cmp (p_isnot) (je_var 8 (hv := .inl rfl)) je_non) (jb_one (js_ret (je_var 3 (hv := .inl rfl)))) jb_nil)
    (jb_cons (js_set 9 sc__law_run.nd (je_call F__law_deed r__law_deed (ja_cons (je_var 0 (hv := .inl rfl)) (ja_cons (je_var 1 (hv := .inl rfl)) (ja_cons (je_var 7 (hv := .inl rfl)) ja_nil)))))
    (jb_cons (js_if (jw_t (jw_and (jt_cmp (p_eq hu) (jv_ix (je_var 1 (hv := .inl rfl)) je_int) je_str) (jw_and (jt_cmp (p_lt) (je_var 4 (hv := .inl rfl)) je_int) (jw_and1 (jt_cmp (p_gt) (je_call F__law_draw r__law_draw (ja_cons (je_var 0 (hv := .inl rfl)) (ja_cons je_int ja_nil))) je_int))))) (jb_one (js_set 9 sc__law_run.nd (je_var 4 (hv := .inl rfl)))) jb_nil)
    (jb_one (js_expr (je_bm PySem.F.plainAttrs_list PySem.F.slot_list_append PySem.F.type_list_append o_append (je_var 3 (hv := .inl rfl)) (ja_cons (je_var 9 (hv := .inl rfl)) ja_nil)))))))))
    (jb_one (js_ret (je_var 3 (hv := .inl rfl)))))))
def N__law_alike : List Str := ["_law_found", "_law_due_here", "_law_k"]
theorem sc__law_alike : FnScope N__law_alike ["_law_found", "_law_due_here"] (defScope (top 74)) := ⟨rfl, rfl, rfl, by decide +kernel, rfl, by decide +kernel, by decide +kernel⟩
def t__law_alike (K : PySem.W.Frag) (s__law_alike : DSp) (s__law_whole : DSp) : RS :=
    (rSeq (rIfS (rB (rIsi2 .lst .tup (rVar 1))) (rSeq (rIfS (rOr (rNot (rB (rIsi2 .lst .tup (rVar 0)))) (rB (rOp GNe (rUn (gIsa .lst) (rVar 0)) (rUn (gIsa .lst) (rVar 1))))) (rRet (rC (.bl false))) rNext)
    (rSeq (rIfS (rB (rOp GNe (rCB gLen (rCons (rVar 0) rNil)) (rCB gLen (rCons (rVar 1) rNil)))) (rRet (rC (.bl false))) rNext)
    (rRet (rOp (fIn true) (rC (.bl false)) (rLc (rItR (rCB gLen (rCons (rVar 1) rNil))) 2 (rCall .no s__law_alike (rCons (rOp gIx (rVar 0) (rVar 2)) (rCons (rOp gIx (rVar 1) (rVar 2)) rNil)))))))) rNext)
    (rSeq (rIfS (rB (rOp gIs (rVar 1) (rC .non))) (rRet (rOp gIs (rVar 0) (rC .non))) rNext)
    (rSeq (rIfS (rB (rUn (gIsa .str) (rVar 1))) (rRet (rAndV (rUn (gIsa .str) (rVar 0)) (rOp GEq (rVar 0) (rVar 1)))) rNext)
    (rRet (rAndV (rCall .no s__law_whole (rCons (rVar 0) rNil)) (rOp GEq (rVar 0) (rVar 1)))))))
theorem w__law_alike {P : Program} {w : World} {K : PySem.W.Frag} {mg : Str → Option Value} {base : Heap} {f : Addr} {cdv : Value} {A : Around} {outer : List Env} {s : Shared} {H : Hp} {E : XK} {s__law_alike : DSp} {s__law_whole : DSp} (T : Tx K mg) (hu : (A.deeper (envOfC "_law_alike" (defScope (top 74)) s.heap.objs.size f cdv)).units + 64 < cLine) {k__law_alike : Nat} (F__law_alike : Ok P w K mg base .no k__law_alike "_law_alike" ["_law_found", "_law_due_here"] s__law_alike) (r__law_alike : Room k__law_alike (A.deeper (envOfC "_law_alike" (defScope (top 74)) s.heap.objs.size f cdv))) {k__law_whole : Nat} (F__law_whole : Ok P w K mg base .no k__law_whole "_law_whole" ["_law_thing"] s__law_whole) (r__law_whole : Room k__law_whole (A.deeper (envOfC "_law_alike" (defScope (top 74)) s.heap.objs.size f cdv))) :
    JB (cxOf CX0 P w K mg base N__law_alike "_law_alike" (defScope (top 74)) f cdv A outer s H E).nox (defBody (top 74)) (t__law_alike K s__law_alike s__law_whole) :=
    (jb_cons (js_if (jt_val (je_isi2 .lst .tup (by decide) (by decide) rfl T.f_isinstance Boot.«isinstance» rfl T.f_list Boot.«list» rfl T.f_tuple Boot.«tuple» (je_var 1 (hv := .inr (.inl rfl))))) (jb_cons (js_if (jw_t (jw_or (jt_not (jt_val (je_isi2 .lst .tup (by decide) (by decide) rfl T.f_isinstance Boot.«isinstance» rfl T.f_list Boot.«list» rfl T.f_tuple Boot.«tuple» (je_var 0 (hv := .inr (.inl rfl)))))) (jw_or1 (jt_cmp (p_ne hu) (jv_isa .lst (by decide) rfl T.f_isinstance rfl T.f_list Boot.«list» (je_var 0 (hv := .inr (.inl rfl)))) (jv_isa .lst (by decide) rfl T.f_isinstance rfl T.f_list Boot.«list» (je_var 1 (hv := .inr (.inl rfl)))))))) (jb_one (js_ret je_bl)) jb_nil)
    (jb_cons (js_if (jt_cmp (p_ne hu) (je_callB p_len rfl T.f_len Boot.«len» (ja_cons (je_var 0 (hv := .inr (.inl rfl))) ja_nil)) (je_callB p_len rfl T.f_len Boot.«len» (ja_cons (je_var 1 (hv := .inr (.inl rfl))) ja_nil))) (jb_one (js_ret je_bl)) jb_nil)
    (jb_one (js_ret (je_cmp (o_notin) je_bl (je_lc 2 rfl sc__law_alike.nd (blk_ok (N := N__law_alike) (sc := defScope (top 74)) (by decide +kernel)) (ji_rng rfl T.f_range (je_callB p_len rfl T.f_len Boot.«len» (ja_cons (je_var 1 (hv := .inr (.inl rfl))) ja_nil))) (fun _ _ _ _ _ => (je_call F__law_alike r__law_alike (ja_cons (jv_ix (je_var 0 (hv := .inr (.inl rfl))) (je_var 2 (hv := .inl rfl))) (ja_cons (jv_ix (je_var 1 (hv := .inr (.inl rfl))) (je_var 2 (hv := .inl rfl))) ja_nil)))) (fun _ _ _ _ _ => pg_name sc__law_alike.nd rfl (.inl rfl) (.inr rfl)))))))) jb_nil)
    (jb_cons (js_if (jt_cmp (p_is) (je_var 1 (hv := .inr (.inl rfl))) je_non) (jb_one (js_ret (je_cmp (p_is) (je_var 0 (hv := .inr (.inl rfl))) je_non))) jb_nil)
    (jb_cons (js_if (jt_val (jv_isa .str (by decide) rfl T.f_isinstance rfl T.f_str Boot.«str» (je_var 1 (hv := .inr (.inl rfl))))) (jb_one (js_ret (je_and (jv_isa .str (by decide) rfl T.f_isinstance rfl T.f_str Boot.«str» (je_var 0 (hv := .inr (.inl rfl)))) (je_one (je_cmp (p_eq hu) (je_var 0 (hv := .inr (.inl rfl))) (je_var 1 (hv := .inr (.inl rfl)))))))) jb_nil)
    (jb_one (js_ret (je_and (je_call F__law_whole r__law_whole (ja_cons (je_var 0 (hv := .inr (.inl rfl))) ja_nil)) (je_one (je_cmp (p_eq hu) (je_var 0 (hv := .inr (.inl rfl))) (je_var 1 (hv := .inr (.inl rfl)))))))))))
def N__law_done : List Str := ["_law_book", "_law_way", "_law_at", "_law_deed_here"]
theorem sc__law_done : FnScope N__law_done ["_law_book", "_law_way", "_law_at", "_law_deed_here"] (defScope (top 75)) := ⟨rfl, rfl, rfl, by decide +kernel, rfl, by decide +kernel, by decide +kernel⟩
def t__law_done (K : PySem.W.Frag) (s_add : DSp) (s_back : DSp) (s_put_right : DSp) (s_put_in : DSp) (s_leave_out : DSp) : RS :=
    (rSeq (rIfS (rB (rOp GEq (rVar 1) (rC (.str "add")))) (rRet (rMeth (He.ga K "Book") "add" .cold s_add (rVar 0) (rCons (rVar 3) rNil))) rNext)
    (rSeq (rIfS (rB (rOp GEq (rVar 1) (rC (.str "back")))) (rRet (rMeth (He.ga K "Book") "back" .cold s_back (rVar 0) rNil)) rNext)
    (rSeq (rIfS (rB (rOp GEq (rVar 1) (rC (.str "right")))) (rRet (rMeth (He.ga K "Book") "put_right" .any s_put_right (rVar 0) (rCons (rVar 2) (rCons (rVar 3) rNil)))) rNext)
    (rSeq (rIfS (rB (rOp GEq (rVar 1) (rC (.str "in")))) (rRet (rMeth (He.ga K "Book") "put_in" .any s_put_in (rVar 0) (rCons (rVar 2) (rCons (rVar 3) rNil)))) rNext)
    (rRet (rMeth (He.ga K "Book") "leave_out" .any s_leave_out (rVar 0) (rCons (rVar 2) rNil)))))))
theorem w__law_done {P : Program} {w : World} {K : PySem.W.Frag} {mg : Str → Option Value} {base : Heap} {f : Addr} {cdv : Value} {A : Around} {outer : List Env} {s : Shared} {H : Hp} {E : XK} {s_add : DSp} {s_back : DSp} {s_put_right : DSp} {s_put_in : DSp} {s_leave_out : DSp} (T : Tx K mg) (hu : (A.deeper (envOfC "_law_done" (defScope (top 75)) s.heap.objs.size f cdv)).units + 64 < cLine) {k_add : Nat} (F_add : OkM P w K mg base .cold k_add (He.ga K "Book") "add" ["self", "deed"] s_add) (r_add : Room k_add (A.deeper (envOfC "_law_done" (defScope (top 75)) s.heap.objs.size f cdv))) {k_back : Nat} (F_back : OkM P w K mg base .cold k_back (He.ga K "Book") "back" ["self"] s_back) (r_back : Room k_back (A.deeper (envOfC "_law_done" (defScope (top 75)) s.heap.objs.size f cdv))) {k_put_right : Nat} (F_put_right : OkM P w K mg base .any k_put_right (He.ga K "Book") "put_right" ["self", "number", "deed"] s_put_right) (r_put_right : Room k_put_right (A.deeper (envOfC "_law_done" (defScope (top 75)) s.heap.objs.size f cdv))) {k_put_in : Nat} (F_put_in : OkM P w K mg base .any k_put_in (He.ga K "Book") "put_in" ["self", "number", "deed"] s_put_in) (r_put_in : Room k_put_in (A.deeper (envOfC "_law_done" (defScope (top 75)) s.heap.objs.size f cdv))) {k_leave_out : Nat} (F_leave_out : OkM P w K mg base .any k_leave_out (He.ga K "Book") "leave_out" ["self", "number"] s_leave_out) (r_leave_out : Room k_leave_out (A.deeper (envOfC "_law_done" (defScope (top 75)) s.heap.objs.size f cdv))) :
    JB (cxOf (L2.CX P w) P w K mg base N__law_done "_law_done" (defScope (top 75)) f cdv A outer s H E) (defBody (top 75)) (t__law_done K s_add s_back s_put_right s_put_in s_leave_out) :=
    (jb_cons (js_if (jt_cmp (p_eq hu) (je_var 1 (hv := .inl rfl)) je_str) (jb_one (js_ret (je_meth F_add r_add (je_var 0 (hv := .inl rfl)) (ja_cons (je_var 3 (hv := .inl rfl)) ja_nil)))) jb_nil)
    (jb_cons (js_if (jt_cmp (p_eq hu) (je_var 1 (hv := .inl rfl)) je_str) (jb_one (js_ret (je_meth0 F_back r_back (je_var 0 (hv := .inl rfl))))) jb_nil)
    (jb_cons (js_if (jt_cmp (p_eq hu) (je_var 1 (hv := .inl rfl)) je_str) (jb_one (js_ret (je_meth F_put_right r_put_right (je_var 0 (hv := .inl rfl)) (ja_cons (je_var 2 (hv := .inl rfl)) (ja_cons (je_var 3 (hv := .inl rfl)) ja_nil))))) jb_nil)
    (jb_cons (js_if (jt_cmp (p_eq hu) (je_var 1 (hv := .inl rfl)) je_str) (jb_one (js_ret (je_meth F_put_in r_put_in (je_var 0 (hv := .inl rfl)) (ja_cons (je_var 2 (hv := .inl rfl)) (ja_cons (je_var 3 (hv := .inl rfl)) ja_nil))))) jb_nil)
    (jb_one (js_ret (je_meth F_leave_out r_leave_out (je_var 0 (hv := .inl rfl)) (ja_cons (je_var 2 (hv := .inl rfl)) ja_nil))))))))
def N__law_tried : List Str := ["_law_book", "_law_way", "_law_at", "_law_deed_here", "_law_found", "_law_caught", "e", "_law_marks"]
theorem sc__law_tried : FnScope N__law_tried ["_law_book", "_law_way", "_law_at", "_law_deed_here"] (defScope (top 76)) := ⟨rfl, rfl, rfl, by decide +kernel, rfl, by decide +kernel, by decide +kernel⟩
def t__law_tried (P : Program) (w : World) (K : PySem.W.Frag) (mg : Str → Option Value) (base : Heap) (f : Addr) (cdv : Value) (A : Around) (outer : List Env) (s : Shared) (H : Hp) (E : XK) (s__law_done : DSp) : RS :=
    (rSeq (rSet 4 (rC .non))
    (rSeq (rSet 5 (rC .non))
    (rSeq (rHold ((cxOf CX0 P w K mg base N__law_tried "_law_tried" (defScope (top 76)) f cdv A outer s H E).nox) (He.ga K "ScoreError") 6 5 (rSet 4 (rCall .any s__law_done (rCons (rVar 0) (rCons (rVar 1) (rCons (rVar 2) (rCons (rVar 3) rNil)))))))
    (rSeq (rIfS (rB (rOp gIs (rVar 5) (rC .non))) (rRet (rTup (rCons (rC (.str "told")) (rCons (rVar 4) rNil)))) rNext)
    (rSeq (rSet 7 (rLst (rCons (rCB (fIsXA K) (rCons (rVar 5) (rCons (rC (.ref (He.ga K "Over"))) rNil))) (rCons (rCB (fIsXA K) (rCons (rVar 5) (rCons (rC (.ref (He.ga K "NoSide"))) rNil))) (rCons (rCB (fIsXA K) (rCons (rVar 5) (rCons (rC (.ref (He.ga K "NoThrow"))) rNil))) rNil)))))
    (rSeq (rDrop (rBM "list" fExtend (rVar 7) (rCons (rLst (rCons (rCB (fIsXA K) (rCons (rVar 5) (rCons (rC (.ref (He.ga K "NoPins"))) rNil))) (rCons (rCB (fIsXA K) (rCons (rVar 5) (rCons (rC (.ref (He.ga K "NoDeed"))) rNil))) (rCons (rCB (fIsXA K) (rCons (rVar 5) (rCons (rC (.ref (He.ga K "Falls"))) rNil))) rNil)))) rNil)))
    (rSeq (rIfS (rOr (rB (rOp GNe (rBM "list" fCountB (rVar 7) (rCons (rC (.bl true)) rNil)) (rC (.int 1)))) (rNot (rB (rCB (fIsXA K) (rCons (rVar 5) (rCons (rC (.ty "ValueError")) rNil)))))) (rRet (rTup (rCons (rC (.str "several")) (rCons (rC .non) rNil)))) rNext)
    (rSeq (rIfS (rB (rCB (fIsXA K) (rCons (rVar 5) (rCons (rC (.ref (He.ga K "Falls"))) rNil)))) (rRet (rTup (rCons (rC (.str "falls")) (rCons (rAt K (rVar 5)) rNil)))) rNext)
    (rRet (rTup (rCons (rC (.str "refused")) (rCons (rBM "list" fIndexB (rVar 7) (rCons (rC (.bl true)) rNil)) rNil))))))))))))
theorem w__law_tried {P : Program} {w : World} {K : PySem.W.Frag} {mg : Str → Option Value} {base : Heap} {f : Addr} {cdv : Value} {A : Around} {outer : List Env} {s : Shared} {H : Hp} {E : XK} {s__law_done : DSp} (T : Tx K mg) (hu : (A.deeper (envOfC "_law_tried" (defScope (top 76)) s.heap.objs.size f cdv)).units + 64 < cLine) {k__law_done : Nat} (F__law_done : Ok P w K mg base .any k__law_done "_law_done" ["_law_book", "_law_way", "_law_at", "_law_deed_here"] s__law_done) (r__law_done : Room k__law_done (A.deeper (envOfC "_law_tried" (defScope (top 76)) s.heap.objs.size f cdv))) :
    JB (cxOf CX0 P w K mg base N__law_tried "_law_tried" (defScope (top 76)) f cdv A outer s H E).nox (defBody (top 76)) (t__law_tried P w K mg base f cdv A outer s H E s__law_done) :=
    (jb_cons (js_set 4 sc__law_tried.nd je_non)
    (jb_cons (js_set 5 sc__law_tried.nd je_non)
    (jb_cons (js_hold (X := (cxOf CX0 P w K mg base N__law_tried "_law_tried" (defScope (top 76)) f cdv A outer s H E).nox) 6 5 rfl rfl sc__law_tried.nd (by decide) T.g_ScoreError
    (fun pn xe po => (jb_one (js_set 4 sc__law_tried.nd (je_call F__law_done r__law_done (ja_cons (je_var 0 (hv := .inl rfl)) (ja_cons (je_var 1 (hv := .inl rfl)) (ja_cons (je_var 2 (hv := .inl rfl)) (ja_cons (je_var 3 (hv := .inl rfl)) ja_nil)))))))))
    (jb_cons (js_if (jt_cmp (p_is) (je_var 5 (hv := .inl rfl)) je_non) (jb_one (js_ret (je_tup (ja_cons je_str (ja_cons (je_var 4 (hv := .inl rfl)) ja_nil))))) jb_nil)
    (jb_cons (js_set 7 sc__law_tried.nd (je_lst (ja_cons (je_callB o_isX rfl T.f_isinstance Boot.«isinstance» (ja_cons (je_var 5 (hv := .inl rfl)) (ja_cons (je_glob rfl T.g_Over (v := .ref _) rfl (fun H => .ref _)) ja_nil))) (ja_cons (je_callB o_isX rfl T.f_isinstance Boot.«isinstance» (ja_cons (je_var 5 (hv := .inl rfl)) (ja_cons (je_glob rfl T.g_NoSide (v := .ref _) rfl (fun H => .ref _)) ja_nil))) (ja_cons (je_callB o_isX rfl T.f_isinstance Boot.«isinstance» (ja_cons (je_var 5 (hv := .inl rfl)) (ja_cons (je_glob rfl T.g_NoThrow (v := .ref _) rfl (fun H => .ref _)) ja_nil))) ja_nil)))))
    (jb_cons (js_expr (je_bm PySem.F.plainAttrs_list PySem.F.slot_list_extend PySem.F.type_list_extend o_extend (je_var 7 (hv := .inl rfl)) (ja_cons (je_lst (ja_cons (je_callB o_isX rfl T.f_isinstance Boot.«isinstance» (ja_cons (je_var 5 (hv := .inl rfl)) (ja_cons (je_glob rfl T.g_NoPins (v := .ref _) rfl (fun H => .ref _)) ja_nil))) (ja_cons (je_callB o_isX rfl T.f_isinstance Boot.«isinstance» (ja_cons (je_var 5 (hv := .inl rfl)) (ja_cons (je_glob rfl T.g_NoDeed (v := .ref _) rfl (fun H => .ref _)) ja_nil))) (ja_cons (je_callB o_isX rfl T.f_isinstance Boot.«isinstance» (ja_cons (je_var 5 (hv := .inl rfl)) (ja_cons (je_glob rfl T.g_Falls (v := .ref _) rfl (fun H => .ref _)) ja_nil))) ja_nil)))) ja_nil)))
    (jb_cons (js_if (jw_t (jw_or (jt_cmp (p_ne hu) (je_bm PySem.F.plainAttrs_list PySem.F.slot_list_count PySem.F.type_list_count o_countB (je_var 7 (hv := .inl rfl)) (ja_cons je_bl ja_nil)) je_int) (jw_or1 (jt_not (jt_val (je_callB o_isX rfl T.f_isinstance Boot.«isinstance» (ja_cons (je_var 5 (hv := .inl rfl)) (ja_cons (je_ty rfl T.f_ValueError Boot.«ValueError») ja_nil)))))))) (jb_one (js_ret (je_tup (ja_cons je_str (ja_cons je_non ja_nil))))) jb_nil)
    (jb_cons (js_if (jt_val (je_callB o_isX rfl T.f_isinstance Boot.«isinstance» (ja_cons (je_var 5 (hv := .inl rfl)) (ja_cons (je_glob rfl T.g_Falls (v := .ref _) rfl (fun H => .ref _)) ja_nil)))) (jb_one (js_ret (je_tup (ja_cons je_str (ja_cons (je_at (je_var 5 (hv := .inl rfl))) ja_nil))))) jb_nil)
    (jb_one (js_ret (je_tup (ja_cons je_str (ja_cons (je_bm PySem.F.plainAttrs_list PySem.F.slot_list_index PySem.F.type_list_index o_indexB (je_var 7 (hv := .inl rfl)) (ja_cons je_bl ja_nil)) ja_nil)))))))))))))
def N__law_due : List Str := ["_law_game_here", "_law_row", "_law_way", "_law_at", "_law_deed_here", "_law_good", "_law_stand", "_law_winners", "_law_fresh"]
theorem sc__law_due : FnScope N__law_due ["_law_game_here", "_law_row", "_law_way", "_law_at", "_law_deed_here"] (defScope (top 77)) := ⟨rfl, rfl, rfl, by decide +kernel, rfl, by decide +kernel, by decide +kernel⟩
def t__law_due (K : PySem.W.Frag) (s__law_read : DSp) : RS :=
    (rSeq (rIfS (rB (rOp GEq (rVar 2) (rC (.str "add")))) (rSeq (rAsg (rCall .no s__law_read (rCons (rVar 0) (rCons (rVar 1) rNil))) (gtD 3 (gsCons (gnD 5) (gsCons (gnD 6) (gsCons (gnD 7) gsNil)))))
    (rSeq (rIfS (rB (rOp gIsNot (rVar 7) (rC .non))) (rRet (rTup (rCons (rTup (rCons (rC (.str "refused")) (rCons (rC (.int 0)) rNil))) (rCons (rVar 1) rNil)))) rNext)
    (rSeq (rIfS (rB (rOp GEq (rOp gIx (rCall .no s__law_read (rCons (rVar 0) (rCons (rOp gAdd (rVar 1) (rLst (rCons (rVar 4) rNil))) rNil))) (rC (.int 0))) (rCB gLen (rCons (rVar 1) rNil)))) (rRet (rTup (rCons (rTup (rCons (rC (.str "refused")) (rCons (rOp gAdd (rBM "list" fIndexS (rLst (rCons (rC (.str "rally")) (rCons (rC (.str "down")) (rCons (rC (.str "lane")) rNil)))) (rCons (rOp gIx (rVar 0) (rC (.int 0))) rNil)) (rC (.int 1))) rNil))) (rCons (rVar 1) rNil)))) rNext)
    (rRet (rTup (rCons (rTup (rCons (rC (.str "told")) (rCons (rOp gAdd (rCB gLen (rCons (rVar 1) rNil)) (rC (.int 1))) rNil))) (rCons (rOp gAdd (rVar 1) (rLst (rCons (rVar 4) rNil))) rNil))))))) rNext)
    (rSeq (rIfS (rB (rOp GEq (rVar 2) (rC (.str "back")))) (rSeq (rIfS (rB (rOp GEq (rVar 1) (rLst rNil))) (rRet (rTup (rCons (rTup (rCons (rC (.str "refused")) (rCons (rC (.int 4)) rNil))) (rCons (rVar 1) rNil)))) rNext)
    (rRet (rTup (rCons (rTup (rCons (rC (.str "told")) (rCons (rOp gIx (rVar 1) (rUn gNeg (rC (.int 1)))) rNil))) (rCons (rSlD (rVar 1) rNoPart (rPart (rUn gNeg (rC (.int 1))))) rNil))))) rNext)
    (rSeq (rIfS (rOr (rB (rOp gLt (rVar 3) (rC (.int 1)))) (rB (rOp gGt (rVar 3) (rOp gAdd (rCB gLen (rCons (rVar 1) rNil)) (rCB gInt (rCons (rOp GEq (rVar 2) (rC (.str "in"))) rNil)))))) (rRet (rTup (rCons (rTup (rCons (rC (.str "refused")) (rCons (rC (.int 4)) rNil))) (rCons (rVar 1) rNil)))) rNext)
    (rSeq (rSet 8 (rOp gAdd (rOp gAdd (rSlD (rVar 1) rNoPart (rPart (rOp gSub (rVar 3) (rC (.int 1))))) (rLst (rCons (rVar 4) rNil))) (rSlD (rVar 1) (rPart (rOp gSub (rVar 3) (rCB gInt (rCons (rOp GEq (rVar 2) (rC (.str "in"))) rNil)))) rNoPart)))
    (rSeq (rIfS (rB (rOp GEq (rVar 2) (rC (.str "out")))) (rSet 8 (rOp gAdd (rSlD (rVar 1) rNoPart (rPart (rOp gSub (rVar 3) (rC (.int 1))))) (rSlD (rVar 1) (rPart (rVar 3)) rNoPart))) rNext)
    (rSeq (rSet 5 (rOp gIx (rCall .no s__law_read (rCons (rVar 0) (rCons (rVar 8) rNil))) (rC (.int 0))))
    (rSeq (rIfS (rB (rOp gLt (rVar 5) (rCB gLen (rCons (rVar 8) rNil)))) (rRet (rTup (rCons (rTup (rCons (rC (.str "falls")) (rCons (rOp gAdd (rVar 5) (rC (.int 1))) rNil))) (rCons (rVar 1) rNil)))) rNext)
    (rRet (rTup (rCons (rTup (rCons (rC (.str "told")) (rCons (rC .non) rNil))) (rCons (rVar 8) rNil)))))))))))
theorem w__law_due {P : Program} {w : World} {K : PySem.W.Frag} {mg : Str → Option Value} {base : Heap} {f : Addr} {cdv : Value} {A : Around} {outer : List Env} {s : Shared} {H : Hp} {E : XK} {s__law_read : DSp} (T : Tx K mg) (hu : (A.deeper (envOfC "_law_due" (defScope (top 77)) s.heap.objs.size f cdv)).units + 64 < cLine) {k__law_read : Nat} (F__law_read : Ok P w K mg base .no k__law_read "_law_read" ["_law_game_here", "_law_row"] s__law_read) (r__law_read : Room k__law_read (A.deeper (envOfC "_law_due" (defScope (top 77)) s.heap.objs.size f cdv))) :
    JB (cxOf CX0 P w K mg base N__law_due "_law_due" (defScope (top 77)) f cdv A outer s H E).nox (defBody (top 77)) (t__law_due K s__law_read) :=
    (jb_cons (js_if (jt_cmp (p_eq hu) (je_var 2 (hv := .inl rfl)) je_str) (jb_cons (js_asg (je_call F__law_read r__law_read (ja_cons (je_var 0 (hv := .inl rfl)) (ja_cons (je_var 1 (hv := .inl rfl)) ja_nil))) (jg_tup rfl (jgs_cons (jg_name 5 sc__law_due.nd) (jgs_cons (jg_name 6 sc__law_due.nd) (jgs_cons (jg_name 7 sc__law_due.nd) jgs_nil)))))
    (jb_cons (js_if (jt_cmp (p_isnot) (je_var 7 (hv := .inl rfl)) je_non) (jb_one (js_ret (je_tup (ja_cons (je_tup (ja_cons je_str (ja_cons je_int ja_nil))) (ja_cons (je_var 1 (hv := .inl rfl)) ja_nil))))) jb_nil)
    (jb_cons (js_if (jt_cmp (p_eq hu) (jv_ix (je_call F__law_read r__law_read (ja_cons (je_var 0 (hv := .inl rfl)) (ja_cons (je_op p_add (je_var 1 (hv := .inl rfl)) (je_lst (ja_cons (je_var 4 (hv := .inl rfl)) ja_nil))) ja_nil))) je_int) (je_callB p_len rfl T.f_len Boot.«len» (ja_cons (je_var 1 (hv := .inl rfl)) ja_nil))) (jb_one (js_ret (je_tup (ja_cons (je_tup (ja_cons je_str (ja_cons (je_op p_add (je_bm PySem.F.plainAttrs_list PySem.F.slot_list_index PySem.F.type_list_index o_indexS (je_lst (ja_cons je_str (ja_cons je_str (ja_cons je_str ja_nil)))) (ja_cons (jv_ix (je_var 0 (hv := .inl rfl)) je_int) ja_nil)) je_int) ja_nil))) (ja_cons (je_var 1 (hv := .inl rfl)) ja_nil))))) jb_nil)
    (jb_one (js_ret (je_tup (ja_cons (je_tup (ja_cons je_str (ja_cons (je_op p_add (je_callB p_len rfl T.f_len Boot.«len» (ja_cons (je_var 1 (hv := .inl rfl)) ja_nil)) je_int) ja_nil))) (ja_cons (je_op p_add (je_var 1 (hv := .inl rfl)) (je_lst (ja_cons (je_var 4 (hv := .inl rfl)) ja_nil))) ja_nil)))))))) jb_nil)
    (jb_cons (js_if (jt_cmp (p_eq hu) (je_var 2 (hv := .inl rfl)) je_str) (jb_cons (js_if (jt_cmp (p_eq hu) (je_var 1 (hv := .inl rfl)) (je_lst ja_nil)) (jb_one (js_ret (je_tup (ja_cons (je_tup (ja_cons je_str (ja_cons je_int ja_nil))) (ja_cons (je_var 1 (hv := .inl rfl)) ja_nil))))) jb_nil)
    (jb_one (js_ret (je_tup (ja_cons (je_tup (ja_cons je_str (ja_cons (jv_ix (je_var 1 (hv := .inl rfl)) (jv_neg je_int)) ja_nil))) (ja_cons (je_slice (je_var 1 (hv := .inl rfl)) jo_none (jo_some (jv_neg je_int))) ja_nil)))))) jb_nil)
    (jb_cons (js_if (jw_t (jw_or (jt_cmp (p_lt) (je_var 3 (hv := .inl rfl)) je_int) (jw_or1 (jt_cmp (p_gt) (je_var 3 (hv := .inl rfl)) (je_op p_add (je_callB p_len rfl T.f_len Boot.«len» (ja_cons (je_var 1 (hv := .inl rfl)) ja_nil)) (je_callTy p_int rfl T.f_int Boot.«int» (ja_cons (je_cmp (p_eq hu) (je_var 2 (hv := .inl rfl)) je_str) ja_nil))))))) (jb_one (js_ret (je_tup (ja_cons (je_tup (ja_cons je_str (ja_cons je_int ja_nil))) (ja_cons (je_var 1 (hv := .inl rfl)) ja_nil))))) jb_nil)
    (jb_cons (js_set 8 sc__law_due.nd (je_op p_add (je_op p_add (je_slice (je_var 1 (hv := .inl rfl)) jo_none (jo_some (je_op p_sub (je_var 3 (hv := .inl rfl)) je_int))) (je_lst (ja_cons (je_var 4 (hv := .inl rfl)) ja_nil))) (je_slice (je_var 1 (hv := .inl rfl)) (jo_some (je_op p_sub (je_var 3 (hv := .inl rfl)) (je_callTy p_int rfl T.f_int Boot.«int» (ja_cons (je_cmp (p_eq hu) (je_var 2 (hv := .inl rfl)) je_str) ja_nil)))) jo_none)))
    (jb_cons (js_if (jt_cmp (p_eq hu) (je_var 2 (hv := .inl rfl)) je_str) (jb_one (js_set 8 sc__law_due.nd (je_op p_add (je_slice (je_var 1 (hv := .inl rfl)) jo_none (jo_some (je_op p_sub (je_var 3 (hv := .inl rfl)) je_int))) (je_slice (je_var 1 (hv := .inl rfl)) (jo_some (je_var 3 (hv := .inl rfl))) jo_none)))) jb_nil)
    (jb_cons (js_set 5 sc__law_due.nd (jv_ix (je_call F__law_read r__law_read (ja_cons (je_var 0 (hv := .inl rfl)) (ja_cons (je_var 8 (hv := .inl rfl)) ja_nil))) je_int))
    (jb_cons (js_if (jt_cmp (p_lt) (je_var 5 (hv := .inl rfl)) (je_callB p_len rfl T.f_len Boot.«len» (ja_cons (je_var 8 (hv := .inl rfl)) ja_nil))) (jb_one (js_ret (je_tup (ja_cons (je_tup (ja_cons je_str (ja_cons (je_op p_add (je_var 5 (hv := .inl rfl)) je_int) ja_nil))) (ja_cons (je_var 1 (hv := .inl rfl)) ja_nil))))) jb_nil)
    (jb_one (js_ret (je_tup (ja_cons (je_tup (ja_cons je_str (ja_cons je_non ja_nil))) (ja_cons (je_var 8 (hv := .inl rfl)) ja_nil))))))))))))
def N__law_units : List Str := ["_law_game_here", "_law_row", "_law_ends", "_law_k"]
theorem sc__law_units : FnScope N__law_units ["_law_game_here", "_law_row"] (defScope (top 78)) := ⟨rfl, rfl, rfl, by decide +kernel, rfl, by decide +kernel, by decide +kernel⟩
def t__law_units (K : PySem.W.Frag) (s__law_played : DSp) : RS :=
    (rSeq (rIfS (rB (rOp GNe (rOp gIx (rVar 0) (rC (.int 0))) (rC (.str "rally")))) (rRet (rLst rNil)) rNext)
    (rSeq (rSet 2 (rLst rNil))
    (rSeq (rDrop (rCall .no s__law_played (rCons (rOp gIx (rVar 0) (rC (.int 1))) (rCons (rVar 1) (rCons (rC (.int 0)) (rCons (rVar 2) rNil))))))
    (rRet (rLcT (rItR (rCB gLen (rCons (rVar 1) rNil))) 3 (rB (rOp (fIn false) (rOp gAdd (rVar 3) (rC (.int 1))) (rVar 2))) (rTup (rCons (rOp gAdd (rVar 3) (rC (.int 1))) (rCons (rOp gIx (rVar 1) (rVar 3)) (rCons (rBM "list" fCount (rVar 2) (rCons (rOp gAdd (rVar 3) (rC (.int 1))) rNil)) rNil)))))))))
theorem w__law_units {P : Program} {w : World} {K : PySem.W.Frag} {mg : Str → Option Value} {base : Heap} {f : Addr} {cdv : Value} {A : Around} {outer : List Env} {s : Shared} {H : Hp} {E : XK} {s__law_played : DSp} (T : Tx K mg) (hu : (A.deeper (envOfC "_law_units" (defScope (top 78)) s.heap.objs.size f cdv)).units + 64 < cLine) {k__law_played : Nat} (F__law_played : Ok P w K mg base .no k__law_played "_law_played" ["_law_rule_here", "_law_row", "_law_at", "_law_ends"] s__law_played) (r__law_played : Room k__law_played (A.deeper (envOfC "_law_units" (defScope (top 78)) s.heap.objs.size f cdv))) :
    JB (cxOf CX0 P w K mg base N__law_units "_law_units" (defScope (top 78)) f cdv A outer s H E).nox (defBody (top 78)) (t__law_units K s__law_played) :=
    (jb_cons (js_if (jt_cmp (p_ne hu) (jv_ix (je_var 0 (hv := .inl rfl)) je_int) je_str) (jb_one (js_ret (je_lst ja_nil))) jb_nil)
    (jb_cons (js_set 2 sc__law_units.nd (je_lst ja_nil) (hx := .inr rfl) (hf := .inl rfl))
    (jb_cons (js_expr (je_call F__law_played r__law_played (ja_cons (jv_ix (je_var 0 (hv := .inl rfl)) je_int) (ja_cons (je_var 1 (hv := .inr (.inl rfl))) (ja_cons je_int (ja_cons (je_var 2 (hv := .inr (.inl rfl))) ja_nil))))))
    (jb_one (js_ret (je_lcT 3 rfl sc__law_units.nd (blk_ok (N := N__law_units) (sc := defScope (top 78)) (by decide +kernel)) (ji_rng rfl T.f_range (je_callB p_len rfl T.f_len Boot.«len» (ja_cons (je_var 1 (hv := .inr (.inl rfl))) ja_nil))) (fun _ _ _ _ _ => (jt_cmp (o_in) (je_op p_add (je_var 3 (hv := .inl rfl)) je_int) (je_var 2 (hv := .inr (.inl rfl))))) (fun _ _ _ _ _ => (je_tup (ja_cons (je_op p_add (je_var 3 (hv := .inl rfl)) je_int) (ja_cons (jv_ix (je_var 1 (hv := .inr (.inl rfl))) (je_var 3 (hv := .inl rfl))) (ja_cons (je_bm PySem.F.plainAttrs_list PySem.F.slot_list_count PySem.F.type_list_count o_count (je_var 2 (hv := .inr (.inl rfl))) (ja_cons (je_op p_add (je_var 3 (hv := .inl rfl)) je_int) ja_nil)) ja_nil))))) (fun _ _ _ _ _ => pg_name sc__law_units.nd rfl (.inl rfl) (.inr rfl))))))))
def N__law_shown_right : List Str := ["_law_tape_here", "_law_book", "_law_game_here", "_law_row", "_law_good", "_law_stand", "_law_winners", "_law_many", "_law_told"]
theorem sc__law_shown_right : FnScope N__law_shown_right ["_law_tape_here", "_law_book", "_law_game_here", "_law_row"] (defScope (top 79)) := ⟨rfl, rfl, rfl, by decide +kernel, rfl, by decide +kernel, by decide +kernel⟩
def t__law_shown_right (K : PySem.W.Frag) (s__law_read : DSp) (s__law_alike : DSp) (s_deeds : DSp) (s_stand0 : DSp) (s_units : DSp) (s__law_units : DSp) (s__law_draw : DSp) (s_stand : DSp) : RS :=
    (rSeq (rAsg (rCall .no s__law_read (rCons (rVar 2) (rCons (rVar 3) rNil))) (gtD 3 (gsCons (gnD 4) (gsCons (gnD 5) (gsCons (gnD 6) gsNil)))))
    (rSeq (rIfS (rNot (rB (rCall .no s__law_alike (rCons (rLst (rCons (rMeth (He.ga K "Book") "deeds" .no s_deeds (rVar 1) rNil) (rCons (rMeth1 (He.ga K "Book") "stand" .no s_stand0 .non (rVar 1)) (rCons (rMeth (He.ga K "Book") "units" .no s_units (rVar 1) rNil) rNil)))) (rCons (rLst (rCons (rVar 3) (rCons (rTup (rCons (rVar 5) (rCons (rVar 6) rNil))) (rCons (rCall .no s__law_units (rCons (rVar 2) (rCons (rVar 3) rNil))) rNil)))) rNil))))) (rRet (rC (.bl false))) rNext)
    (rSeq (rSet 7 (rCall .no s__law_draw (rCons (rVar 0) (rCons (rOp gAdd (rCB gLen (rCons (rVar 3) rNil)) (rC (.int 1))) rNil))))
    (rSeq (rAsg (rCall .no s__law_read (rCons (rVar 2) (rCons (rSlD (rVar 3) rNoPart (rPart (rVar 7))) rNil))) (gtD 3 (gsCons (gnD 4) (gsCons (gnD 5) (gsCons (gnD 6) gsNil)))))
    (rSeq (rIfS (rNot (rB (rCall .no s__law_alike (rCons (rMeth (He.ga K "Book") "stand" .no s_stand (rVar 1) (rCons (rVar 7) rNil)) (rCons (rTup (rCons (rVar 5) (rCons (rVar 6) rNil))) rNil))))) (rRet (rC (.bl false))) rNext)
    (rSeq (rSet 8 (rMeth (He.ga K "Book") "deeds" .no s_deeds (rVar 1) rNil))
    (rSeq (rDrop (rBM "list" fAppend (rVar 8) (rCons (rC (.int 0)) rNil)))
    (rRet (rCall .no s__law_alike (rCons (rMeth (He.ga K "Book") "deeds" .no s_deeds (rVar 1) rNil) (rCons (rVar 3) rNil)))))))))))
theorem w__law_shown_right {P : Program} {w : World} {K : PySem.W.Frag} {mg : Str → Option Value} {base : Heap} {f : Addr} {cdv : Value} {A : Around} {outer : List Env} {s : Shared} {H : Hp} {E : XK} {s__law_read : DSp} {s__law_alike : DSp} {s_deeds : DSp} {s_stand0 : DSp} {s_units : DSp} {s__law_units : DSp} {s__law_draw : DSp} {s_stand : DSp} (T : Tx K mg) (hu : (A.deeper (envOfC "_law_shown_right" (defScope (top 79)) s.heap.objs.size f cdv)).units + 64 < cLine) {k__law_read : Nat} (F__law_read : Ok P w K mg base .no k__law_read "_law_read" ["_law_game_here", "_law_row"] s__law_read) (r__law_read : Room k__law_read (A.deeper (envOfC "_law_shown_right" (defScope (top 79)) s.heap.objs.size f cdv))) {k__law_alike : Nat} (F__law_alike : Ok P w K mg base .no k__law_alike "_law_alike" ["_law_found", "_law_due_here"] s__law_alike) (r__law_alike : Room k__law_alike (A.deeper (envOfC "_law_shown_right" (defScope (top 79)) s.heap.objs.size f cdv))) {k_deeds : Nat} (F_deeds : OkM P w K mg base .no k_deeds (He.ga K "Book") "deeds" ["self"] s_deeds) (r_deeds : Room k_deeds (A.deeper (envOfC "_law_shown_right" (defScope (top 79)) s.heap.objs.size f cdv))) {k_stand0 : Nat} (F_stand0 : OkM1 P w K mg base .no k_stand0 (He.ga K "Book") "stand" ["self", "number"] s_stand0 .non) (r_stand0 : Room k_stand0 (A.deeper (envOfC "_law_shown_right" (defScope (top 79)) s.heap.objs.size f cdv))) {k_units : Nat} (F_units : OkM P w K mg base .no k_units (He.ga K "Book") "units" ["self"] s_units) (r_units : Room k_units (A.deeper (envOfC "_law_shown_right" (defScope (top 79)) s.heap.objs.size f cdv))) {k__law_units : Nat} (F__law_units : Ok P w K mg base .no k__law_units "_law_units" ["_law_game_here", "_law_row"] s__law_units) (r__law_units : Room k__law_units (A.deeper (envOfC "_law_shown_right" (defScope (top 79)) s.heap.objs.size f cdv))) {k__law_draw : Nat} (F__law_draw : Ok P w K mg base .no k__law_draw "_law_draw" ["_law_tape_here", "_law_many"] s__law_draw) (r__law_draw : Room k__law_draw (A.deeper (envOfC "_law_shown_right" (defScope (top 79)) s.heap.objs.size f cdv))) {k_stand : Nat} (F_stand : OkM P w K mg base .no k_stand (He.ga K "Book") "stand" ["self", "number"] s_stand) (r_stand : Room k_stand (A.deeper (envOfC "_law_shown_right" (defScope (top 79)) s.heap.objs.size f cdv))) :
    JB (cxOf CX0 P w K mg base N__law_shown_right "_law_shown_right" (defScope (top 79)) f cdv A outer s H E).nox (defBody (top 79)) (t__law_shown_right K s__law_read s__law_alike s_deeds s_stand0 s_units s__law_units s__law_draw s_stand) :=
    (jb_cons (js_asg (je_call F__law_read r__law_read (ja_cons (je_var 2 (hv := .inl rfl)) (ja_cons (je_var 3 (hv := .inl rfl)) ja_nil))) (jg_tup rfl (jgs_cons (jg_name 4 sc__law_shown_right.nd) (jgs_cons (jg_name 5 sc__law_shown_right.nd) (jgs_cons (jg_name 6 sc__law_shown_right.nd) jgs_nil)))))
    (jb_cons (js_if (jt_not (jt_val (je_call F__law_alike r__law_alike (ja_cons (je_lst (ja_cons (je_meth0 F_deeds r_deeds (je_var 1 (hv := .inl rfl))) (ja_cons (je_meth1 F_stand0 r_stand0 (je_var 1 (hv := .inl rfl)) pass0) (ja_cons (je_meth0 F_units r_units (je_var 1 (hv := .inl rfl))) ja_nil)))) (ja_cons (je_lst (ja_cons (je_var 3 (hv := .inl rfl)) (ja_cons (je_tup (ja_cons (je_var 5 (hv := .inl rfl)) (ja_cons (je_var 6 (hv := .inl rfl)) ja_nil))) (ja_cons (je_call F__law_units r__law_units (ja_cons (je_var 2 (hv := .inl rfl)) (ja_cons (je_var 3 (hv := .inl rfl)) ja_nil))) ja_nil)))) ja_nil))))) (jb_one (js_ret je_bl)) jb_nil)
    (jb_cons (js_set 7 sc__law_shown_right.nd (je_call F__law_draw r__law_draw (ja_cons (je_var 0 (hv := .inl rfl)) (ja_cons (je_op p_add (je_callB p_len rfl T.f_len Boot.«len» (ja_cons (je_var 3 (hv := .inl rfl)) ja_nil)) je_int) ja_nil))))
    (jb_cons (js_asg (je_call F__law_read r__law_read (ja_cons (je_var 2 (hv := .inl rfl)) (ja_cons (je_slice (je_var 3 (hv := .inl rfl)) jo_none (jo_some (je_var 7 (hv := .inl rfl)))) ja_nil))) (jg_tup rfl (jgs_cons (jg_name 4 sc__law_shown_right.nd) (jgs_cons (jg_name 5 sc__law_shown_right.nd) (jgs_cons (jg_name 6 sc__law_shown_right.nd) jgs_nil)))))
    (jb_cons (js_if (jt_not (jt_val (je_call F__law_alike r__law_alike (ja_cons (je_meth F_stand r_stand (je_var 1 (hv := .inl rfl)) (ja_cons (je_var 7 (hv := .inl rfl)) ja_nil)) (ja_cons (je_tup (ja_cons (je_var 5 (hv := .inl rfl)) (ja_cons (je_var 6 (hv := .inl rfl)) ja_nil))) ja_nil))))) (jb_one (js_ret je_bl)) jb_nil)
    (jb_cons (js_set 8 sc__law_shown_right.nd (je_meth0 F_deeds r_deeds (je_var 1 (hv := .inl rfl))))
    (jb_cons (js_expr (je_bm PySem.F.plainAttrs_list PySem.F.slot_list_append PySem.F.type_list_append o_append (je_var 8 (hv := .inl rfl)) (ja_cons je_int ja_nil)))
    (jb_one (js_ret (je_call F__law_alike r__law_alike (ja_cons (je_meth0 F_deeds r_deeds (je_var 1 (hv := .inl rfl))) (ja_cons (je_var 3 (hv := .inl rfl)) ja_nil))))))))))))
def N__law_any_deed : List Str := ["_law_tape_here", "_law_game_here", "_law_row", "_law_good", "_law_stand", "_law_winners", "_law_way"]
theorem sc__law_any_deed : FnScope N__law_any_deed ["_law_tape_here", "_law_game_here", "_law_row"] (defScope (top 80)) := ⟨rfl, rfl, rfl, by decide +kernel, rfl, by decide +kernel, by decide +kernel⟩
def t__law_any_deed (K : PySem.W.Frag) (s__law_read : DSp) (s__law_draw : DSp) (s__law_deed : DSp) : RS :=
    (rSeq (rAsg (rCall .no s__law_read (rCons (rVar 1) (rCons (rVar 2) rNil))) (gtD 3 (gsCons (gnD 3) (gsCons (gnD 4) (gsCons (gnD 5) gsNil)))))
    (rSeq (rSet 6 (rCall .no s__law_draw (rCons (rVar 0) (rCons (rC (.int 6)) rNil))))
    (rSeq (rIfS (rB (rOp GEq (rVar 6) (rC (.int 5)))) (rRet (rOp gIx (rLst (rCons (rC .non) (rCons (rC (.bl true)) (rCons (rUn gNeg (rC (.int 1))) (rCons (rC (.int 2)) (rCons (rC (.str "")) (rCons (rC (.str "point")) (rCons (rLst (rCons (rC (.int 0)) rNil)) (rCons (rTup (rCons (rC (.int 1)) rNil)) (rCons (rOp gPow (rC (.int 10)) (rC (.int 30))) (rCons (rC (.bl false)) (rCons (rC (.int 21)) rNil)))))))))))) (rCall .no s__law_draw (rCons (rVar 0) (rCons (rC (.int 11)) rNil))))) rNext)
    (rSeq (rIfS (rAnd (rB (rOp GEq (rVar 6) (rC (.int 4)))) (rB (rOp GNe (rVar 2) (rLst rNil)))) (rRet (rOp gIx (rVar 2) (rCall .no s__law_draw (rCons (rVar 0) (rCons (rCB gLen (rCons (rVar 2) rNil)) rNil))))) rNext)
    (rRet (rCall .no s__law_deed (rCons (rVar 0) (rCons (rVar 1) (rCons (rVar 4) rNil)))))))))
theorem w__law_any_deed {P : Program} {w : World} {K : PySem.W.Frag} {mg : Str → Option Value} {base : Heap} {f : Addr} {cdv : Value} {A : Around} {outer : List Env} {s : Shared} {H : Hp} {E : XK} {s__law_read : DSp} {s__law_draw : DSp} {s__law_deed : DSp} (T : Tx K mg) (hu : (A.deeper (envOfC "_law_any_deed" (defScope (top 80)) s.heap.objs.size f cdv)).units + 64 < cLine) {k__law_read : Nat} (F__law_read : Ok P w K mg base .no k__law_read "_law_read" ["_law_game_here", "_law_row"] s__law_read) (r__law_read : Room k__law_read (A.deeper (envOfC "_law_any_deed" (defScope (top 80)) s.heap.objs.size f cdv))) {k__law_draw : Nat} (F__law_draw : Ok P w K mg base .no k__law_draw "_law_draw" ["_law_tape_here", "_law_many"] s__law_draw) (r__law_draw : Room k__law_draw (A.deeper (envOfC "_law_any_deed" (defScope (top 80)) s.heap.objs.size f cdv))) {k__law_deed : Nat} (F__law_deed : Ok P w K mg base .no k__law_deed "_law_deed" ["_law_tape_here", "_law_game_here", "_law_stand"] s__law_deed) (r__law_deed : Room k__law_deed (A.deeper (envOfC "_law_any_deed" (defScope (top 80)) s.heap.objs.size f cdv))) :
    JB (cxOf CX0 P w K mg base N__law_any_deed "_law_any_deed" (defScope (top 80)) f cdv A outer s H E).nox (defBody (top 80)) (t__law_any_deed K s__law_read s__law_draw s__law_deed) :=
    (jb_cons (js_asg (je_call F__law_read r__law_read (ja_cons (je_var 1 (hv := .inl rfl)) (ja_cons (je_var 2 (hv := .inl rfl)) ja_nil))) (jg_tup rfl (jgs_cons (jg_name 3 sc__law_any_deed.nd) (jgs_cons (jg_name 4 sc__law_any_deed.nd) (jgs_cons (jg_name 5 sc__law_any_deed.nd) jgs_nil)))))
    (jb_cons (js_set 6 sc__law_any_deed.nd (je_call F__law_draw r__law_draw (ja_cons (je_var 0 (hv := .inl rfl)) (ja_cons je_int ja_nil))))
    (jb_cons (js_if (jt_cmp (p_eq hu) (je_var 6 (hv := .inl rfl)) je_int) (jb_one (js_ret (jv_ix (je_lst (ja_cons je_non (ja_cons je_bl (ja_cons (jv_neg je_int) (ja_cons je_int (ja_cons je_str (ja_cons je_str (ja_cons (je_lst (ja_cons je_int ja_nil)) (ja_cons (je_tup (ja_cons je_int ja_nil)) (ja_cons (je_op p_pow je_int je_int) (ja_cons je_bl (ja_cons je_int ja_nil)))))))))))) (je_call F__law_draw r__law_draw (ja_cons (je_var 0 (hv := .inl rfl)) (ja_cons je_int ja_nil)))))) jb_nil)
    (jb_cons (js_if (jw_t (jw_and (jt_cmp (p_eq hu) (je_var 6 (hv := .inl rfl)) je_int) (jw_and1 (jt_cmp (p_ne hu) (je_var 2 (hv := .inl rfl)) (je_lst ja_nil))))) (jb_one (js_ret (jv_ix (je_var 2 (hv := .inl rfl)) (je_call F__law_draw r__law_draw (ja_cons (je_var 0 (hv := .inl rfl)) (ja_cons (je_callB p_len rfl T.f_len Boot.«len» (ja_cons (je_var 2 (hv := .inl rfl)) ja_nil)) ja_nil)))))) jb_nil)
    (jb_one (js_ret (je_call F__law_deed r__law_deed (ja_cons (je_var 0 (hv := .inl rfl)) (ja_cons (je_var 1 (hv := .inl rfl)) (ja_cons (je_var 4 (hv := .inl rfl)) ja_nil))))))))))
def N_law : List Str := ["_law_script", "_law_tape_here", "_law_game_here", "_law_book", "_law_row", "_law_k", "_law_way", "_law_deed_here", "_law_at", "_law_due_here", "_law_fresh"]
theorem sc_law : FnScope N_law ["_law_script"] (defScope (top 81)) := ⟨rfl, rfl, rfl, by decide +kernel, rfl, by decide +kernel, by decide +kernel⟩
def t_law (K : PySem.W.Frag) (s__law_game : DSp) (s_Book : DSp) (s__law_run : DSp) (s__law_draw : DSp) (s__law_shown_right : DSp) (s__law_alike : DSp) (s_add : DSp) (s__law_any_deed : DSp) (s__law_due : DSp) (s__law_tried : DSp) : RS :=
    (rSeq (rSet 2 (rCall .no s__law_game (rCons (rVar 1) (rCons (rOp gSub (rOp gPow (rC (.int 10)) (rC (.int 6))) (rC (.int 1))) rNil))))
    (rSeq (rSet 3 (rMake (He.ga K "Book") s_Book (rCons (rVar 2) rNil)))
    (rSeq (rSet 4 (rCall .no s__law_run (rCons (rVar 1) (rCons (rVar 2) (rCons (rOp gIx (rLst (rCons (rC (.int 6)) (rCons (rC (.int 30)) rNil))) (rCall .no s__law_draw (rCons (rVar 1) (rCons (rC (.int 2)) rNil)))) rNil)))))
    (rSeq (rIfS (rNot (rB (rCall .no s__law_shown_right (rCons (rVar 1) (rCons (rVar 3) (rCons (rVar 2) (rCons (rLst rNil) rNil))))))) (rRet (rC (.bl false))) rNext)
    (rSeq (rForR (rCB gLen (rCons (rVar 4) rNil)) (gnD 5)
    (rIfS (rNot (rB (rCall .no s__law_alike (rCons (rMeth (He.ga K "Book") "add" .cold s_add (rVar 3) (rCons (rOp gIx (rVar 4) (rVar 5)) rNil)) (rCons (rOp gAdd (rVar 5) (rC (.int 1))) rNil))))) (rRet (rC (.bl false))) rNext))
    (rSeq (rForR (rOp gAdd (rC (.int 4)) (rCall .no s__law_draw (rCons (rVar 1) (rCons (rC (.int 6)) rNil)))) (gnD 5)
    (rSeq (rSet 6 (rOp gIx (rLst (rCons (rC (.str "add")) (rCons (rC (.str "back")) (rCons (rC (.str "right")) (rCons (rC (.str "in")) (rCons (rC (.str "out")) (rCons (rC (.str "right")) (rCons (rC (.str "in")) rNil)))))))) (rCall .no s__law_draw (rCons (rVar 1) (rCons (rC (.int 7)) rNil)))))
    (rSeq (rSet 7 (rCall .no s__law_any_deed (rCons (rVar 1) (rCons (rVar 2) (rCons (rVar 4) rNil)))))
    (rSeq (rSet 8 (rCall .no s__law_draw (rCons (rVar 1) (rCons (rOp gAdd (rCB gLen (rCons (rVar 4) rNil)) (rC (.int 3))) rNil))))
    (rSeq (rIfS (rB (rOp GEq (rCall .no s__law_draw (rCons (rVar 1) (rCons (rC (.int 12)) rNil))) (rC (.int 11)))) (rSet 8 (rOp gIx (rLst (rCons (rUn gNeg (rC (.int 1))) (rCons (rOp gPow (rC (.int 10)) (rC (.int 9))) rNil))) (rCall .no s__law_draw (rCons (rVar 1) (rCons (rC (.int 2)) rNil))))) rNext)
    (rSeq (rAsg (rCall .no s__law_due (rCons (rVar 2) (rCons (rVar 4) (rCons (rVar 6) (rCons (rVar 8) (rCons (rVar 7) rNil)))))) (gtD 2 (gsCons (gnD 9) (gsCons (gnD 10) gsNil))))
    (rSeq (rIfS (rNot (rB (rCall .no s__law_alike (rCons (rCall .no s__law_tried (rCons (rVar 3) (rCons (rVar 6) (rCons (rVar 8) (rCons (rVar 7) rNil))))) (rCons (rVar 9) rNil))))) (rRet (rC (.bl false))) rNext)
    (rSeq (rSet 4 (rVar 10))
    (rIfS (rNot (rB (rCall .no s__law_shown_right (rCons (rVar 1) (rCons (rVar 3) (rCons (rVar 2) (rCons (rVar 4) rNil))))))) (rRet (rC (.bl false))) rNext)))))))))
    (rRet (rC (.bl true)))))))))
theorem w_law {P : Program} {w : World} {K : PySem.W.Frag} {mg : Str → Option Value} {base : Heap} {f : Addr} {cdv : Value} {A : Around} {outer : List Env} {s : Shared} {H : Hp} {E : XK} {s__law_game : DSp} {s_Book : DSp} {s__law_run : DSp} {s__law_draw : DSp} {s__law_shown_right : DSp} {s__law_alike : DSp} {s_add : DSp} {s__law_any_deed : DSp} {s__law_due : DSp} {s__law_tried : DSp} (T : Tx K mg) (hu : (A.deeper (envOfC "law" (defScope (top 81)) s.heap.objs.size f cdv)).units + 64 < cLine) {k__law_game : Nat} (F__law_game : Ok P w K mg base .no k__law_game "_law_game" ["_law_tape_here", "_law_great"] s__law_game) (r__law_game : Room k__law_game (A.deeper (envOfC "law" (defScope (top 81)) s.heap.objs.size f cdv))) {k_Book : Nat} (F_Book : OkC P w K mg base k_Book "Book" ["self", "game"] s_Book) (r_Book : Room (k_Book + 1) (A.deeper (envOfC "law" (defScope (top 81)) s.heap.objs.size f cdv))) {k__law_run : Nat} (F__law_run : Ok P w K mg base .no k__law_run "_law_run" ["_law_tape_here", "_law_game_here", "_law_most"] s__law_run) (r__law_run : Room k__law_run (A.deeper (envOfC "law" (defScope (top 81)) s.heap.objs.size f cdv))) {k__law_draw : Nat} (F__law_draw : Ok P w K mg base .no k__law_draw "_law_draw" ["_law_tape_here", "_law_many"] s__law_draw) (r__law_draw : Room k__law_draw (A.deeper (envOfC "law" (defScope (top 81)) s.heap.objs.size f cdv))) {k__law_shown_right : Nat} (F__law_shown_right : Ok P w K mg base .no k__law_shown_right "_law_shown_right" ["_law_tape_here", "_law_book", "_law_game_here", "_law_row"] s__law_shown_right) (r__law_shown_right : Room k__law_shown_right (A.deeper (envOfC "law" (defScope (top 81)) s.heap.objs.size f cdv))) {k__law_alike : Nat} (F__law_alike : Ok P w K mg base .no k__law_alike "_law_alike" ["_law_found", "_law_due_here"] s__law_alike) (r__law_alike : Room k__law_alike (A.deeper (envOfC "law" (defScope (top 81)) s.heap.objs.size f cdv))) {k_add : Nat} (F_add : OkM P w K mg base .cold k_add (He.ga K "Book") "add" ["self", "deed"] s_add) (r_add : Room k_add (A.deeper (envOfC "law" (defScope (top 81)) s.heap.objs.size f cdv))) {k__law_any_deed : Nat} (F__law_any_deed : Ok P w K mg base .no k__law_any_deed "_law_any_deed" ["_law_tape_here", "_law_game_here", "_law_row"] s__law_any_deed) (r__law_any_deed : Room k__law_any_deed (A.deeper (envOfC "law" (defScope (top 81)) s.heap.objs.size f cdv))) {k__law_due : Nat} (F__law_due : Ok P w K mg base .no k__law_due "_law_due" ["_law_game_here", "_law_row", "_law_way", "_law_at", "_law_deed_here"] s__law_due) (r__law_due : Room k__law_due (A.deeper (envOfC "law" (defScope (top 81)) s.heap.objs.size f cdv))) {k__law_tried : Nat} (F__law_tried : Ok P w K mg base .no k__law_tried "_law_tried" ["_law_book", "_law_way", "_law_at", "_law_deed_here"] s__law_tried) (r__law_tried : Room k__law_tried (A.deeper (envOfC "law" (defScope (top 81)) s.heap.objs.size f cdv))) :
    JB (cxOf CX0 P w K mg base N_law "law" (defScope (top 81)) f cdv A outer s H E).nox (defBody (top 81)).tail (t_law K s__law_game s_Book s__law_run s__law_draw s__law_shown_right s__law_alike s_add s__law_any_deed s__law_due s__law_tried) :=
    (jb_cons (js_set 2 sc_law.nd (je_call F__law_game r__law_game (ja_cons (je_var 1 (hv := .inl rfl)) (ja_cons (je_op p_sub (je_op p_pow je_int je_int) je_int) ja_nil))))
    (jb_cons (js_set 3 sc_law.nd (je_make F_Book r_Book (ja_cons (je_var 2 (hv := .inl rfl)) ja_nil)))
    (jb_cons (js_set 4 sc_law.nd (je_call F__law_run r__law_run (ja_cons (je_var 1 (hv := .inl rfl)) (ja_cons (je_var 2 (hv := .inl rfl)) (ja_cons (jv_ix (je_lst (ja_cons je_int (ja_cons je_int ja_nil))) (je_call F__law_draw r__law_draw (ja_cons (je_var 1 (hv := .inl rfl)) (ja_cons je_int ja_nil)))) ja_nil)))))
    (jb_cons (js_if (jt_not (jt_val (je_call F__law_shown_right r__law_shown_right (ja_cons (je_var 1 (hv := .inl rfl)) (ja_cons (je_var 3 (hv := .inl rfl)) (ja_cons (je_var 2 (hv := .inl rfl)) (ja_cons (je_lst ja_nil) ja_nil))))))) (jb_one (js_ret je_bl)) jb_nil)
    (jb_cons (js_forR PassesOwn.never rfl rfl T.f_range (je_callB p_len rfl T.f_len Boot.«len» (ja_cons (je_var 4 (hv := .inl rfl)) ja_nil)) (jg_name 5 sc_law.nd)
    (jb_one (js_if (jt_not (jt_val (je_call F__law_alike r__law_alike (ja_cons (je_meth F_add r_add (je_var 3 (hv := .inl rfl)) (ja_cons (jv_ix (je_var 4 (hv := .inl rfl)) (je_var 5 (hv := .inl rfl))) ja_nil)) (ja_cons (je_op p_add (je_var 5 (hv := .inl rfl)) je_int) ja_nil))))) (jb_one (js_ret je_bl)) jb_nil)))
    (jb_cons (js_forR PassesOwn.never rfl rfl T.f_range (je_op p_add je_int (je_call F__law_draw r__law_draw (ja_cons (je_var 1 (hv := .inl rfl)) (ja_cons je_int ja_nil)))) (jg_name 5 sc_law.nd)
    (jb_cons (js_set 6 sc_law.nd (jv_ix (je_lst (ja_cons je_str (ja_cons je_str (ja_cons je_str (ja_cons je_str (ja_cons je_str (ja_cons je_str (ja_cons je_str ja_nil)))))))) (je_call F__law_draw r__law_draw (ja_cons (je_var 1 (hv := .inl rfl)) (ja_cons je_int ja_nil)))))
    (jb_cons (js_set 7 sc_law.nd (je_call F__law_any_deed r__law_any_deed (ja_cons (je_var 1 (hv := .inl rfl)) (ja_cons (je_var 2 (hv := .inl rfl)) (ja_cons (je_var 4 (hv := .inl rfl)) ja_nil)))))
    (jb_cons (js_set 8 sc_law.nd (je_call F__law_draw r__law_draw (ja_cons (je_var 1 (hv := .inl rfl)) (ja_cons (je_op p_add (je_callB p_len rfl T.f_len Boot.«len» (ja_cons (je_var 4 (hv := .inl rfl)) ja_nil)) je_int) ja_nil))))
    (jb_cons (js_if (jt_cmp (p_eq hu) (je_call F__law_draw r__law_draw (ja_cons (je_var 1 (hv := .inl rfl)) (ja_cons je_int ja_nil))) je_int) (jb_one (js_set 8 sc_law.nd (jv_ix (je_lst (ja_cons (jv_neg je_int) (ja_cons (je_op p_pow je_int je_int) ja_nil))) (je_call F__law_draw r__law_draw (ja_cons (je_var 1 (hv := .inl rfl)) (ja_cons je_int ja_nil)))))) jb_nil)
    (jb_cons (js_asg (je_call F__law_due r__law_due (ja_cons (je_var 2 (hv := .inl rfl)) (ja_cons (je_var 4 (hv := .inl rfl)) (ja_cons (je_var 6 (hv := .inl rfl)) (ja_cons (je_var 8 (hv := .inl rfl)) (ja_cons (je_var 7 (hv := .inl rfl)) ja_nil)))))) (jg_tup rfl (jgs_cons (jg_name 9 sc_law.nd) (jgs_cons (jg_name 10 sc_law.nd) jgs_nil))))
    (jb_cons (js_if (jt_not (jt_val (je_call F__law_alike r__law_alike (ja_cons (je_call F__law_tried r__law_tried (ja_cons (je_var 3 (hv := .inl rfl)) (ja_cons (je_var 6 (hv := .inl rfl)) (ja_cons (je_var 8 (hv := .inl rfl)) (ja_cons (je_var 7 (hv := .inl rfl)) ja_nil))))) (ja_cons (je_var 9 (hv := .inl rfl)) ja_nil))))) (jb_one (js_ret je_bl)) jb_nil)
    (jb_cons (js_set 4 sc_law.nd (je_var 10 (hv := .inl rfl)))
    (jb_one (js_if (jt_not (jt_val (je_call F__law_shown_right r__law_shown_right (ja_cons (je_var 1 (hv := .inl rfl)) (ja_cons (je_var 3 (hv := .inl rfl)) (ja_cons (je_var 2 (hv := .inl rfl)) (ja_cons (je_var 4 (hv := .inl rfl)) ja_nil))))))) (jb_one (js_ret je_bl)) jb_nil))))))))))
    (jb_one (js_ret je_bl))))))))
end Tal
set_option maxHeartbeats 4000000
/-! promises: what is common -/
namespace Tal
open PySem PySem.Spec PyProof.Rows L2
/-- a list, or what is no reference -/
def Known (M : Mp) : D → Prop
  | .ref a => ∃ xs, M a = some (.lst xs)
  | .ty _ => False
  | _ => True
/-- .. and what may be compared -/
structure Deed (M : Mp) (x : D) : Prop where
  k : Known M x
  e : ∃ p, PyOf M x p ∧ SeqAt.shaped p = true
theorem Known.le {M M' : Mp} (l : Le M M') {x : D} (h : Known M x) : Known M' x := by
  cases x <;> first | exact h | (obtain ⟨xs, e⟩ := h; exact ⟨xs, l _ _ e⟩)
mutual
theorem PyOf.le {M M' : Mp} (l : Le M M') : ∀ {x : D} {p : PyData}, PyOf M x p → PyOf M' x p
  | _, _, .non => .non
  | _, _, .bl b => .bl b
  | _, _, .int b => .int b
  | _, _, .str b => .str b
  | _, _, .tup h => .tup (PyOfs.le l h)
  | _, _, .lst e h => .lst (l _ _ e) (PyOfs.le l h)
theorem PyOfs.le {M M' : Mp} (l : Le M M') : ∀ {x : List D} {p : List PyData}, PyOfs M x p → PyOfs M' x p
  | _, _, .nil => .nil
  | _, _, .cons h t => .cons (PyOf.le l h) (PyOfs.le l t)
end
theorem Deed.le {M M' : Mp} (l : Le M M') {x : D} (h : Deed M x) : Deed M' x := ⟨h.k.le l, let ⟨p, a, b⟩ := h.e; ⟨p, a.le l, b⟩⟩
theorem br_y {p : Prop} [Decidable p] {a b : Prop} (h : p) (q : a) : br (decide p) a b := br_p (fun _ => q) fun z => absurd h z
theorem br_n {p : Prop} [Decidable p] {a b : Prop} (h : ¬ p) (q : b) : br (decide p) a b := br_p (fun z => absurd z h) fun _ => q
theorem dr {Q : DQ} {d : D} {M : Mp} (q : Q d M) : Dr Q d M := ⟨M, .refl M, q⟩
theorem drQ {Q : DQ} {d d' : D} {M : Mp} (q : Q d M) (e : d = d') : Dr Q d' M := ⟨M, .refl M, e ▸ q⟩
theorem drE {Q : DQ} {d d' : D} {M M' : Mp} (q : Q d M) (l : Le M M') (e : d = d') : Dr Q d' M' := ⟨M, l, e ▸ q⟩
theorem atI_nat {α : Type} {xs : List α} {k : Nat} {v : α} (h : xs[k]? = some v) : atI xs (k : Int) = some v := by
  have hk : k < xs.length := (List.getElem?_eq_some_iff.mp h).1
  unfold atI ixN
  rw [if_pos (by omega), if_pos (by omega), Option.bind_some, Int.toNat_natCast]
  exact h
theorem atI_last {α : Type} {xs : List α} {v : α} (h : xs[xs.length - 1]? = some v) : atI xs (-1) = some v := by
  have hk : xs.length - 1 < xs.length := (List.getElem?_eq_some_iff.mp h).1
  unfold atI ixN
  rw [if_neg (by omega), if_pos (by omega), Option.bind_some]
  have e : ((-1 : Int) + (xs.length : Int)).toNat = xs.length - 1 := by omega
  rw [e]; exact h
theorem cut_lo {xs : List D} {k : Nat} (h : k ≤ xs.length) : cutD xs none (some (k : Int)) = xs.take k := by
  unfold cutD HT.sIx
  simp only [List.drop_zero, Nat.sub_zero]
  rw [if_neg (by omega), Int.toNat_natCast, Nat.min_eq_left h]
theorem cut_hi {xs : List D} {k : Nat} (h : k ≤ xs.length) : cutD xs (some (k : Int)) none = xs.drop k := by
  unfold cutD
  rw [HT.sIx_nat, HT.sIx_none, Nat.min_eq_left h]
  exact List.take_of_length_le (by simp)
theorem set_cut {α : Type} {xs : List α} {k : Nat} {v : α} (h : k < xs.length) : xs.take k ++ [v] ++ xs.drop (k + 1) = xs.set k v := by
  rw [List.set_eq_take_append_cons_drop, if_pos h]; simp
theorem sz {n : Nat} (h : n ≤ 100000) : n ≤ sizeLine := by rw [sizeLine_eq]; omega
theorem sideMod {k n : Nat} : ((k : Int) + 1) % (n : Int) = (((k + 1) % n : Nat) : Int) := by rw [Int.natCast_emod]; rfl
/-- comparing with a text -/
def isName (n : Str) : D → Bool
  | .str z => decide (n = z)
  | _ => false
theorem shaped_str {n : Str} (h : PyData.strOk n = true) : SeqAt.shaped (.str n) = true := by
  unfold SeqAt.shaped PyData.canLay0 PyData.depth
  rw [h]; rfl
theorem gEq_name {n : Str} {x : D} {M : Mp} {Q : DQ} (hn : PyData.strOk n = true) (h : Deed M x) (q : Q (.bl (isName n x)) M) : GEq (.str n) x M Q := by
  obtain ⟨k, p, hp, hs⟩ := h
  refine ⟨?_⟩
  cases hp with
  | tup h => exact ⟨.str n, _, .str n, .tup h, shaped_str hn, hs, q⟩
  | lst e h => exact ⟨.str n, _, .str n, .lst e h, shaped_str hn, hs, q⟩
  | _ => exact q
/-! ### comprehensions -/
theorem lcD {n : Nat} {item : Nat → D → Prop} {i : Nat} {te : RE} {δ : Dst} {M1 : Mp} {Q : DQ} (ys : List D) (hn : ys.length = n)
    (h : ∀ (p : Addr) (acc : List D) (k : Nat) (d y : D) (R : DQ), M1 p = none → item k d → ys[k]? = some y → (∀ M', Le (mup M1 p (.lst acc)) M' → R y M') → te (δ.set i (some d)) (mup M1 p (.lst acc)) R XQ0)
    (q : ∀ p, M1 p = none → Q (.ref p) (mup M1 p (.lst ys))) : rLcD n item i te δ M1 Q := fun p np => by
  refine ⟨fun k acc => acc = ys.take k, by simp, fun k d acc hk hi e => ?_, fun acc e => ?_⟩
  · subst e
    have hy : ys[k]? = some ys[k] := List.getElem?_eq_getElem (by omega)
    refine h p _ k d ys[k] _ np hi hy fun M' le => ⟨le, ?_⟩
    show ys.take k ++ [ys[k]] = ys.take (k + 1)
    rw [List.take_succ, hy]; rfl
  · subst e
    rw [← hn, List.take_length]; exact q p np
theorem lcDT {n : Nat} {item : Nat → D → Prop} {i : Nat} {tt : RT} {te : RE} {δ : Dst} {M1 : Mp} {Q : DQ} (f : Nat → Option D)
    (h : ∀ (p : Addr) (acc : List D) (k : Nat) (d : D) (R : Bool → Mp → Prop), M1 p = none → item k d → k < n → (∀ M', Le (mup M1 p (.lst acc)) M' → R (f k).isSome M') → tt (δ.set i (some d)) (mup M1 p (.lst acc)) R XQ0)
    (h2 : ∀ (p : Addr) (acc : List D) (k : Nat) (d y : D) (R : DQ), M1 p = none → item k d → k < n → f k = some y → (∀ M', Le (mup M1 p (.lst acc)) M' → R y M') → te (δ.set i (some d)) (mup M1 p (.lst acc)) R XQ0)
    (q : ∀ p, M1 p = none → Q (.ref p) (mup M1 p (.lst ((List.range n).filterMap f)))) : rLcDT n item i tt te δ M1 Q := fun p np => by
  refine ⟨fun k acc => acc = (List.range k).filterMap f, rfl, fun k d acc hk hi e => ?_, fun acc e => by subst e; exact q p np⟩
  subst e
  refine h p _ k d _ np hi hk fun M' le => ⟨le, ?_⟩
  cases hf : f k with
  | none =>
    rw [if_neg (by simp)]
    show _ = (List.range (k + 1)).filterMap f
    rw [List.range_succ, List.filterMap_append, List.filterMap_cons, hf]; simp
  | some y =>
    rw [if_pos (by simp)]
    refine h2 p _ k d y _ np hi hk hf fun M2 le2 => ⟨le2, ?_⟩
    show _ = (List.range (k + 1)).filterMap f
    rw [List.range_succ, List.filterMap_append, List.filterMap_cons, hf]; simp
/-! ### small defs -/
section
variable {P : Program} {w : World} {K : PySem.W.Frag} {mg : Str → Option Value} {base : Heap}
def between (lo hi : Int) : D → Bool
  | .int i => decide (lo ≤ i) && decide (i ≤ hi)
  | _ => false
def sp_is_between : DSp := fun ds M Q _ => ∃ x lo hi, ds = [x, .int lo, .int hi] ∧ Known M x ∧ Q (.bl (between lo hi x)) M
theorem ok_is_between (T : Tx K mg)  : Ok P w K mg base .no (1) "is_between" ["thing", "low", "high"] (sp_is_between) :=
  ok_no T.d_is_between T.g_is_between sc_is_between (fun _ _ _ _ _ _ us hl => match us, hl with | [_, _, _], _ => rfl) (fun ds M Q E h => by first | (obtain ⟨_, rfl, _⟩ := h; rfl) | (obtain ⟨_, _, rfl, _⟩ := h; rfl) | (obtain ⟨_, _, _, rfl, _⟩ := h; rfl) | (obtain ⟨_, _, _, _, rfl, _⟩ := h; rfl) | (obtain ⟨_, _, _, _, _, rfl, _⟩ := h; rfl) | (obtain ⟨_, _, _, _, _, _, rfl, _⟩ := h; rfl) | (obtain ⟨_, _, _, _, _, _, _, rfl, _⟩ := h; rfl) | (obtain ⟨_, _, _, _, _, _, _, _, rfl, _⟩ := h; rfl) | (obtain ⟨_, _, _, _, _, _, _, _, _, rfl, _⟩ := h; rfl) | (obtain ⟨_, _, _, _, _, _, _, _, _, _, rfl, _⟩ := h; rfl) | (obtain ⟨_, _, _, _, _, _, _, _, _, _, _, rfl, _⟩ := h; rfl)) fun f cdv A outer s H E hr => ⟨_, w_is_between T (hu_of hr) , fun ds M Q E h => by
  obtain ⟨x, lo, hi, rfl, kx, q⟩ := h
  cases x with
  | int i => exact br_p (fun h1 => dr (by simpa [between, h1] using q)) (fun h1 => dr (by simpa [between, h1] using q))
  | ref a => obtain ⟨xs, e⟩ := kx; exact ⟨xs, e, dr q⟩
  | ty n => exact kx.elim
  | _ => exact dr q⟩
/-- a tuple with one item anew -/
def sp_with_count : DSp := fun ds M Q _ => ∃ (xs : List D) (k : Nat) (v : D), ds = [.tup xs, .int k, v] ∧ k < xs.length ∧ xs.length ≤ 1000 ∧ Q (.tup (xs.set k v)) M
theorem ok_with_count (T : Tx K mg)  : Ok P w K mg base .no (1) "with_count" ["counts", "side", "count"] (sp_with_count) :=
  ok_no T.d_with_count T.g_with_count sc_with_count (fun _ _ _ _ _ _ us hl => match us, hl with | [_, _, _], _ => rfl) (fun ds M Q E h => by first | (obtain ⟨_, rfl, _⟩ := h; rfl) | (obtain ⟨_, _, rfl, _⟩ := h; rfl) | (obtain ⟨_, _, _, rfl, _⟩ := h; rfl) | (obtain ⟨_, _, _, _, rfl, _⟩ := h; rfl) | (obtain ⟨_, _, _, _, _, rfl, _⟩ := h; rfl) | (obtain ⟨_, _, _, _, _, _, rfl, _⟩ := h; rfl) | (obtain ⟨_, _, _, _, _, _, _, rfl, _⟩ := h; rfl) | (obtain ⟨_, _, _, _, _, _, _, _, rfl, _⟩ := h; rfl) | (obtain ⟨_, _, _, _, _, _, _, _, _, rfl, _⟩ := h; rfl) | (obtain ⟨_, _, _, _, _, _, _, _, _, _, rfl, _⟩ := h; rfl) | (obtain ⟨_, _, _, _, _, _, _, _, _, _, _, rfl, _⟩ := h; rfl)) fun f cdv A outer s H E hr => ⟨_, w_with_count T (hu_of hr) , fun ds M Q E h => by
  obtain ⟨xs, k, v, rfl, hk, hl, q⟩ := h
  have e1 := cut_lo (xs := xs) (k := k) (by omega)
  have e2 := cut_hi (xs := xs) (k := k + 1) (by omega)
  refine ⟨sz (by show (cutD xs none (some (k : Int))).length + 1 ≤ _; rw [e1, List.length_take]; omega), ?_⟩
  refine ⟨sz (by show (cutD xs none (some (k : Int)) ++ [v]).length + (cutD xs (some ((k : Int) + 1)) none).length ≤ _; rw [e1, show ((k : Int) + 1) = ((k + 1 : Nat) : Int) from rfl, e2]; simp; omega), ?_⟩
  refine drQ q ?_
  show D.tup (xs.set k v) = D.tup (cutD xs none (some (k : Int)) ++ [v] ++ cutD xs (some ((k + 1 : Nat) : Int)) none)
  rw [e1, e2, set_cut hk]⟩

/-! ### downs -/
def letters : Str := "abcdefghijklmnopqrstuvwxyz"
def figures : Str := "0123456789"
structure Name (z : Str) : Prop where
  l1 : 1 ≤ z.length
  l8 : z.length ≤ 8
  hd : ∃ c, z.cps[0]? = some c ∧ c ∈ letters.cps.toList
  all : ∀ c ∈ z.cps.toList, c ∈ letters.cps.toList ∨ c ∈ figures.cps.toList
theorem Name.ok {z : Str} (h : Name z) : PyData.strOk z = true := by
  unfold PyData.strOk
  rw [← Array.all_toList, List.all_eq_true]
  intro c hc
  have h1 : ∀ c ∈ letters.cps.toList, c < 1114112 := by decide +kernel
  have h2 : ∀ c ∈ figures.cps.toList, c < 1114112 := by decide +kernel
  rcases h.all c hc with q | q
  · exact decide_eq_true (h1 c q)
  · exact decide_eq_true (h2 c q)
structure Throw where
  name : Str
  worth : Int
  ends : Bool
def Throw.d (t : Throw) : D := .tup [.str t.name, .int t.worth, .bl t.ends]
structure Down where
  sides : Nat
  start : Int
  turns : Int
  throws : List Throw
def Down.d (g : Down) : D := .tup [.int g.sides, .int g.start, .int g.turns, .tup (g.throws.map Throw.d)]
structure DSt where
  counts : List Int
  side : Nat
  thrown : Int
  held : Int
def nums (l : List Int) : List D := l.map D.int
def DSt.d (s : DSt) : D := .tup [.tup (nums s.counts), .int s.side, .int s.thrown, .int s.held]
structure Down.Ok (g : Down) : Prop where
  s1 : 1 ≤ g.sides
  s3 : g.sides ≤ 3
  b1 : 1 ≤ g.start
  b2 : g.start ≤ 1000000
  t1 : 1 ≤ g.turns
  t3 : g.turns ≤ 3
  n1 : 1 ≤ g.throws.length
  n5 : g.throws.length ≤ 5
  nm : ∀ t ∈ g.throws, Name t.name
  wo : ∀ t ∈ g.throws, 0 ≤ t.worth ∧ t.worth ≤ 1000000
  nd : (g.throws.map (·.name)).Nodup
/-- sides and counts fit -/
structure DSt.Fit (g : Down) (s : DSt) : Prop where
  l : s.counts.length = g.sides
  s : s.side < g.sides
def Down.find (g : Down) (x : D) : Option Throw := g.throws.find? fun t => isName t.name x
def Down.begun (g : Down) : DSt := ⟨List.replicate g.sides g.start, 0, 0, g.start⟩
def Down.turn (g : Down) (cs : List Int) (k : Nat) : DSt := ⟨cs, (k + 1) % g.sides, 0, cs.getD ((k + 1) % g.sides) 0⟩
def Down.playL (g : Down) (s : DSt) (t : Throw) (left : Int) : DSt × Bool :=
  if left = 0 ∧ t.ends = true then (⟨s.counts.set s.side 0, s.side, s.thrown + 1, s.held⟩, true)
  else if left ≤ 0 then (g.turn (s.counts.set s.side s.held) s.side, false)
  else if s.thrown + 1 = g.turns then (g.turn (s.counts.set s.side left) s.side, false)
  else (⟨s.counts.set s.side left, s.side, s.thrown + 1, s.held⟩, false)
def Down.play (g : Down) (s : DSt) (t : Throw) : DSt × Bool := g.playL s t (s.counts.getD s.side 0 - t.worth)
theorem nums_get {l : List Int} {k : Nat} (h : k < l.length) : (nums l)[k]? = some (.int (l.getD k 0)) := by
  unfold nums
  rw [List.getElem?_map, List.getElem?_eq_getElem h, List.getD_eq_getElem?_getD, List.getElem?_eq_getElem h]; rfl
theorem nums_set {l : List Int} {k : Nat} {v : Int} : (nums l).set k (.int v) = nums (l.set k v) := by unfold nums; rw [List.map_set]
theorem nums_len {l : List Int} : (nums l).length = l.length := by unfold nums; simp
def sp_down_begun : DSp := fun ds M Q _ => ∃ g : Down, ds = [g.d] ∧ g.Ok ∧ Q g.begun.d M
theorem ok_down_begun (T : Tx K mg)  : Ok P w K mg base .no (1) "down_begun" ["down"] (sp_down_begun) :=
  ok_no T.d_down_begun T.g_down_begun sc_down_begun (fun _ _ _ _ _ _ us hl => match us, hl with | [_], _ => rfl) (fun ds M Q E h => by first | (obtain ⟨_, rfl, _⟩ := h; rfl) | (obtain ⟨_, _, rfl, _⟩ := h; rfl) | (obtain ⟨_, _, _, rfl, _⟩ := h; rfl) | (obtain ⟨_, _, _, _, rfl, _⟩ := h; rfl) | (obtain ⟨_, _, _, _, _, rfl, _⟩ := h; rfl) | (obtain ⟨_, _, _, _, _, _, rfl, _⟩ := h; rfl) | (obtain ⟨_, _, _, _, _, _, _, rfl, _⟩ := h; rfl) | (obtain ⟨_, _, _, _, _, _, _, _, rfl, _⟩ := h; rfl) | (obtain ⟨_, _, _, _, _, _, _, _, _, rfl, _⟩ := h; rfl) | (obtain ⟨_, _, _, _, _, _, _, _, _, _, rfl, _⟩ := h; rfl) | (obtain ⟨_, _, _, _, _, _, _, _, _, _, _, rfl, _⟩ := h; rfl)) fun f cdv A outer s H E hr => ⟨_, w_down_begun T (hu_of hr) , fun ds M Q E h => by
  obtain ⟨g, rfl, o, q⟩ := h
  have o1 := o.s1; have o3 := o.s3
  refine ⟨_, rfl, _, rfl, by omega, by omega, _, rfl, drQ q ?_⟩
  show DSt.d g.begun = D.tup [.tup (List.replicate (g.sides : Int).toNat (.int g.start)), .int 0, .int 0, .int g.start]
  unfold DSt.d Down.begun nums
  rw [Int.toNat_natCast, List.map_replicate]; rfl⟩
theorem find_at {p : Throw → Bool} : ∀ {l : List Throw} {i : Nat} {t : Throw}, l[i]? = some t → (∀ u ∈ l.take i, p u = false) → p t = true → l.find? p = some t
  | [], _, _, h, _, _ => by simp at h
  | u :: l, 0, t, h, _, k => by simp at h; subst h; simp [List.find?, k]
  | u :: l, i + 1, t, h, no, k => by
    have z := no u (by simp)
    rw [List.find?_cons, z]
    exact find_at (by simpa using h) (fun v hv => no v (by simp [hv])) k
def sp_throw_named (K : PySem.W.Frag) : DSp := fun ds M Q E => ∃ (g : Down) (x : D), ds = [g.d, x] ∧ g.Ok ∧ Deed M x ∧ (∀ t, g.find x = some t → Q t.d M) ∧ (g.find x = none → E ⟨He.ga K "NoThrow", none⟩ M)
theorem ok_throw_named (T : Tx K mg)  : Ok P w K mg base .cold (1) "throw_named" ["down", "name"] (sp_throw_named K) :=
  ok_cold T.d_throw_named T.g_throw_named sc_throw_named (fun _ _ _ _ _ _ us hl => match us, hl with | [_, _], _ => rfl) (fun ds M Q E h => by first | (obtain ⟨_, rfl, _⟩ := h; rfl) | (obtain ⟨_, _, rfl, _⟩ := h; rfl) | (obtain ⟨_, _, _, rfl, _⟩ := h; rfl) | (obtain ⟨_, _, _, _, rfl, _⟩ := h; rfl) | (obtain ⟨_, _, _, _, _, rfl, _⟩ := h; rfl) | (obtain ⟨_, _, _, _, _, _, rfl, _⟩ := h; rfl) | (obtain ⟨_, _, _, _, _, _, _, rfl, _⟩ := h; rfl) | (obtain ⟨_, _, _, _, _, _, _, _, rfl, _⟩ := h; rfl) | (obtain ⟨_, _, _, _, _, _, _, _, _, rfl, _⟩ := h; rfl) | (obtain ⟨_, _, _, _, _, _, _, _, _, _, rfl, _⟩ := h; rfl) | (obtain ⟨_, _, _, _, _, _, _, _, _, _, _, rfl, _⟩ := h; rfl)) fun f cdv A outer s H E hr => ⟨_, w_throw_named T (hu_of hr) , fun ds M Q E h => by
  obtain ⟨g, x, rfl, ok, hx, q, e⟩ := h
  refine ⟨_, rfl, _, rfl, fun i δ M' => M' = M ∧ (∃ o, δ = [some g.d, some x, o]) ∧ ∀ t ∈ g.throws.take i, isName t.name x = false, ⟨rfl, ⟨_, rfl⟩, by simp⟩, ?_, ?_⟩
  · rintro i d δ M' hi ⟨rfl, ⟨o, rfl⟩, no⟩
    obtain ⟨t, ht, rfl⟩ : ∃ t, g.throws[i]? = some t ∧ t.d = d := by
      rw [List.getElem?_map] at hi
      cases z : g.throws[i]? with
      | none => rw [z] at hi; cases hi
      | some t => rw [z] at hi; cases hi; exact ⟨t, rfl, rfl⟩
    have hm : t ∈ g.throws := List.mem_of_getElem? ht
    refine ⟨_, rfl, gEq_name (n := t.name) (ok.nm t hm).ok hx ?_⟩
    show br _ _ _
    refine br_by (fun h1 => dr (q t ?_)) fun h1 => ⟨rfl, ⟨_, rfl⟩, fun u hu => ?_⟩
    · exact find_at ht no h1
    · rcases List.mem_append.mp (by rw [List.take_succ, ht] at hu; exact hu) with z | z
      · exact no u z
      · rw [show u = t by simpa using z]; exact h1
  · rintro δ M' ⟨rfl, ⟨o, rfl⟩, no⟩
    refine ⟨.inr ⟨rfl, rfl⟩, M', .refl M', e ?_⟩
    refine List.find?_eq_none.mpr fun t ht => ?_
    rw [no t (by rw [List.length_map, List.take_length]; exact ht)]; exact Bool.false_ne_true⟩
def sp_turn_ended : DSp := fun ds M Q _ => ∃ (g : Down) (cs : List Int) (k : Nat), ds = [g.d, .tup (nums cs), .int k] ∧ g.Ok ∧ cs.length = g.sides ∧ Q (g.turn cs k).d M
theorem ok_turn_ended (T : Tx K mg)  : Ok P w K mg base .no (1) "turn_ended" ["down", "counts", "side"] (sp_turn_ended) :=
  ok_no T.d_turn_ended T.g_turn_ended sc_turn_ended (fun _ _ _ _ _ _ us hl => match us, hl with | [_, _, _], _ => rfl) (fun ds M Q E h => by first | (obtain ⟨_, rfl, _⟩ := h; rfl) | (obtain ⟨_, _, rfl, _⟩ := h; rfl) | (obtain ⟨_, _, _, rfl, _⟩ := h; rfl) | (obtain ⟨_, _, _, _, rfl, _⟩ := h; rfl) | (obtain ⟨_, _, _, _, _, rfl, _⟩ := h; rfl) | (obtain ⟨_, _, _, _, _, _, rfl, _⟩ := h; rfl) | (obtain ⟨_, _, _, _, _, _, _, rfl, _⟩ := h; rfl) | (obtain ⟨_, _, _, _, _, _, _, _, rfl, _⟩ := h; rfl) | (obtain ⟨_, _, _, _, _, _, _, _, _, rfl, _⟩ := h; rfl) | (obtain ⟨_, _, _, _, _, _, _, _, _, _, rfl, _⟩ := h; rfl) | (obtain ⟨_, _, _, _, _, _, _, _, _, _, _, rfl, _⟩ := h; rfl)) fun f cdv A outer s H E hr => ⟨_, w_turn_ended T (hu_of hr) , fun ds M Q E h => by
  obtain ⟨g, cs, k, rfl, o, hl, q⟩ := h
  have o1 := o.s1
  have hk : (k + 1) % g.sides < cs.length := by rw [hl]; exact Nat.mod_lt _ o1
  refine ⟨_, rfl, by omega, ?_⟩
  rw [sideMod]
  exact ⟨_, atI_nat (nums_get hk), dr q⟩⟩
def sp_down_thrown (K : PySem.W.Frag) : DSp := fun ds M Q E => ∃ (g : Down) (s : DSt) (x : D), ds = [g.d, s.d, x] ∧ g.Ok ∧ s.Fit g ∧ Deed M x ∧ (∀ t, g.find x = some t → Q (.tup [(g.play s t).1.d, .bl (g.play s t).2]) M) ∧ (g.find x = none → E ⟨He.ga K "NoThrow", none⟩ M)
theorem ok_down_thrown (T : Tx K mg)  : Ok P w K mg base .cold (2) "down_thrown" ["down", "stand", "name"] (sp_down_thrown K) :=
  ok_cold T.d_down_thrown T.g_down_thrown sc_down_thrown (fun _ _ _ _ _ _ us hl => match us, hl with | [_, _, _], _ => rfl) (fun ds M Q E h => by first | (obtain ⟨_, rfl, _⟩ := h; rfl) | (obtain ⟨_, _, rfl, _⟩ := h; rfl) | (obtain ⟨_, _, _, rfl, _⟩ := h; rfl) | (obtain ⟨_, _, _, _, rfl, _⟩ := h; rfl) | (obtain ⟨_, _, _, _, _, rfl, _⟩ := h; rfl) | (obtain ⟨_, _, _, _, _, _, rfl, _⟩ := h; rfl) | (obtain ⟨_, _, _, _, _, _, _, rfl, _⟩ := h; rfl) | (obtain ⟨_, _, _, _, _, _, _, _, rfl, _⟩ := h; rfl) | (obtain ⟨_, _, _, _, _, _, _, _, _, rfl, _⟩ := h; rfl) | (obtain ⟨_, _, _, _, _, _, _, _, _, _, rfl, _⟩ := h; rfl) | (obtain ⟨_, _, _, _, _, _, _, _, _, _, _, rfl, _⟩ := h; rfl)) fun f cdv A outer s H E hr => ⟨_, w_down_thrown T (hu_of hr) (ok_throw_named T) (hr.mono (by first | decide | omega)) (ok_with_count T) (hr.mono (by first | decide | omega)) (ok_turn_ended T) (hr.mono (by first | decide | omega)), fun ds M Q E h => by
  obtain ⟨g, s, x, rfl, o, ft, hx, q, e⟩ := h
  have o1 := o.s1; have o3 := o.s3
  have hs : s.side < s.counts.length := by rw [ft.l]; exact ft.s
  refine ⟨rfl, g, x, rfl, o, hx, fun t ht => ?_, fun hn => ?_⟩
  · have q := q t ht
    refine ⟨_, atI_nat (nums_get hs), _, rfl, ?_⟩
    rw [show startD N_down_thrown [g.d, s.d, x] = [some g.d, some s.d, some x, none, none, none, none, none, none] from rfl]
    simp only [List.set_cons_zero, List.set_cons_succ]
    have hw : ∀ v : Int, (nums s.counts).set s.side (.int v) = nums (s.counts.set s.side v) := fun v => nums_set
    have hl : ∀ v : Int, (s.counts.set s.side v).length = g.sides := fun v => by rw [List.length_set]; exact ft.l
    have hq : s.side < (nums s.counts).length ∧ (nums s.counts).length ≤ 1000 := by rw [nums_len, ft.l]; exact ⟨ft.s, by omega⟩
    have eP : g.play s t = g.playL s t (s.counts.getD s.side 0 - t.worth) := rfl
    generalize hleft : s.counts.getD s.side 0 - t.worth = left at eP
    conv => whnf
    simp only [hleft]
    refine ⟨?_⟩
    conv => whnf
    refine br_p (fun h1 => ⟨_, rfl, br_by (fun h2 => ⟨_, _, _, rfl, hq.1, hq.2, drQ q (by rw [eP, Down.playL, if_pos ⟨h1, h2⟩, hw]; rfl)⟩) fun h2 => ?_⟩) fun h1 => ?_
    all_goals
      have hn : ¬ (left = 0 ∧ t.ends = true) := fun z => by
        first
          | exact h1 z.1
          | (rw [h2] at z; exact absurd z.2 Bool.false_ne_true)
      conv => whnf
      refine br_p (fun h3 => ⟨_, _, _, rfl, hq.1, hq.2, g, s.counts.set s.side s.held, s.side, by rw [← hw], o, hl _, drQ q ?_⟩) fun h3 => ⟨_, _, _, rfl, hq.1, hq.2, ?_⟩
      · rw [eP, Down.playL, if_neg hn, if_pos h3]
      · refine ⟨_, rfl, ⟨?_⟩⟩
        conv => whnf
        refine br_p (fun h4 => ⟨g, s.counts.set s.side left, s.side, by rw [← hw], o, hl _, drQ q ?_⟩) fun h4 => drQ q ?_
        · rw [eP, Down.playL, if_neg hn, if_neg h3, if_pos h4]
        · rw [eP, Down.playL, if_neg hn, if_neg h3, if_neg h4, hw]; rfl
  · exact ⟨.inr ⟨rfl, rfl⟩, M, .refl M, e hn⟩⟩
end
end Tal
set_option maxHeartbeats 4000000
/-! lanes -/
namespace Tal
open PySem PySem.Spec PyProof.Rows L2
section
variable {P : Program} {w : World} {K : PySem.W.Frag} {mg : Str → Option Value} {base : Heap}
structure Lane where
  sides : Nat
  pins : Int
  frames : Int
def Lane.d (g : Lane) : D := .tup [.int g.sides, .int g.pins, .int g.frames]
structure Lane.Ok (g : Lane) : Prop where
  s1 : 1 ≤ g.sides
  s3 : g.sides ≤ 3
  p1 : 1 ≤ g.pins
  p2 : g.pins ≤ 20
  f1 : 1 ≤ g.frames
  f2 : g.frames ≤ 12
structure Row where
  done : Int
  ball : Int
  up : Int
  near : Int
  far : Int
  extra : Int
  total : Int
def Row.d (r : Row) : D := .tup [.int r.done, .int r.ball, .int r.up, .int r.near, .int r.far, .int r.extra, .int r.total]
structure LSt where
  rows : List Row
  side : Nat
def rowsD (l : List Row) : List D := l.map Row.d
def LSt.d (s : LSt) : D := .tup [.tup (rowsD s.rows), .int s.side]
def Lane.begun (g : Lane) : LSt := ⟨List.replicate g.sides ⟨0, 0, g.pins, 0, 0, 0, 0⟩, 0⟩
def sp_lane_begun : DSp := fun ds M Q _ => ∃ g : Lane, ds = [g.d] ∧ g.Ok ∧ Q g.begun.d M
theorem ok_lane_begun (T : Tx K mg)  : Ok P w K mg base .no (1) "lane_begun" ["lane"] (sp_lane_begun) :=
  ok_no T.d_lane_begun T.g_lane_begun sc_lane_begun (fun _ _ _ _ _ _ us hl => match us, hl with | [_], _ => rfl) (fun ds M Q E h => by first | (obtain ⟨_, rfl, _⟩ := h; rfl) | (obtain ⟨_, _, rfl, _⟩ := h; rfl) | (obtain ⟨_, _, _, rfl, _⟩ := h; rfl) | (obtain ⟨_, _, _, _, rfl, _⟩ := h; rfl) | (obtain ⟨_, _, _, _, _, rfl, _⟩ := h; rfl) | (obtain ⟨_, _, _, _, _, _, rfl, _⟩ := h; rfl) | (obtain ⟨_, _, _, _, _, _, _, rfl, _⟩ := h; rfl) | (obtain ⟨_, _, _, _, _, _, _, _, rfl, _⟩ := h; rfl) | (obtain ⟨_, _, _, _, _, _, _, _, _, rfl, _⟩ := h; rfl) | (obtain ⟨_, _, _, _, _, _, _, _, _, _, rfl, _⟩ := h; rfl) | (obtain ⟨_, _, _, _, _, _, _, _, _, _, _, rfl, _⟩ := h; rfl)) fun f cdv A outer s H E hr => ⟨_, w_lane_begun T (hu_of hr) , fun ds M Q E h => by
  obtain ⟨g, rfl, o, q⟩ := h
  rw [show startD N_lane_begun [g.d] = [some (g.d)] from rfl]
  have o1 := o.s1; have o3 := o.s3
  refine ⟨_, rfl, _, rfl, by omega, by omega, drQ q ?_⟩
  show LSt.d g.begun = D.tup [.tup (List.replicate (g.sides : Int).toNat (Row.d ⟨0, 0, g.pins, 0, 0, 0, 0⟩)), .int 0]
  unfold LSt.d Lane.begun rowsD
  rw [Int.toNat_natCast, List.map_replicate]; rfl⟩
def Lane.frame (g : Lane) (r : Row) (near far earned : Int) : Row × Bool :=
  if r.done = g.frames - 1 ∧ 0 < earned then (⟨r.done, 0, g.pins, near, far, earned, r.total⟩, false) else (⟨r.done + 1, 0, g.pins, near, far, 0, r.total⟩, true)
def rb (x : Row × Bool) : D := .tup [x.1.d, .bl x.2]
def sp_frame_behind : DSp := fun ds M Q _ => ∃ (g : Lane) (r : Row) (a b c : Int), ds = [g.d, r.d, .int a, .int b, .int c] ∧ Q (rb (g.frame r a b c)) M
theorem ok_frame_behind (T : Tx K mg)  : Ok P w K mg base .no (1) "frame_behind" ["lane", "row", "near", "far", "earned"] (sp_frame_behind) :=
  ok_no T.d_frame_behind T.g_frame_behind sc_frame_behind (fun _ _ _ _ _ _ us hl => match us, hl with | [_, _, _, _, _], _ => rfl) (fun ds M Q E h => by first | (obtain ⟨_, rfl, _⟩ := h; rfl) | (obtain ⟨_, _, rfl, _⟩ := h; rfl) | (obtain ⟨_, _, _, rfl, _⟩ := h; rfl) | (obtain ⟨_, _, _, _, rfl, _⟩ := h; rfl) | (obtain ⟨_, _, _, _, _, rfl, _⟩ := h; rfl) | (obtain ⟨_, _, _, _, _, _, rfl, _⟩ := h; rfl) | (obtain ⟨_, _, _, _, _, _, _, rfl, _⟩ := h; rfl) | (obtain ⟨_, _, _, _, _, _, _, _, rfl, _⟩ := h; rfl) | (obtain ⟨_, _, _, _, _, _, _, _, _, rfl, _⟩ := h; rfl) | (obtain ⟨_, _, _, _, _, _, _, _, _, _, rfl, _⟩ := h; rfl) | (obtain ⟨_, _, _, _, _, _, _, _, _, _, _, rfl, _⟩ := h; rfl)) fun f cdv A outer s H E hr => ⟨_, w_frame_behind T (hu_of hr) , fun ds M Q E h => by
  obtain ⟨g, r, a, b, c, rfl, q⟩ := h
  rw [show startD N_frame_behind [g.d, r.d, .int a, .int b, .int c] = [some (g.d), some (r.d), some (.int a), some (.int b), some (.int c)] from rfl]
  refine ⟨_, rfl, _, rfl, ⟨?_⟩⟩
  conv => whnf
  refine br_p (fun h1 => ?_) fun h1 => ?_
  · conv => whnf
    refine br_p (fun h2 => ⟨_, rfl, _, rfl, _, rfl, drQ q ?_⟩) fun h2 => ⟨_, rfl, _, rfl, _, rfl, drQ q ?_⟩
    · unfold Lane.frame; rw [if_pos ⟨h1, h2⟩]; rfl
    · unfold Lane.frame; rw [if_neg (fun z => h2 z.2)]; rfl
  · refine ⟨_, rfl, _, rfl, _, rfl, drQ q ?_⟩
    unfold Lane.frame; rw [if_neg (fun z => h1 z.1)]; rfl⟩
def Lane.extra (g : Lane) (r : Row) : Row × Bool :=
  if r.extra = 1 then (⟨r.done + 1, 0, g.pins, r.near, r.far, 0, r.total⟩, true) else (⟨r.done, 0, if r.up = 0 then g.pins else r.up, r.near, r.far, r.extra - 1, r.total⟩, false)
def sp_extra_behind : DSp := fun ds M Q _ => ∃ (g : Lane) (r : Row), ds = [g.d, r.d] ∧ Q (rb (g.extra r)) M
theorem ok_extra_behind (T : Tx K mg)  : Ok P w K mg base .no (1) "extra_behind" ["lane", "row"] (sp_extra_behind) :=
  ok_no T.d_extra_behind T.g_extra_behind sc_extra_behind (fun _ _ _ _ _ _ us hl => match us, hl with | [_, _], _ => rfl) (fun ds M Q E h => by first | (obtain ⟨_, rfl, _⟩ := h; rfl) | (obtain ⟨_, _, rfl, _⟩ := h; rfl) | (obtain ⟨_, _, _, rfl, _⟩ := h; rfl) | (obtain ⟨_, _, _, _, rfl, _⟩ := h; rfl) | (obtain ⟨_, _, _, _, _, rfl, _⟩ := h; rfl) | (obtain ⟨_, _, _, _, _, _, rfl, _⟩ := h; rfl) | (obtain ⟨_, _, _, _, _, _, _, rfl, _⟩ := h; rfl) | (obtain ⟨_, _, _, _, _, _, _, _, rfl, _⟩ := h; rfl) | (obtain ⟨_, _, _, _, _, _, _, _, _, rfl, _⟩ := h; rfl) | (obtain ⟨_, _, _, _, _, _, _, _, _, _, rfl, _⟩ := h; rfl) | (obtain ⟨_, _, _, _, _, _, _, _, _, _, _, rfl, _⟩ := h; rfl)) fun f cdv A outer s H E hr => ⟨_, w_extra_behind T (hu_of hr) , fun ds M Q E h => by
  obtain ⟨g, r, rfl, q⟩ := h
  rw [show startD N_extra_behind [g.d, r.d] = [some (g.d), some (r.d), none] from rfl]
  refine ⟨_, rfl, ⟨?_⟩⟩
  conv => whnf
  refine br_p (fun h1 => ⟨_, rfl, _, rfl, _, rfl, _, rfl, _, rfl, drQ q ?_⟩) fun h1 => ⟨_, rfl, ?_⟩
  · unfold Lane.extra; rw [if_pos h1]; rfl
  · simp only [List.set_cons_zero, List.set_cons_succ]
    refine ⟨?_⟩
    conv => whnf
    refine br_p (fun h2 => ⟨_, rfl, ?_⟩) fun h2 => ?_
    · simp only [List.set_cons_zero, List.set_cons_succ]
      refine ⟨_, rfl, _, rfl, _, rfl, _, rfl, _, rfl, drQ q ?_⟩
      unfold Lane.extra; rw [if_neg h1, if_pos h2]; rfl
    · refine ⟨_, rfl, _, rfl, _, rfl, _, rfl, _, rfl, drQ q ?_⟩
      unfold Lane.extra; rw [if_neg h1, if_neg h2]; rfl⟩
def Lane.ball (g : Lane) (r : Row) (p : Int) : Row × Bool :=
  if 0 < r.extra then g.extra ⟨r.done, 0, r.up - p, r.far, 0, r.extra, r.total + p * r.near⟩
  else if r.up = p ∧ r.ball = 0 then g.frame ⟨r.done, r.ball + 1, r.up - p, r.far, 0, 0, r.total + p * r.near + p⟩ (r.far + 1) 1 2
  else if r.up = p then g.frame ⟨r.done, r.ball + 1, r.up - p, r.far, 0, 0, r.total + p * r.near + p⟩ (r.far + 1) 0 1
  else if r.ball = 1 then g.frame ⟨r.done, r.ball + 1, r.up - p, r.far, 0, 0, r.total + p * r.near + p⟩ r.far 0 0
  else (⟨r.done, r.ball + 1, r.up - p, r.far, 0, 0, r.total + p * r.near + p⟩, false)
def sp_row_behind : DSp := fun ds M Q _ => ∃ (g : Lane) (r : Row) (p : Int), ds = [g.d, r.d, .int p] ∧ (0 ≤ p ∧ p ≤ 20) ∧ Q (rb (g.ball r p)) M
theorem ok_row_behind (T : Tx K mg)  : Ok P w K mg base .no (2) "row_behind" ["lane", "row", "pins"] (sp_row_behind) :=
  ok_no T.d_row_behind T.g_row_behind sc_row_behind (fun _ _ _ _ _ _ us hl => match us, hl with | [_, _, _], _ => rfl) (fun ds M Q E h => by first | (obtain ⟨_, rfl, _⟩ := h; rfl) | (obtain ⟨_, _, rfl, _⟩ := h; rfl) | (obtain ⟨_, _, _, rfl, _⟩ := h; rfl) | (obtain ⟨_, _, _, _, rfl, _⟩ := h; rfl) | (obtain ⟨_, _, _, _, _, rfl, _⟩ := h; rfl) | (obtain ⟨_, _, _, _, _, _, rfl, _⟩ := h; rfl) | (obtain ⟨_, _, _, _, _, _, _, rfl, _⟩ := h; rfl) | (obtain ⟨_, _, _, _, _, _, _, _, rfl, _⟩ := h; rfl) | (obtain ⟨_, _, _, _, _, _, _, _, _, rfl, _⟩ := h; rfl) | (obtain ⟨_, _, _, _, _, _, _, _, _, _, rfl, _⟩ := h; rfl) | (obtain ⟨_, _, _, _, _, _, _, _, _, _, _, rfl, _⟩ := h; rfl)) fun f cdv A outer s H E hr => ⟨_, w_row_behind T (hu_of hr) (ok_extra_behind T) (hr.mono (by first | decide | omega)) (ok_frame_behind T) (hr.mono (by first | decide | omega)), fun ds M Q E h => by
  obtain ⟨g, r, p, rfl, hp, q⟩ := h
  rw [show startD N_row_behind [g.d, r.d, .int p] = [some (g.d), some (r.d), some (.int p), none, none, none, none, none, none, none, none] from rfl]
  refine ⟨rfl, ?_⟩
  simp only [List.set_cons_zero, List.set_cons_succ]
  refine ⟨.inl ⟨by omega, by omega⟩, ?_⟩
  conv => whnf
  simp only [List.set_cons_zero, List.set_cons_succ]
  refine br_p (fun h1 => ⟨g, ⟨r.done, 0, r.up - p, r.far, 0, r.extra, r.total + p * r.near⟩, rfl, drQ q ?_⟩) fun h1 => ?_
  · unfold Lane.ball; rw [if_pos h1]
  · refine ⟨?_⟩
    conv => whnf
    refine br_p (fun h2 => ⟨?_⟩) fun h2 => ⟨?_⟩
    · conv => whnf
      refine br_p (fun h3 => ⟨g, ⟨r.done, r.ball + 1, r.up - p, r.far, 0, 0, r.total + p * r.near + p⟩, r.far + 1, 1, 2, rfl, drQ q ?_⟩) fun h3 => ⟨br_p (fun h4 => ⟨g, ⟨r.done, r.ball + 1, r.up - p, r.far, 0, 0, r.total + p * r.near + p⟩, r.far + 1, 0, 1, rfl, drQ q ?_⟩) fun h4 => absurd h2 h4⟩
      · unfold Lane.ball; rw [if_neg h1, if_pos ⟨h2, h3⟩]
      · unfold Lane.ball; rw [if_neg h1, if_neg (fun z => h3 z.2), if_pos h2]
    · conv => whnf
      refine br_p (fun h4 => absurd h4 h2) fun h4 => ⟨?_⟩
      conv => whnf
      refine br_p (fun h5 => ⟨g, ⟨r.done, r.ball + 1, r.up - p, r.far, 0, 0, r.total + p * r.near + p⟩, r.far, 0, 0, rfl, drQ q ?_⟩) fun h5 => drQ q ?_
      · unfold Lane.ball; rw [if_neg h1, if_neg (fun z => h2 z.1), if_neg h2, if_pos h5]
      · unfold Lane.ball; rw [if_neg h1, if_neg (fun z => h2 z.1), if_neg h2, if_neg h5]; rfl⟩

def row0 : Row := ⟨0, 0, 0, 0, 0, 0, 0⟩
structure LSt.Fit (g : Lane) (s : LSt) : Prop where
  l : s.rows.length = g.sides
  k : s.side < g.sides
  u : ∀ r ∈ s.rows, 0 ≤ r.up ∧ r.up ≤ 20
def Lane.rows (g : Lane) (s : LSt) (p : Int) : List Row := s.rows.set s.side (g.ball (s.rows.getD s.side row0) p).1
def Lane.bowl (g : Lane) (s : LSt) (p : Int) : LSt × Bool := (⟨g.rows s p, if (g.ball (s.rows.getD s.side row0) p).2 = true then (s.side + 1) % g.sides else s.side⟩, (g.rows s p).all fun r => decide (r.done = g.frames))
theorem rows_get {l : List Row} {k : Nat} (h : k < l.length) : (rowsD l)[k]? = some (l.getD k row0).d := by
  unfold rowsD
  rw [List.getElem?_map, List.getElem?_eq_getElem h, List.getD_eq_getElem?_getD, List.getElem?_eq_getElem h]; rfl
theorem rows_set {l : List Row} {k : Nat} {v : Row} : (rowsD l).set k v.d = rowsD (l.set k v) := by unfold rowsD; rw [List.map_set]
theorem rows_len {l : List Row} : (rowsD l).length = l.length := by unfold rowsD; simp
theorem rows_mem {l : List Row} {k : Nat} (h : k < l.length) : l.getD k row0 ∈ l := by
  rw [List.getD_eq_getElem?_getD, List.getElem?_eq_getElem h]; exact List.getElem_mem h
/-- the pins that fall, if the deed is such a number -/
def pinsOf (up : Int) : D → Option Int
  | .int p => if 0 ≤ p ∧ p ≤ up then some p else none
  | _ => none
def sp_lane_bowled (K : PySem.W.Frag) : DSp := fun ds M Q E => ∃ (g : Lane) (s : LSt) (x : D), ds = [g.d, s.d, x] ∧ g.Ok ∧ s.Fit g ∧ Known M x ∧ (∀ p, pinsOf (s.rows.getD s.side row0).up x = some p → Q (.tup [(g.bowl s p).1.d, .bl (g.bowl s p).2]) M) ∧
  (pinsOf (s.rows.getD s.side row0).up x = none → E ⟨He.ga K "NoPins", none⟩ M)
theorem ok_lane_bowled (T : Tx K mg)  : Ok P w K mg base .cold (3) "lane_bowled" ["lane", "stand", "pins"] (sp_lane_bowled K) :=
  ok_cold T.d_lane_bowled T.g_lane_bowled sc_lane_bowled (fun _ _ _ _ _ _ us hl => match us, hl with | [_, _, _], _ => rfl) (fun ds M Q E h => by first | (obtain ⟨_, rfl, _⟩ := h; rfl) | (obtain ⟨_, _, rfl, _⟩ := h; rfl) | (obtain ⟨_, _, _, rfl, _⟩ := h; rfl) | (obtain ⟨_, _, _, _, rfl, _⟩ := h; rfl) | (obtain ⟨_, _, _, _, _, rfl, _⟩ := h; rfl) | (obtain ⟨_, _, _, _, _, _, rfl, _⟩ := h; rfl) | (obtain ⟨_, _, _, _, _, _, _, rfl, _⟩ := h; rfl) | (obtain ⟨_, _, _, _, _, _, _, _, rfl, _⟩ := h; rfl) | (obtain ⟨_, _, _, _, _, _, _, _, _, rfl, _⟩ := h; rfl) | (obtain ⟨_, _, _, _, _, _, _, _, _, _, rfl, _⟩ := h; rfl) | (obtain ⟨_, _, _, _, _, _, _, _, _, _, _, rfl, _⟩ := h; rfl)) fun f cdv A outer s H E hr => ⟨_, w_lane_bowled T (hu_of hr) (ok_is_between T) (hr.mono (by first | decide | omega)) (ok_row_behind T) (hr.mono (by first | decide | omega)), fun ds M Q E h => by
  obtain ⟨g, s, x, rfl, o, ft, kx, q, e⟩ := h
  rw [show startD N_lane_bowled [g.d, s.d, x] = [some (g.d), some (s.d), some (x), none, none, none, none, none] from rfl]
  have o1 := o.s1; have o3 := o.s3
  have hs : s.side < s.rows.length := by rw [ft.l]; exact ft.k
  have hu := ft.u _ (rows_mem hs)
  refine ⟨rfl, ?_⟩
  simp only [List.set_cons_zero, List.set_cons_succ]
  refine ⟨_, atI_nat (rows_get hs), _, rfl, x, 0, _, rfl, kx, ?_⟩
  cases hb : between 0 (s.rows.getD s.side row0).up x with
  | false =>
    refine ⟨.inr ⟨rfl, rfl⟩, M, .refl M, e ?_⟩
    cases x with
    | int p =>
      show (if 0 ≤ p ∧ p ≤ _ then some p else none) = none
      rw [if_neg fun z => ?_]
      have hb : (decide (0 ≤ p) && decide (p ≤ _)) = false := hb
      rw [decide_eq_true z.1, decide_eq_true z.2] at hb
      cases hb
    | _ => rfl
  | true =>
    obtain ⟨p, rfl, hp⟩ : ∃ p, x = .int p ∧ 0 ≤ p ∧ p ≤ (s.rows.getD s.side row0).up := by
      cases x with
      | int p =>
        unfold between at hb
        obtain ⟨z1, z2⟩ := Bool.and_eq_true_iff.mp hb
        exact ⟨p, rfl, of_decide_eq_true z1, of_decide_eq_true z2⟩
      | _ => cases hb
    have q := q p (if_pos hp)
    have hq : s.side < (rowsD s.rows).length := by rw [rows_len]; exact hs
    refine ⟨_, atI_nat (rows_get hs), g, _, p, rfl, ⟨hp.1, by omega⟩, rfl, ?_⟩
    simp only [List.set_cons_zero, List.set_cons_succ]
    have e1 := cut_lo (xs := rowsD s.rows) (k := s.side) (by omega)
    have e2 := cut_hi (xs := rowsD s.rows) (k := s.side + 1) (by omega)
    have hl : (rowsD s.rows).length ≤ 3 := by rw [rows_len, ft.l]; exact o3
    generalize hB : g.ball (s.rows.getD s.side row0) p = x at q
    obtain ⟨nr, en⟩ := x
    have eB : g.bowl s p = (⟨s.rows.set s.side nr, if en = true then (s.side + 1) % g.sides else s.side⟩, (s.rows.set s.side nr).all fun r => decide (r.done = g.frames)) := by unfold Lane.bowl Lane.rows; rw [hB]
    refine ⟨sz (by show (cutD (rowsD s.rows) none (some (s.side : Int))).length + 1 ≤ _; rw [e1, List.length_take]; omega), ?_⟩
    refine ⟨sz (by show (cutD (rowsD s.rows) none (some (s.side : Int)) ++ [nr.d]).length + (cutD (rowsD s.rows) (some ((s.side : Int) + 1)) none).length ≤ _; rw [e1, show ((s.side : Int) + 1) = ((s.side + 1 : Nat) : Int) from rfl, e2]; simp; omega), ?_⟩
    have e3 : cutD (rowsD s.rows) none (some (s.side : Int)) ++ [nr.d] ++ cutD (rowsD s.rows) (some ((s.side : Int) + 1)) none = rowsD (s.rows.set s.side nr) := by
      rw [show ((s.side : Int) + 1) = ((s.side + 1 : Nat) : Int) from rfl, e1, e2, set_cut hq, rows_set]
    conv => whnf
    rw [e3]
    simp only [List.set_cons_zero, List.set_cons_succ]
    have hf : ∀ k : Nat, Q (.tup [LSt.d ⟨s.rows.set s.side nr, k⟩, .bl ((s.rows.set s.side nr).all fun r => decide (r.done = g.frames))]) M → ∀ p, M p = none → Dr Q (.tup [.tup [.tup (rowsD (s.rows.set s.side nr)), .int k], .bl (((s.rows.set s.side nr).map fun r => decide (r.done = g.frames)).all id)]) (mup M p (.lst (((s.rows.set s.side nr).map fun r => decide (r.done = g.frames)).map D.bl))) := fun k z p np =>
      drE z (.new np) (by rw [List.all_map]; rfl)
    have lR : (rowsD (s.rows.set s.side nr)).length ≤ 100000 := by rw [rows_len, List.length_set, ft.l]; omega
    rw [eB] at q
    cases en
    case' true =>
      refine ⟨_, rfl, by omega, ?_⟩
      rw [sideMod]
      simp only [List.set_cons_zero, List.set_cons_succ]
    all_goals
      refine ⟨_, rfl, lR, lcD (((s.rows.set s.side nr).map fun r => decide (r.done = g.frames)).map D.bl) (by simp [rows_len]) (fun p acc k d y R np hi hy hR => ?_) fun p np => ⟨(s.rows.set s.side nr).map fun r => decide (r.done = g.frames), mup_same, by first | exact hf ((s.side + 1) % g.sides) q p np | exact hf s.side q p np⟩⟩
      obtain ⟨r, hr1, rfl⟩ : ∃ r, (s.rows.set s.side nr)[k]? = some r ∧ r.d = d := by
        have hi : (rowsD (s.rows.set s.side nr))[k]? = some d := hi
        unfold rowsD at hi
        rw [List.getElem?_map] at hi
        cases z : (s.rows.set s.side nr)[k]? with
        | none => rw [z] at hi; cases hi
        | some r => rw [z] at hi; cases hi; exact ⟨r, rfl, rfl⟩
      rw [List.map_map, List.getElem?_map, hr1] at hy
      cases hy
      exact ⟨_, rfl, _, rfl, ⟨hR _ (.refl _)⟩⟩⟩

/-! ### who leads -/
def bestF (l : List Row) (k : Nat) : Option Nat := if ∀ r ∈ l, r.total ≤ (l.getD k row0).total then some k else none
def bestOf (l : List Row) : List Nat := (List.range l.length).filterMap (bestF l)
def sides (l : List Nat) : List D := l.map fun (k : Nat) => D.int k
theorem best_dec {l : List Row} {k : Nat} (hk : k < l.length) {m : Int} (h1 : m ∈ l.map (·.total)) (h2 : ∀ y ∈ l.map (·.total), y ≤ m) : decide ((l.getD k row0).total = m) = (bestF l k).isSome := by
  obtain ⟨r, hr, rfl⟩ := List.mem_map.mp h1
  unfold bestF
  by_cases e : ∀ r ∈ l, r.total ≤ (l.getD k row0).total
  · rw [if_pos e]
    have a := e r hr
    have b := h2 _ (List.mem_map.mpr ⟨_, rows_mem hk, rfl⟩)
    exact decide_eq_true (by omega)
  · rw [if_neg e]
    refine decide_eq_false fun z => e fun r' hr' => ?_
    rw [z]; exact h2 _ (List.mem_map.mpr ⟨r', hr', rfl⟩)
theorem totals_get {l : List Row} {k : Nat} (h : k < l.length) : (nums (l.map (·.total)))[k]? = some (.int (l.getD k row0).total) := by
  unfold nums
  rw [List.getElem?_map, List.getElem?_map, List.getElem?_eq_getElem h, List.getD_eq_getElem?_getD, List.getElem?_eq_getElem h]; rfl
def sp_best_of : DSp := fun ds M Q _ => ∃ s : LSt, ds = [s.d] ∧ 1 ≤ s.rows.length ∧ s.rows.length ≤ 3 ∧ Q (.tup (sides (bestOf s.rows))) M
theorem ok_best_of (T : Tx K mg)  : Ok P w K mg base .no (1) "best_of" ["stand"] (sp_best_of) :=
  ok_no T.d_best_of T.g_best_of sc_best_of (fun _ _ _ _ _ _ us hl => match us, hl with | [_], _ => rfl) (fun ds M Q E h => by first | (obtain ⟨_, rfl, _⟩ := h; rfl) | (obtain ⟨_, _, rfl, _⟩ := h; rfl) | (obtain ⟨_, _, _, rfl, _⟩ := h; rfl) | (obtain ⟨_, _, _, _, rfl, _⟩ := h; rfl) | (obtain ⟨_, _, _, _, _, rfl, _⟩ := h; rfl) | (obtain ⟨_, _, _, _, _, _, rfl, _⟩ := h; rfl) | (obtain ⟨_, _, _, _, _, _, _, rfl, _⟩ := h; rfl) | (obtain ⟨_, _, _, _, _, _, _, _, rfl, _⟩ := h; rfl) | (obtain ⟨_, _, _, _, _, _, _, _, _, rfl, _⟩ := h; rfl) | (obtain ⟨_, _, _, _, _, _, _, _, _, _, rfl, _⟩ := h; rfl) | (obtain ⟨_, _, _, _, _, _, _, _, _, _, _, rfl, _⟩ := h; rfl)) fun f cdv A outer s H E hr => ⟨_, w_best_of T (hu_of hr) , fun ds M Q E h => by
  obtain ⟨s, rfl, l1, l3, q⟩ := h
  rw [show startD N_best_of [s.d] = [some (s.d), none, none, none] from rfl]
  have hL : (rowsD s.rows).length = s.rows.length := rows_len
  refine ⟨_, rfl, _, rfl, by rw [hL]; omega, lcD (nums (s.rows.map (·.total))) (by rw [nums_len, List.length_map, hL]) (fun p acc k d y R np hi hy hR => ?_) fun p np => ?_⟩
  · obtain ⟨r, hr1, rfl⟩ : ∃ r, s.rows[k]? = some r ∧ r.d = d := by
      have hi : (rowsD s.rows)[k]? = some d := hi
      unfold rowsD at hi
      rw [List.getElem?_map] at hi
      cases z : s.rows[k]? with
      | none => rw [z] at hi; cases hi
      | some r => rw [z] at hi; cases hi; exact ⟨r, rfl, rfl⟩
    unfold nums at hy
    rw [List.map_map, List.getElem?_map, hr1] at hy
    cases hy
    exact ⟨_, rfl, hR _ (.refl _)⟩
  · simp only [List.set_cons_zero, List.set_cons_succ]
    conv => whnf
    have hn : (nums (s.rows.map (·.total))).length = s.rows.length := by rw [nums_len, List.length_map]
    refine ⟨_, mup_same, _, rfl, by rw [hn]; omega, lcDT (fun k => (bestF s.rows k).map fun (k : Nat) => D.int k) (fun p2 acc k d R n2 hi hk hR => ?_) (fun p2 acc k d y R n2 hi hk hy hR => ?_) fun p2 n2 => ?_⟩
    · rw [hn] at hk
      have hi : d = .int k := hi
      subst hi
      have gp : mup (mup M p (.lst (nums (s.rows.map (·.total))))) p2 (.lst acc) p = some (.lst (nums (s.rows.map (·.total)))) := mup_new mup_same n2
      refine ⟨_, _, gp, atI_nat (totals_get hk), p, s.rows.map fun (r : Row) => r.total, rfl, gp, by rw [List.length_map]; omega, fun m h1 h2 => ⟨?_⟩⟩
      have z := hR _ (.refl _)
      rw [Option.isSome_map, ← best_dec hk h1 h2] at z
      exact z
    · have hi : d = .int k := hi
      subst hi
      have e : y = .int k := by
        cases z : bestF s.rows k with
        | none => rw [z] at hy; cases hy
        | some k' =>
          rw [z] at hy
          unfold bestF at z
          split at z <;> cases z
          cases hy; rfl
      subst e
      exact hR _ (.refl _)
    · refine ⟨_, mup_same, drE q (Le.trans (.new np) (.new n2)) ?_⟩
      rw [hn]
      unfold sides bestOf
      rw [List.map_filterMap]⟩
end
end Tal
set_option maxHeartbeats 4000000
/-! what a game must be -/
namespace Tal
open PySem PySem.Spec PyProof.Rows L2
section
variable {P : Program} {w : World} {K : PySem.W.Frag} {mg : Str → Option Value} {base : Heap}
theorem betw {lo hi i : Int} (h1 : lo ≤ i) (h2 : i ≤ hi) : between lo hi (.int i) = true := by
  show (decide (lo ≤ i) && decide (i ≤ hi)) = true
  rw [decide_eq_true h1, decide_eq_true h2]; rfl
def sp_is_lane : DSp := fun ds M Q _ => ∃ g : Lane, ds = [g.d] ∧ g.Ok ∧ Q (.bl true) M
theorem ok_is_lane (T : Tx K mg)  : Ok P w K mg base .no (2) "is_lane" ["thing"] (sp_is_lane) :=
  ok_no T.d_is_lane T.g_is_lane sc_is_lane (fun _ _ _ _ _ _ us hl => match us, hl with | [_], _ => rfl) (fun ds M Q E h => by first | (obtain ⟨_, rfl, _⟩ := h; rfl) | (obtain ⟨_, _, rfl, _⟩ := h; rfl) | (obtain ⟨_, _, _, rfl, _⟩ := h; rfl) | (obtain ⟨_, _, _, _, rfl, _⟩ := h; rfl) | (obtain ⟨_, _, _, _, _, rfl, _⟩ := h; rfl) | (obtain ⟨_, _, _, _, _, _, rfl, _⟩ := h; rfl) | (obtain ⟨_, _, _, _, _, _, _, rfl, _⟩ := h; rfl) | (obtain ⟨_, _, _, _, _, _, _, _, rfl, _⟩ := h; rfl) | (obtain ⟨_, _, _, _, _, _, _, _, _, rfl, _⟩ := h; rfl) | (obtain ⟨_, _, _, _, _, _, _, _, _, _, rfl, _⟩ := h; rfl) | (obtain ⟨_, _, _, _, _, _, _, _, _, _, _, rfl, _⟩ := h; rfl)) fun f cdv A outer s H E hr => ⟨_, w_is_lane T (hu_of hr) (ok_is_between T) (hr.mono (by first | decide | omega)), fun ds M Q E h => by
  obtain ⟨g, rfl, o, q⟩ := h
  rw [show startD N_is_lane [g.d] = [some (g.d)] from rfl]
  have a1 := o.s1; have a2 := o.s3
  refine ⟨?_⟩
  refine ⟨_, rfl, _, _, _, rfl, True.intro, ?_⟩
  rw [betw (by omega) (by omega)]
  refine ⟨_, rfl, _, _, _, rfl, True.intro, ?_⟩
  rw [betw o.p1 o.p2]
  refine ⟨_, rfl, _, _, _, rfl, True.intro, ?_⟩
  rw [betw o.f1 o.f2]
  exact dr q⟩
def sp_is_throw_name : DSp := fun ds M Q _ => ∃ z : Str, ds = [.str z] ∧ Name z ∧ Q (.bl true) M
theorem ok_is_throw_name (T : Tx K mg)  : Ok P w K mg base .no (1) "is_throw_name" ["thing"] (sp_is_throw_name) :=
  ok_no T.d_is_throw_name T.g_is_throw_name sc_is_throw_name (fun _ _ _ _ _ _ us hl => match us, hl with | [_], _ => rfl) (fun ds M Q E h => by first | (obtain ⟨_, rfl, _⟩ := h; rfl) | (obtain ⟨_, _, rfl, _⟩ := h; rfl) | (obtain ⟨_, _, _, rfl, _⟩ := h; rfl) | (obtain ⟨_, _, _, _, rfl, _⟩ := h; rfl) | (obtain ⟨_, _, _, _, _, rfl, _⟩ := h; rfl) | (obtain ⟨_, _, _, _, _, _, rfl, _⟩ := h; rfl) | (obtain ⟨_, _, _, _, _, _, _, rfl, _⟩ := h; rfl) | (obtain ⟨_, _, _, _, _, _, _, _, rfl, _⟩ := h; rfl) | (obtain ⟨_, _, _, _, _, _, _, _, _, rfl, _⟩ := h; rfl) | (obtain ⟨_, _, _, _, _, _, _, _, _, _, rfl, _⟩ := h; rfl) | (obtain ⟨_, _, _, _, _, _, _, _, _, _, _, rfl, _⟩ := h; rfl)) fun f cdv A outer s H E hr => ⟨_, w_is_throw_name T (hu_of hr) , fun ds M Q E h => by
  obtain ⟨z, rfl, o, q⟩ := h
  rw [show startD N_is_throw_name [.str z] = [some (.str z), none] from rfl]
  have a1 := o.l1; have a2 := o.l8
  have hl : z.length ≤ sizeLine := sz (by omega)
  refine ⟨hl, ?_⟩
  refine br_n (by show ¬ ((z.length : Int) < 1); omega) ⟨hl, ?_⟩
  refine br_n (by show ¬ ((8 : Int) < (z.length : Int)); omega) ⟨hl, ?_⟩
  obtain ⟨c, hc, hm⟩ := o.hd
  refine ⟨c, atI_nat (k := 0) (by rw [Array.getElem?_toList]; exact hc), .inr (.inr ⟨c, letters, rfl, rfl, ?_⟩)⟩
  rw [decide_eq_true hm]
  conv => whnf
  refine ⟨z, rfl, by have : z.cps.size = z.length := rfl; omega, lcD (List.replicate z.cps.size (.bl true)) (by simp) (fun p acc k d y R np hi hy hR => ?_) fun p np => ⟨List.replicate z.cps.size true, by rw [List.map_replicate]; exact mup_same, ?_⟩⟩
  · obtain ⟨c, hc, rfl⟩ := hi
    have ey : y = .bl true := by
      rw [List.getElem?_replicate] at hy
      split at hy <;> cases hy
      rfl
    subst ey
    have hR := hR _ (.refl _)
    refine .inr (.inr ⟨c, letters, rfl, rfl, br_p (fun h1 => hR) fun h1 => .inr (.inr ⟨c, figures, rfl, rfl, ?_⟩)⟩)
    have hc' : c ∈ z.cps.toList := List.mem_of_getElem? (by rw [Array.getElem?_toList]; exact hc)
    rw [decide_eq_true ((o.all c hc').resolve_left h1)]
    exact hR
  · rw [List.all_replicate]
    have e : (if z.cps.size = 0 then true else id true) = true := by split <;> rfl
    rw [e]
    exact drE q (.new np) rfl⟩
def sp_is_throw : DSp := fun ds M Q _ => ∃ t : Throw, ds = [t.d] ∧ Name t.name ∧ (0 ≤ t.worth ∧ t.worth ≤ 1000000) ∧ Q (.bl true) M
theorem ok_is_throw (T : Tx K mg)  : Ok P w K mg base .no (2) "is_throw" ["thing"] (sp_is_throw) :=
  ok_no T.d_is_throw T.g_is_throw sc_is_throw (fun _ _ _ _ _ _ us hl => match us, hl with | [_], _ => rfl) (fun ds M Q E h => by first | (obtain ⟨_, rfl, _⟩ := h; rfl) | (obtain ⟨_, _, rfl, _⟩ := h; rfl) | (obtain ⟨_, _, _, rfl, _⟩ := h; rfl) | (obtain ⟨_, _, _, _, rfl, _⟩ := h; rfl) | (obtain ⟨_, _, _, _, _, rfl, _⟩ := h; rfl) | (obtain ⟨_, _, _, _, _, _, rfl, _⟩ := h; rfl) | (obtain ⟨_, _, _, _, _, _, _, rfl, _⟩ := h; rfl) | (obtain ⟨_, _, _, _, _, _, _, _, rfl, _⟩ := h; rfl) | (obtain ⟨_, _, _, _, _, _, _, _, _, rfl, _⟩ := h; rfl) | (obtain ⟨_, _, _, _, _, _, _, _, _, _, rfl, _⟩ := h; rfl) | (obtain ⟨_, _, _, _, _, _, _, _, _, _, _, rfl, _⟩ := h; rfl)) fun f cdv A outer s H E hr => ⟨_, w_is_throw T (hu_of hr) (ok_is_throw_name T) (hr.mono (by first | decide | omega)) (ok_is_between T) (hr.mono (by first | decide | omega)), fun ds M Q E h => by
  obtain ⟨t, rfl, o, hw, q⟩ := h
  rw [show startD N_is_throw [t.d] = [some (t.d)] from rfl]
  refine ⟨?_⟩
  refine ⟨_, rfl, t.name, rfl, o, ?_⟩
  refine ⟨_, rfl, _, _, _, rfl, True.intro, ?_⟩
  rw [betw hw.1 hw.2]
  exact ⟨_, rfl, dr q⟩⟩
def sp_is_down : DSp := fun ds M Q _ => ∃ g : Down, ds = [g.d] ∧ g.Ok ∧ Q (.bl true) M
theorem ok_is_down (T : Tx K mg)  : Ok P w K mg base .no (3) "is_down" ["thing"] (sp_is_down) :=
  ok_no T.d_is_down T.g_is_down sc_is_down (fun _ _ _ _ _ _ us hl => match us, hl with | [_], _ => rfl) (fun ds M Q E h => by first | (obtain ⟨_, rfl, _⟩ := h; rfl) | (obtain ⟨_, _, rfl, _⟩ := h; rfl) | (obtain ⟨_, _, _, rfl, _⟩ := h; rfl) | (obtain ⟨_, _, _, _, rfl, _⟩ := h; rfl) | (obtain ⟨_, _, _, _, _, rfl, _⟩ := h; rfl) | (obtain ⟨_, _, _, _, _, _, rfl, _⟩ := h; rfl) | (obtain ⟨_, _, _, _, _, _, _, rfl, _⟩ := h; rfl) | (obtain ⟨_, _, _, _, _, _, _, _, rfl, _⟩ := h; rfl) | (obtain ⟨_, _, _, _, _, _, _, _, _, rfl, _⟩ := h; rfl) | (obtain ⟨_, _, _, _, _, _, _, _, _, _, rfl, _⟩ := h; rfl) | (obtain ⟨_, _, _, _, _, _, _, _, _, _, _, rfl, _⟩ := h; rfl)) fun f cdv A outer s H E hr => ⟨_, w_is_down T (hu_of hr) (ok_is_between T) (hr.mono (by first | decide | omega)) (ok_is_throw T) (hr.mono (by first | decide | omega)), fun ds M Q E h => by
  obtain ⟨g, rfl, o, q⟩ := h
  rw [show startD N_is_down [g.d] = [some (g.d), none] from rfl]
  have a1 := o.s1; have a2 := o.s3; have n1 := o.n1; have n5 := o.n5
  have hn : (g.throws.map Throw.d).length = g.throws.length := List.length_map _
  refine ⟨?_⟩
  refine ⟨_, rfl, ?_⟩
  refine ⟨_, rfl, _, _, _, rfl, True.intro, ?_⟩
  rw [betw (by omega) (by omega)]
  refine ⟨_, rfl, _, _, _, rfl, True.intro, ?_⟩
  rw [betw o.b1 o.b2]
  refine ⟨_, rfl, _, _, _, rfl, True.intro, ?_⟩
  rw [betw o.t1 o.t3]
  refine ⟨_, rfl, br_n (by show ¬ (((g.throws.map Throw.d).length : Int) < 1); omega) ⟨_, rfl, br_n (by show ¬ ((30 : Int) < ((g.throws.map Throw.d).length : Int)); omega) ?_⟩⟩
  refine ⟨_, rfl, _, rfl, by omega, lcD (List.replicate (g.throws.map Throw.d).length (.bl true)) (by simp) (fun p acc k d y R np hi hy hR => ?_) fun p np => ⟨List.replicate (g.throws.map Throw.d).length true, by rw [List.map_replicate]; exact mup_same, ?_⟩⟩
  · obtain ⟨t, ht, rfl⟩ : ∃ t ∈ g.throws, t.d = d := List.mem_map.mp (List.mem_of_getElem? hi)
    have ey : y = .bl true := by
      rw [List.getElem?_replicate] at hy
      split at hy <;> cases hy
      rfl
    subst ey
    exact ⟨t, rfl, o.nm t ht, o.wo t ht, hR _ (.refl _)⟩
  · rw [List.all_replicate]
    have e : (if (g.throws.map Throw.d).length = 0 then true else id true) = true := by split <;> rfl
    rw [e]
    refine ⟨_, rfl, _, rfl, by omega, lcD ((g.throws.map (·.name)).map D.str) (by simp) (fun p2 acc k d y R n2 hi hy hR => ?_) fun p2 n2 => ⟨p2, g.throws.map (·.name), rfl, mup_same, o.nd, by rw [List.length_map]; omega, ?_⟩⟩
    · obtain ⟨t, ht, rfl⟩ : ∃ t, g.throws[k]? = some t ∧ t.d = d := by
        have hi : (g.throws.map Throw.d)[k]? = some d := hi
        rw [List.getElem?_map] at hi
        cases z : g.throws[k]? with
        | none => rw [z] at hi; cases hi
        | some r => rw [z] at hi; cases hi; exact ⟨r, rfl, rfl⟩
      rw [List.map_map, List.getElem?_map, ht] at hy
      cases hy
      exact ⟨_, rfl, hR _ (.refl _)⟩
    · refine ⟨_, rfl, ⟨?_⟩⟩
      refine drE q (Le.trans (.new np) (.new n2)) ?_
      rw [List.length_map, List.length_map, decide_eq_true rfl]⟩
end
end Tal
set_option maxHeartbeats 4000000
/-! rules, rallies -/
namespace Tal
open PySem PySem.Spec PyProof.Rows L2
inductive Rule where
  | no | pt
  | un (to lead : Int) (cap : Option Int) (inner last : Rule)
def oD : Option Int → D
  | none => .non
  | some i => .int i
def Rule.d : Rule → D
  | .no => .non
  | .pt => .tup [.str "point"]
  | .un t l c i e => .tup [.str "unit", .int t, .int l, oD c, i.d, e.d]
def Rule.isNo : Rule → Bool
  | .no => true
  | _ => false
def Rule.isPt : Rule → Bool
  | .pt => true
  | _ => false
def Rule.W : Nat → Rule → Prop
  | _, .no => False
  | _, .pt => True
  | 0, .un _ _ _ _ _ => False
  | n + 1, .un t l c i e => (1 ≤ t ∧ t ≤ 99) ∧ (1 ≤ l ∧ l ≤ 99) ∧ (∀ m, c = some m → t ≤ m ∧ m ≤ 99) ∧ (c = none → e = .no) ∧ i.W n ∧ (e = .no ∨ e.W n)
def Rule.units : Rule → Nat
  | .un _ _ _ i e => 1 + i.units + e.units
  | _ => 0
def oP : Option Int → PyData
  | none => .none
  | some i => .int i
def Rule.py : Rule → PyData
  | .no => .none
  | .pt => .tuple [.str "point"]
  | .un t l c i e => .tuple [.str "unit", .int t, .int l, oP c, i.py, e.py]
theorem Rule.pyOf {M : Mp} : ∀ r : Rule, PyOf M r.d r.py
  | .no => .non
  | .pt => .tup (.cons (.str _) .nil)
  | .un t l c i e => .tup (.cons (.str _) (.cons (.int _) (.cons (.int _) (.cons (by cases c <;> constructor) (.cons i.pyOf (.cons e.pyOf .nil))))))
theorem Rule.lay : ∀ r : Rule, PyData.canLay0 r.py = true
  | .no => rfl
  | .pt => by decide +kernel
  | .un t l c i e => by
    have h1 := i.lay
    have h2 := e.lay
    have h3 : PyData.canLay0 (oP c) = true := by cases c <;> rfl
    have h4 : PyData.canLay0 (.str "unit") = true := by decide +kernel
    simp only [Rule.py, PyData.canLay0, PyData.canLayAll0] at h1 h2 h3 h4 ⊢
    simp [h1, h2, h3, h4]
theorem Rule.dep : ∀ (n : Nat) (r : Rule), r.W n → PyData.depth r.py ≤ n + 1
  | n, .no, h => by cases n <;> exact h.elim
  | n, .pt, _ => by simp [Rule.py, PyData.depth, PyData.depthAll]
  | n + 1, .un t l c i e, h => by
    obtain ⟨_, _, _, _, hi, he⟩ := h
    have h1 := Rule.dep n i hi
    have h2 : PyData.depth e.py ≤ n + 1 := by
      rcases he with he | he
      · subst he; simp [Rule.py, PyData.depth]
      · exact Rule.dep n e he
    have h3 : PyData.depth (oP c) = 0 := by cases c <;> simp [oP, PyData.depth]
    simp only [Rule.py, PyData.depth, PyData.depthAll] at h1 h2 h3 ⊢
    omega
theorem Rule.shaped {n : Nat} {r : Rule} (h : r.W n) (hn : n ≤ 4) : SeqAt.shaped r.py = true := by
  unfold SeqAt.shaped
  rw [r.lay, decide_eq_true (by have := Rule.dep n r h; omega : PyData.depth r.py ≤ 64)]; rfl
theorem eq_point {n : Nat} {r : Rule} {M : Mp} {Q : DQ} (h : r.W n) (hn : n ≤ 4) (q : Q (.bl r.isPt) M) : GEq r.d (.tup [.str "point"]) M Q := by
  refine ⟨?_⟩
  cases r with
  | no => cases n <;> exact h.elim
  | pt => exact ⟨_, _, Rule.pt.pyOf, Rule.pt.pyOf, Rule.shaped (n := n) h hn, Rule.shaped (n := n) h hn, by
      rw [show PyData.eqv Rule.pt.py Rule.pt.py = true from by decide +kernel]; exact q⟩
  | un t l c i e => exact ⟨_, _, (Rule.un t l c i e).pyOf, Rule.pt.pyOf, Rule.shaped (n := n) h hn, Rule.shaped (n := n) (r := .pt) (by cases n <;> trivial) hn, by
      rw [show PyData.eqv (Rule.un t l c i e).py Rule.pt.py = false from by
        simp only [Rule.py, PyData.eqv, PyData.eqvAll]
        rw [show ((("unit" : Str)) == ("point" : Str)) = false from by decide +kernel]; rfl]
      exact q⟩
section
variable {P : Program} {w : World} {K : PySem.W.Frag} {mg : Str → Option Value} {base : Heap}
/-- nothing is promised -/
def spNo : DSp := fun _ _ _ _ => False
theorem jb_no {X : Cx} {b : List Stmt} : JB X b (fun _ _ _ => False) := ⟨fun δ M P σ H E q => q.elim⟩
theorem okF {x : Str} {i : Nat} {N ps : List Str} (D : FnI K x i) (g : mg x = some (.ref (He.ga K x))) (S : FnScope N ps (defScope (top i))) (B : BindsAll ps x x (top i)) : Ok P w K mg base .no 1 x ps spNo :=
  ok_no D g S B (fun _ _ _ _ h => h.elim) fun f cdv A outer s H E hr => ⟨_, jb_no, fun ds M Q E h => h.elim⟩
theorem Ok.up {m : Md} {k j : Nat} {x : Str} {ps : List Str} {dsp : DSp} (F : Ok P w K mg base m k x ps dsp) (h : k ≤ j := by omega) : Ok P w K mg base m j x ps dsp := by
  obtain ⟨⟨fd, F1, b⟩, g, kp⟩ := F
  exact ⟨⟨fd, F1.mono h, b⟩, g, kp⟩
def sp_is_count : DSp := fun ds M Q _ => ∃ i l : Int, ds = [.int i, .int l] ∧ (l ≤ i ∧ i ≤ 99) ∧ Q (.bl true) M
theorem ok_is_count (T : Tx K mg)  : Ok P w K mg base .no (1) "is_count" ["thing", "least"] (sp_is_count) :=
  ok_no T.d_is_count T.g_is_count sc_is_count (fun _ _ _ _ _ _ us hl => match us, hl with | [_, _], _ => rfl) (fun ds M Q E h => by first | (obtain ⟨_, rfl, _⟩ := h; rfl) | (obtain ⟨_, _, rfl, _⟩ := h; rfl) | (obtain ⟨_, _, _, rfl, _⟩ := h; rfl) | (obtain ⟨_, _, _, _, rfl, _⟩ := h; rfl) | (obtain ⟨_, _, _, _, _, rfl, _⟩ := h; rfl) | (obtain ⟨_, _, _, _, _, _, rfl, _⟩ := h; rfl) | (obtain ⟨_, _, _, _, _, _, _, rfl, _⟩ := h; rfl) | (obtain ⟨_, _, _, _, _, _, _, _, rfl, _⟩ := h; rfl) | (obtain ⟨_, _, _, _, _, _, _, _, _, rfl, _⟩ := h; rfl) | (obtain ⟨_, _, _, _, _, _, _, _, _, _, rfl, _⟩ := h; rfl) | (obtain ⟨_, _, _, _, _, _, _, _, _, _, _, rfl, _⟩ := h; rfl)) fun f cdv A outer s H E hr => ⟨_, w_is_count T (hu_of hr) , fun ds M Q E h => by
  obtain ⟨i, l, rfl, ⟨h1, h2⟩, q⟩ := h
  rw [show startD N_is_count [.int i, .int l] = [some (.int i), some (.int l)] from rfl]
  exact br_y h1 (by
    conv => whnf
    rw [decide_eq_true h2]; exact dr q)⟩
def sp_has_numbers : DSp := fun ds M Q _ => ∃ n t l c i e, ds = [(Rule.un t l c i e).d] ∧ (Rule.un t l c i e).W (n + 1) ∧ Q (.bl true) M
theorem ok_has_numbers (T : Tx K mg)  : Ok P w K mg base .no (2) "has_numbers" ["unit"] (sp_has_numbers) :=
  ok_no T.d_has_numbers T.g_has_numbers sc_has_numbers (fun _ _ _ _ _ _ us hl => match us, hl with | [_], _ => rfl) (fun ds M Q E h => by first | (obtain ⟨_, rfl, _⟩ := h; rfl) | (obtain ⟨_, _, rfl, _⟩ := h; rfl) | (obtain ⟨_, _, _, rfl, _⟩ := h; rfl) | (obtain ⟨_, _, _, _, rfl, _⟩ := h; rfl) | (obtain ⟨_, _, _, _, _, rfl, _⟩ := h; rfl) | (obtain ⟨_, _, _, _, _, _, rfl, _⟩ := h; rfl) | (obtain ⟨_, _, _, _, _, _, _, rfl, _⟩ := h; rfl) | (obtain ⟨_, _, _, _, _, _, _, _, rfl, _⟩ := h; rfl) | (obtain ⟨_, _, _, _, _, _, _, _, _, rfl, _⟩ := h; rfl) | (obtain ⟨_, _, _, _, _, _, _, _, _, _, rfl, _⟩ := h; rfl) | (obtain ⟨_, _, _, _, _, _, _, _, _, _, _, rfl, _⟩ := h; rfl)) fun f cdv A outer s H E hr => ⟨_, w_has_numbers T (hu_of hr) (ok_is_count T) (hr.mono (by first | decide | omega)), fun ds M Q E h => by
  obtain ⟨n, t, l, c, i, e, rfl, o, q⟩ := h
  rw [show startD N_has_numbers [(Rule.un t l c i e).d] = [some ((Rule.un t l c i e).d)] from rfl]
  obtain ⟨h1, h2, h3, h4, h5, h6⟩ := o
  refine ⟨_, rfl, _, _, rfl, ⟨h1.1, h1.2⟩, ?_⟩
  refine ⟨_, rfl, _, _, rfl, ⟨h2.1, h2.2⟩, ?_⟩
  refine ⟨_, rfl, ?_⟩
  cases c with
  | none =>
    have e0 := h4 rfl
    subst e0
    exact ⟨_, rfl, dr q⟩
  | some m => exact ⟨_, rfl, _, rfl, _, _, rfl, h3 m rfl, dr q⟩⟩
def sp_units_in (n : Nat) : DSp := fun ds M Q _ => ∃ (r : Rule) (a : Int), ds = [r.d, .int a] ∧ n ≤ 4 ∧ a + n = 4 ∧ r.W n ∧ Q (.int r.units) M
theorem step_units_in (T : Tx K mg) {n k : Nat} {sp : DSp} (F : Ok P w K mg base .no (k+2) "units_in" ["thing", "around"] sp) (hsp : ∀ m, n = m + 1 → sp = sp_units_in m) : Ok P w K mg base .no (k+3) "units_in" ["thing", "around"] (sp_units_in n) :=
  ok_no T.d_units_in T.g_units_in sc_units_in (fun _ _ _ _ _ _ us hl => match us, hl with | [_, _], _ => rfl) (fun ds M Q E h => by first | (obtain ⟨_, rfl, _⟩ := h; rfl) | (obtain ⟨_, _, rfl, _⟩ := h; rfl) | (obtain ⟨_, _, _, rfl, _⟩ := h; rfl) | (obtain ⟨_, _, _, _, rfl, _⟩ := h; rfl) | (obtain ⟨_, _, _, _, _, rfl, _⟩ := h; rfl) | (obtain ⟨_, _, _, _, _, _, rfl, _⟩ := h; rfl) | (obtain ⟨_, _, _, _, _, _, _, rfl, _⟩ := h; rfl) | (obtain ⟨_, _, _, _, _, _, _, _, rfl, _⟩ := h; rfl) | (obtain ⟨_, _, _, _, _, _, _, _, _, rfl, _⟩ := h; rfl) | (obtain ⟨_, _, _, _, _, _, _, _, _, _, rfl, _⟩ := h; rfl) | (obtain ⟨_, _, _, _, _, _, _, _, _, _, _, rfl, _⟩ := h; rfl)) fun f cdv A outer s H E hr => ⟨_, w_units_in T (hu_of hr) (ok_has_numbers T) (hr.mono (by first | decide | omega)) F (hr.mono (by first | decide | omega)), fun ds M Q E h => by
  obtain ⟨r, a, rfl, hn, ha, o, q⟩ := h
  rw [show startD N_units_in [r.d, .int a] = [some (r.d), some (.int a), none, none, none, none] from rfl]
  refine eq_point o hn ?_
  cases r with
  | no => cases n <;> exact o.elim
  | pt => exact dr q
  | un t l c i e =>
    cases n with
    | zero => exact o.elim
    | succ m =>
      have o' := o
      obtain ⟨h1, h2, h3, h4, h5, h6⟩ := o'
      have fin : ∀ (rs : List Rule) (p : Addr) (M' : Mp), (∀ r ∈ rs, r.W m) → 1 + (rs.map Rule.units).sum = (Rule.un t l c i e).units → M' p = some (.lst (rs.map Rule.d)) → Le M M' →
          (rSeq (rForL (rVar 3) (gnD 4) (rSeq (rSet 5 (rCall .no sp (rCons (rVar 4) (rCons (rOp gAdd (rVar 1) (rC (.int 1))) rNil)))) (rSeq (rIfS (rB (rOp gIs (rVar 5) (rC .non))) (rRet (rC .non)) rNext) (rSet 2 (rOp gAdd (rVar 2) (rVar 5))))))
            (rRet (rVar 2))) (endsD .no Q E) [some (Rule.un t l c i e).d, some (.int a), some (.int 1), some (.ref p), none, none] M' := fun rs p M' hr hs hp le => by
        refine ⟨p, _, rfl, hp, fun j δ M2 => M2 = M' ∧ ∃ o4 o5, δ = [some (Rule.un t l c i e).d, some (.int a), some (.int (1 + ((rs.take j).map Rule.units).sum : Nat)), some (.ref p), o4, o5], ⟨rfl, none, none, rfl⟩, fun j δ M2 z => by rw [z.1]; exact hp, ?_, ?_⟩
        · rintro j d δ M2 hd ⟨rfl, o4, o5, rfl⟩
          obtain ⟨r, hr1, rfl⟩ : ∃ r, rs[j]? = some r ∧ r.d = d := by
            rw [List.getElem?_map] at hd
            cases z : rs[j]? with
            | none => rw [z] at hd; cases hd
            | some r => rw [z] at hd; cases hd; exact ⟨r, rfl, rfl⟩
          show rSeq _ _ _ _ _
          simp only [List.set_cons_zero, List.set_cons_succ]
          rw [hsp m rfl]
          refine ⟨r, a + 1, rfl, by omega, by omega, hr r (List.mem_of_getElem? hr1), ?_⟩
          refine ⟨rfl, some r.d, some (.int r.units), ?_⟩
          simp only [List.set_cons_zero, List.set_cons_succ]
          rw [List.take_succ, hr1]
          simp only [Option.toList, List.map_append, List.map_cons, List.map_nil, List.sum_append, List.sum_cons, List.sum_nil]
          rw [show ((1 + ((rs.take j).map Rule.units).sum : Nat) : Int) + (r.units : Int) = ((1 + (((rs.take j).map Rule.units).sum + (r.units + 0)) : Nat) : Int) by omega]
        · rintro δ M2 ⟨rfl, o4, o5, rfl⟩
          refine drE q le ?_
          rw [List.length_map, List.take_length, hs]
      refine ⟨⟨br_n (by omega) ?_⟩⟩
      refine ⟨_, rfl, ⟨m, t, l, c, i, e, rfl, o, ?_⟩⟩
      refine ⟨_, rfl, fun p np => ?_⟩
      simp only [List.set_cons_zero, List.set_cons_succ]
      refine ⟨_, rfl, ?_⟩
      rcases h6 with rfl | h6
      · exact fin [i] p _ (fun r hr => by rw [List.mem_singleton.mp hr]; exact h5) (by simp [Rule.units]) mup_same (.new np)
      · have hN : isN e.d = false := by
          cases e with
          | no => cases m <;> exact h6.elim
          | _ => rfl
        have hN2 : e.d ≠ .non := fun z => by rw [z] at hN; cases hN
        conv => whnf
        rw [hN]
        refine ⟨rcv_lst mup_same, _, rfl, p, [i.d], e.d, rfl, rfl, mup_same, sz (by simp), ?_⟩
        rw [mup_mup]
        exact fin [i, e] p _ (fun r hr => by
          rcases List.mem_cons.mp hr with rfl | hr
          · exact h5
          · rw [List.mem_singleton.mp hr]; exact h6) (by simp [Rule.units]; omega) mup_same (.new np)⟩
theorem ok_units_in (T : Tx K mg) : ∀ n, Ok P w K mg base .no (n + 3) "units_in" ["thing", "around"] (sp_units_in n)
  | 0 => step_units_in (k := 0) (sp := spNo) T ((okF T.d_units_in T.g_units_in sc_units_in (fun _ _ _ _ _ _ us hl => match us, hl with | [_, _], _ => rfl)).up) fun m z => by cases z
  | n + 1 => step_units_in (k := n + 1) T (ok_units_in T n) fun m z => by cases z; rfl
def sp_is_rule : DSp := fun ds M Q _ => ∃ r : Rule, ds = [r.d] ∧ r.W 4 ∧ r.units ≤ 10 ∧ Q (.bl true) M
theorem ok_is_rule (T : Tx K mg)  : Ok P w K mg base .no (8) "is_rule" ["thing"] (sp_is_rule) :=
  ok_no T.d_is_rule T.g_is_rule sc_is_rule (fun _ _ _ _ _ _ us hl => match us, hl with | [_], _ => rfl) (fun ds M Q E h => by first | (obtain ⟨_, rfl, _⟩ := h; rfl) | (obtain ⟨_, _, rfl, _⟩ := h; rfl) | (obtain ⟨_, _, _, rfl, _⟩ := h; rfl) | (obtain ⟨_, _, _, _, rfl, _⟩ := h; rfl) | (obtain ⟨_, _, _, _, _, rfl, _⟩ := h; rfl) | (obtain ⟨_, _, _, _, _, _, rfl, _⟩ := h; rfl) | (obtain ⟨_, _, _, _, _, _, _, rfl, _⟩ := h; rfl) | (obtain ⟨_, _, _, _, _, _, _, _, rfl, _⟩ := h; rfl) | (obtain ⟨_, _, _, _, _, _, _, _, _, rfl, _⟩ := h; rfl) | (obtain ⟨_, _, _, _, _, _, _, _, _, _, rfl, _⟩ := h; rfl) | (obtain ⟨_, _, _, _, _, _, _, _, _, _, _, rfl, _⟩ := h; rfl)) fun f cdv A outer s H E hr => ⟨_, w_is_rule T (hu_of hr) (ok_units_in T 4) (hr.mono (by first | decide | omega)), fun ds M Q E h => by
  obtain ⟨r, rfl, o, h1, q⟩ := h
  rw [show startD N_is_rule [r.d] = [some (r.d), none] from rfl]
  refine ⟨r, 0, rfl, by omega, by omega, o, ?_⟩
  simp only [List.set_cons_zero, List.set_cons_succ]
  conv => whnf
  rw [decide_eq_true (show (r.units : Int) ≤ 10 by omega)]
  exact dr q⟩
/-! ### rallies -/
inductive RSt where
  | e
  | s (a b : Int) (w : RSt)
def RSt.d : RSt → D
  | .e => .tup []
  | .s a b w => .tup [.int a, .int b, w.d]
/-- the last rule is played -/
def useLast (c : Option Int) (e : Rule) (a b : Int) : Bool := !e.isNo && (decide (c = some (a + 1)) && decide (c = some (b + 1)))
def inner (c : Option Int) (i e : Rule) (a b : Int) : Rule := if useLast c e a b = true then e else i
def sp_rule_within : DSp := fun ds M Q _ => ∃ t l c i e a b, ds = [(Rule.un t l c i e).d, .int a, .int b] ∧ (c = none → e = .no) ∧ Q (inner c i e a b).d M
theorem ok_rule_within (T : Tx K mg)  : Ok P w K mg base .no (1) "rule_within" ["rule", "zero", "one"] (sp_rule_within) :=
  ok_no T.d_rule_within T.g_rule_within sc_rule_within (fun _ _ _ _ _ _ us hl => match us, hl with | [_, _, _], _ => rfl) (fun ds M Q E h => by first | (obtain ⟨_, rfl, _⟩ := h; rfl) | (obtain ⟨_, _, rfl, _⟩ := h; rfl) | (obtain ⟨_, _, _, rfl, _⟩ := h; rfl) | (obtain ⟨_, _, _, _, rfl, _⟩ := h; rfl) | (obtain ⟨_, _, _, _, _, rfl, _⟩ := h; rfl) | (obtain ⟨_, _, _, _, _, _, rfl, _⟩ := h; rfl) | (obtain ⟨_, _, _, _, _, _, _, rfl, _⟩ := h; rfl) | (obtain ⟨_, _, _, _, _, _, _, _, rfl, _⟩ := h; rfl) | (obtain ⟨_, _, _, _, _, _, _, _, _, rfl, _⟩ := h; rfl) | (obtain ⟨_, _, _, _, _, _, _, _, _, _, rfl, _⟩ := h; rfl) | (obtain ⟨_, _, _, _, _, _, _, _, _, _, _, rfl, _⟩ := h; rfl)) fun f cdv A outer s H E hr => ⟨_, w_rule_within T (hu_of hr) , fun ds M Q E h => by
  obtain ⟨t, l, c, i, e, a, b, rfl, hc, q⟩ := h
  rw [show startD N_rule_within [(Rule.un t l c i e).d, .int a, .int b] = [some ((Rule.un t l c i e).d), some (.int a), some (.int b)] from rfl]
  refine ⟨_, rfl, ?_⟩
  unfold inner useLast at q
  cases he : e.isNo with
  | true =>
    obtain rfl : e = .no := by cases e <;> first | rfl | cases he
    exact ⟨_, rfl, dr q⟩
  | false =>
    have hN : isN e.d = false := by cases e <;> first | rfl | cases he
    conv => whnf
    rw [hN]
    cases c with
    | none => rw [hc rfl] at he; cases he
    | some m =>
      rw [he] at q
      refine ⟨_, rfl, ⟨br_p (fun h1 => ⟨_, rfl, ⟨br_p (fun h2 => ?_) fun h2 => ?_⟩⟩) fun h1 => ?_⟩⟩
      · refine ⟨_, rfl, drQ q ?_⟩
        rw [decide_eq_true (show some m = some (a + 1) by rw [h1]; congr 1; omega), decide_eq_true (show some m = some (b + 1) by rw [h2]; congr 1; omega)]; rfl
      · refine ⟨_, rfl, drQ q ?_⟩
        rw [decide_eq_false (show ¬ some m = some (b + 1) from fun z => h2 (by cases z; omega))]; simp
      · refine ⟨_, rfl, drQ q ?_⟩
        rw [decide_eq_false (show ¬ some m = some (a + 1) from fun z => h1 (by cases z; omega))]; simp⟩
end
end Tal
set_option maxHeartbeats 4000000
namespace Tal
open PySem PySem.Spec PyProof.Rows L2
theorem inner_W {n : Nat} {t l : Int} {c : Option Int} {i e : Rule} (h : (Rule.un t l c i e).W (n + 1)) (a b : Int) : (inner c i e a b).W n := by
  obtain ⟨_, _, _, _, h5, h6⟩ := h
  unfold inner
  split
  · rename_i z
    rcases h6 with rfl | h6
    · unfold useLast Rule.isNo at z; simp at z
    · exact h6
  · exact h5
def Rule.beg : Rule → RSt
  | .un _ _ c i e => .s 0 0 (if useLast c e 0 0 = true then e.beg else i.beg)
  | _ => .e
theorem beg_inner {c : Option Int} {i e : Rule} {a b : Int} : (inner c i e a b).beg = if useLast c e a b = true then e.beg else i.beg := by
  unfold inner; split <;> rfl
def wonR (t l : Int) (c : Option Int) (own other : Int) : Bool := decide (c = some own) || (decide (t ≤ own) && decide (l ≤ own - other))
def bump (x : Int) (b : Bool) : Int := if b = true then x + 1 else x
/-- behind a rally won inside: the counts are told anew -/
def upR (t l : Int) (c : Option Int) (i e : Rule) (a b : Int) (sd : Bool) : RSt × Bool :=
  if wonR t l c (if sd = true then b + 1 else a + 1) (if sd = true then a else b) = true then (.s (bump a (!sd)) (bump b sd) .e, true)
  else (.s (bump a (!sd)) (bump b sd) (if useLast c e (bump a (!sd)) (bump b sd) = true then e.beg else i.beg), false)
theorem up_y {t l : Int} {c : Option Int} {i e : Rule} {a b : Int} (sd : Bool) (h : wonR t l c (if sd = true then b + 1 else a + 1) (if sd = true then a else b) = true) : upR t l c i e a b sd = (.s (bump a (!sd)) (bump b sd) .e, true) := if_pos h
theorem up_n {t l : Int} {c : Option Int} {i e : Rule} {a b : Int} (sd : Bool) (h : wonR t l c (if sd = true then b + 1 else a + 1) (if sd = true then a else b) = false) : upR t l c i e a b sd = (.s (bump a (!sd)) (bump b sd) (if useLast c e (bump a (!sd)) (bump b sd) = true then e.beg else i.beg), false) := if_neg fun z => by rw [h] at z; cases z
def ral : Rule → RSt → Bool → RSt × Bool
  | .un t l c i e, .s a b w, sd =>
    if (if useLast c e a b = true then ral e w sd else ral i w sd).2 = true then upR t l c i e a b sd
    else (.s a b (if useLast c e a b = true then ral e w sd else ral i w sd).1, false)
  | _, _, _ => (.e, true)
theorem ral_inner {c : Option Int} {i e : Rule} {a b : Int} {w : RSt} {sd : Bool} : ral (inner c i e a b) w sd = if useLast c e a b = true then ral e w sd else ral i w sd := by
  unfold inner; split <;> rfl
def stk : Rule → RSt → Bool → Nat
  | .un t l c i e, .s a b w, sd => (if useLast c e a b = true then stk e w sd else stk i w sd) + (if (ral (.un t l c i e) (.s a b w) sd).2 = true then 1 else 0)
  | _, _, _ => 0
theorem stk_inner {c : Option Int} {i e : Rule} {a b : Int} {w : RSt} {sd : Bool} : stk (inner c i e a b) w sd = if useLast c e a b = true then stk e w sd else stk i w sd := by
  unfold inner; split <;> rfl
/-- the stand is one of the rule, in play -/
def FitR : Rule → RSt → Prop
  | .un _ _ c i e, .s a b w => (0 ≤ a ∧ 0 ≤ b) ∧ (∀ m, c = some m → a < m ∧ b < m) ∧ if useLast c e a b = true then FitR e w else FitR i w
  | .un _ _ _ _ _, .e => False
  | _, w => w = .e
theorem fit_inner {c : Option Int} {i e : Rule} {a b : Int} {w : RSt} : FitR (inner c i e a b) w ↔ if useLast c e a b = true then FitR e w else FitR i w := by
  unfold inner; split <;> rfl
theorem beg_fit : ∀ (n : Nat) (r : Rule), r.W n → FitR r r.beg
  | n, .no, h => by cases n <;> exact h.elim
  | n, .pt, _ => rfl
  | n + 1, .un t l c i e, h => by
    have hw := inner_W h 0 0
    obtain ⟨h1, h2, h3, h4, h5, h6⟩ := h
    refine ⟨⟨Int.le_refl _, Int.le_refl _⟩, fun m e => ?_, ?_⟩
    · have := h3 m e; omega
    · unfold inner at hw
      by_cases z : useLast c e 0 0 = true
      · rw [if_pos z] at hw ⊢
        rw [if_pos z]
        exact beg_fit n e hw
      · rw [if_neg z] at hw ⊢
        rw [if_neg z]
        exact beg_fit n i hw
def sdI (sd : Bool) : Int := if sd = true then 1 else 0
section
variable {P : Program} {w : World} {K : PySem.W.Frag} {mg : Str → Option Value} {base : Heap}
def sp_begun (n : Nat) : DSp := fun ds M Q _ => ∃ r : Rule, ds = [r.d] ∧ n ≤ 4 ∧ r.W n ∧ Q r.beg.d M
theorem step_begun (T : Tx K mg) {n k : Nat} {sp : DSp} (F : Ok P w K mg base .no (k+2) "begun" ["rule"] sp) (hsp : ∀ m, n = m + 1 → sp = sp_begun m) : Ok P w K mg base .no (k+3) "begun" ["rule"] (sp_begun n) :=
  ok_no T.d_begun T.g_begun sc_begun (fun _ _ _ _ _ _ us hl => match us, hl with | [_], _ => rfl) (fun ds M Q E h => by first | (obtain ⟨_, rfl, _⟩ := h; rfl) | (obtain ⟨_, _, rfl, _⟩ := h; rfl) | (obtain ⟨_, _, _, rfl, _⟩ := h; rfl) | (obtain ⟨_, _, _, _, rfl, _⟩ := h; rfl) | (obtain ⟨_, _, _, _, _, rfl, _⟩ := h; rfl) | (obtain ⟨_, _, _, _, _, _, rfl, _⟩ := h; rfl) | (obtain ⟨_, _, _, _, _, _, _, rfl, _⟩ := h; rfl) | (obtain ⟨_, _, _, _, _, _, _, _, rfl, _⟩ := h; rfl) | (obtain ⟨_, _, _, _, _, _, _, _, _, rfl, _⟩ := h; rfl) | (obtain ⟨_, _, _, _, _, _, _, _, _, _, rfl, _⟩ := h; rfl) | (obtain ⟨_, _, _, _, _, _, _, _, _, _, _, rfl, _⟩ := h; rfl)) fun f cdv A outer s H E hr => ⟨_, w_begun T (hu_of hr) F (hr.mono (by first | decide | omega)) (ok_rule_within T) (hr.mono (by first | decide | omega)), fun ds M Q E h => by
  obtain ⟨r, rfl, hn, o, q⟩ := h
  rw [show startD N_begun [r.d] = [some (r.d)] from rfl]
  refine eq_point o hn ?_
  cases r with
  | no => cases n <;> exact o.elim
  | pt => exact dr q
  | un t l c i e =>
    cases n with
    | zero => exact o.elim
    | succ m =>
      rw [hsp m rfl]
      exact ⟨t, l, c, i, e, 0, 0, rfl, o.2.2.2.1, _, rfl, by omega, inner_W o 0 0, drQ q (by rw [beg_inner]; rfl)⟩⟩
theorem ok_begun (T : Tx K mg) : ∀ n, Ok P w K mg base .no (n + 3) "begun" ["rule"] (sp_begun n)
  | 0 => step_begun (k := 0) (sp := spNo) T ((okF T.d_begun T.g_begun sc_begun (fun _ _ _ _ _ _ us hl => match us, hl with | [_], _ => rfl)).up) fun m z => by cases z
  | n + 1 => step_begun (k := n + 1) T (ok_begun T n) fun m z => by cases z; rfl
def sp_is_won : DSp := fun ds M Q _ => ∃ t l c i e own other, ds = [(Rule.un t l c i e).d, .int own, .int other] ∧ Q (.bl (wonR t l c own other)) M
theorem ok_is_won (T : Tx K mg)  : Ok P w K mg base .no (1) "is_won" ["rule", "own", "other"] (sp_is_won) :=
  ok_no T.d_is_won T.g_is_won sc_is_won (fun _ _ _ _ _ _ us hl => match us, hl with | [_, _, _], _ => rfl) (fun ds M Q E h => by first | (obtain ⟨_, rfl, _⟩ := h; rfl) | (obtain ⟨_, _, rfl, _⟩ := h; rfl) | (obtain ⟨_, _, _, rfl, _⟩ := h; rfl) | (obtain ⟨_, _, _, _, rfl, _⟩ := h; rfl) | (obtain ⟨_, _, _, _, _, rfl, _⟩ := h; rfl) | (obtain ⟨_, _, _, _, _, _, rfl, _⟩ := h; rfl) | (obtain ⟨_, _, _, _, _, _, _, rfl, _⟩ := h; rfl) | (obtain ⟨_, _, _, _, _, _, _, _, rfl, _⟩ := h; rfl) | (obtain ⟨_, _, _, _, _, _, _, _, _, rfl, _⟩ := h; rfl) | (obtain ⟨_, _, _, _, _, _, _, _, _, _, rfl, _⟩ := h; rfl) | (obtain ⟨_, _, _, _, _, _, _, _, _, _, _, rfl, _⟩ := h; rfl)) fun f cdv A outer s H E hr => ⟨_, w_is_won T (hu_of hr) , fun ds M Q E h => by
  obtain ⟨t, l, c, i, e, own, other, rfl, q⟩ := h
  rw [show startD N_is_won [(Rule.un t l c i e).d, .int own, .int other] = [some ((Rule.un t l c i e).d), some (.int own), some (.int other)] from rfl]
  refine ⟨_, rfl, ?_⟩
  have fin : ¬ c = some own → rRet (rAndV (rOp gGe (rVar 1) (rOp gIx (rVar 0) (rC (.int 1)))) (rOp gGe (rOp gSub (rVar 1) (rVar 2)) (rOp gIx (rVar 0) (rC (.int 2))))) (endsD .no Q E) [some (Rule.un t l c i e).d, some (.int own), some (.int other)] M := fun hn => by
    unfold wonR at q
    rw [decide_eq_false hn, Bool.false_or] at q
    refine ⟨_, rfl, br_p (fun h1 => ⟨_, rfl, drQ q ?_⟩) fun h1 => drQ q ?_⟩
    · rw [decide_eq_true (show t ≤ own from h1)]; rfl
    · rw [decide_eq_false (show ¬ t ≤ own from h1)]; rfl
  cases c with
  | none => exact fin (fun z => by cases z)
  | some m =>
    refine ⟨_, rfl, ⟨br_p (fun h1 => drQ q ?_) fun h1 => fin fun z => h1 (by cases z; rfl)⟩⟩
    unfold wonR
    rw [decide_eq_true (show some m = some own by rw [show own = m from h1])]; rfl⟩
def sp_rallied (n : Nat) : DSp := fun ds M Q _ => ∃ (r : Rule) (st : RSt) (sd : Bool), ds = [r.d, st.d, .int (sdI sd)] ∧ n ≤ 4 ∧ r.W n ∧ FitR r st ∧ Q (.tup [(ral r st sd).1.d, .bl (ral r st sd).2]) M
theorem step_rallied (T : Tx K mg) {n k : Nat} {sp : DSp} (F : Ok P w K mg base .no (k+4) "rallied" ["rule", "stand", "side"] sp) (hk : n ≤ k + 1) (hsp : ∀ m, n = m + 1 → sp = sp_rallied m) : Ok P w K mg base .no (k+5) "rallied" ["rule", "stand", "side"] (sp_rallied n) :=
  ok_no T.d_rallied T.g_rallied sc_rallied (fun _ _ _ _ _ _ us hl => match us, hl with | [_, _, _], _ => rfl) (fun ds M Q E h => by first | (obtain ⟨_, rfl, _⟩ := h; rfl) | (obtain ⟨_, _, rfl, _⟩ := h; rfl) | (obtain ⟨_, _, _, rfl, _⟩ := h; rfl) | (obtain ⟨_, _, _, _, rfl, _⟩ := h; rfl) | (obtain ⟨_, _, _, _, _, rfl, _⟩ := h; rfl) | (obtain ⟨_, _, _, _, _, _, rfl, _⟩ := h; rfl) | (obtain ⟨_, _, _, _, _, _, _, rfl, _⟩ := h; rfl) | (obtain ⟨_, _, _, _, _, _, _, _, rfl, _⟩ := h; rfl) | (obtain ⟨_, _, _, _, _, _, _, _, _, rfl, _⟩ := h; rfl) | (obtain ⟨_, _, _, _, _, _, _, _, _, _, rfl, _⟩ := h; rfl) | (obtain ⟨_, _, _, _, _, _, _, _, _, _, _, rfl, _⟩ := h; rfl)) fun f cdv A outer s H E hr => ⟨_, w_rallied T (hu_of hr) F (hr.mono (by first | decide | omega)) (ok_rule_within T) (hr.mono (by first | decide | omega)) (ok_is_won T) (hr.mono (by first | decide | omega)) (ok_begun T (n-1)) (hr.mono (by first | decide | omega)), fun ds M Q E h => by
  obtain ⟨r, st, sd, rfl, hn, o, ft, q⟩ := h
  rw [show startD N_rallied [r.d, st.d, .int (sdI sd)] = [some (r.d), some (st.d), some (.int (sdI sd)), none, none, none] from rfl]
  refine eq_point o hn ?_
  cases r with
  | no => cases n <;> exact o.elim
  | pt => exact dr q
  | un t l c i e =>
    cases n with
    | zero => exact o.elim
    | succ m =>
      cases st with
      | e => exact ft.elim
      | s a b w0 =>
        obtain ⟨f1, f2, f3⟩ := ft
        refine ⟨_, rfl, _, rfl, fun p np => ?_⟩
        simp only [List.set_cons_zero, List.set_cons_succ]
        rw [hsp m rfl]
        refine ⟨_, rfl, _, rfl, t, l, c, i, e, a, b, rfl, o.2.2.2.1, _, rfl, _, w0, sd, rfl, by omega, inner_W o a b, fit_inner.mpr f3, rfl, ?_⟩
        simp only [List.set_cons_zero, List.set_cons_succ]
        cases hx : ral (inner c i e a b) w0 sd with
        | mk w1 won =>
          have eR : ral (.un t l c i e) (.s a b w0) sd = if won = true then upR t l c i e a b sd else (.s a b w1, false) := by
            show (if (if useLast c e a b = true then ral e w0 sd else ral i w0 sd).2 = true then upR t l c i e a b sd else (.s a b (if useLast c e a b = true then ral e w0 sd else ral i w0 sd).1, false)) = _
            rw [← ral_inner, hx]
          rw [eR] at q
          conv => whnf
          simp only [List.set_cons_zero, List.set_cons_succ]
          cases won with
          | false => exact ⟨_, _, mup_same, rfl, _, _, mup_same, rfl, drE q (.new np) rfl⟩
          | true =>
            have q : Q (.tup [(upR t l c i e a b sd).1.d, .bl (upR t l c i e a b sd).2]) M := q
            cases sd
            all_goals
              refine ⟨_, _, mup_same, rfl, _, _, _, _, rfl, rfl, mup_same, rfl, ?_⟩
              rw [mup_mup]
              refine ⟨_, _, mup_same, rfl, _, _, mup_same, rfl, t, l, c, i, e, _, _, rfl, ?_⟩
              conv => whnf
              refine br_by (fun hw => ?_) fun hw => ?_
              · first
                  | rw [up_y false hw] at q
                  | rw [up_y true hw] at q
                exact ⟨_, _, mup_same, rfl, _, _, mup_same, rfl, drE q (.new np) rfl⟩
              · first
                  | rw [up_n false hw] at q
                  | rw [up_n true hw] at q
                refine ⟨_, _, mup_same, rfl, _, _, mup_same, rfl, t, l, c, i, e, _, _, rfl, o.2.2.2.1, inner c i e _ _, rfl, by omega, inner_W o _ _, ?_⟩
                simp only [List.set_cons_zero, List.set_cons_succ]
                exact ⟨_, _, mup_same, rfl, _, _, mup_same, rfl, drE q (.new np) (by rw [beg_inner]; rfl)⟩⟩
theorem ok_rallied (T : Tx K mg) : ∀ n, Ok P w K mg base .no (n + 5) "rallied" ["rule", "stand", "side"] (sp_rallied n)
  | 0 => step_rallied (k := 0) (sp := spNo) T ((okF T.d_rallied T.g_rallied sc_rallied (fun _ _ _ _ _ _ us hl => match us, hl with | [_, _, _], _ => rfl)).up) (by omega) fun m z => by cases z
  | n + 1 => step_rallied (k := n + 1) T (ok_rallied T n) (by omega) fun m z => by cases z; rfl
def sp_stakes (n : Nat) : DSp := fun ds M Q _ => ∃ (r : Rule) (st : RSt) (sd : Bool), ds = [r.d, st.d, .int (sdI sd)] ∧ n ≤ 4 ∧ r.W n ∧ FitR r st ∧ Q (.int (stk r st sd : Nat)) M
theorem step_stakes (T : Tx K mg) {n k : Nat} {sp : DSp} (F : Ok P w K mg base .no (k+5) "stakes" ["rule", "stand", "side"] sp) (hk : n ≤ k) (hsp : ∀ m, n = m + 1 → sp = sp_stakes m) : Ok P w K mg base .no (k+6) "stakes" ["rule", "stand", "side"] (sp_stakes n) :=
  ok_no T.d_stakes T.g_stakes sc_stakes (fun _ _ _ _ _ _ us hl => match us, hl with | [_, _, _], _ => rfl) (fun ds M Q E h => by first | (obtain ⟨_, rfl, _⟩ := h; rfl) | (obtain ⟨_, _, rfl, _⟩ := h; rfl) | (obtain ⟨_, _, _, rfl, _⟩ := h; rfl) | (obtain ⟨_, _, _, _, rfl, _⟩ := h; rfl) | (obtain ⟨_, _, _, _, _, rfl, _⟩ := h; rfl) | (obtain ⟨_, _, _, _, _, _, rfl, _⟩ := h; rfl) | (obtain ⟨_, _, _, _, _, _, _, rfl, _⟩ := h; rfl) | (obtain ⟨_, _, _, _, _, _, _, _, rfl, _⟩ := h; rfl) | (obtain ⟨_, _, _, _, _, _, _, _, _, rfl, _⟩ := h; rfl) | (obtain ⟨_, _, _, _, _, _, _, _, _, _, rfl, _⟩ := h; rfl) | (obtain ⟨_, _, _, _, _, _, _, _, _, _, _, rfl, _⟩ := h; rfl)) fun f cdv A outer s H E hr => ⟨_, w_stakes T (hu_of hr) F (hr.mono (by first | decide | omega)) (ok_rule_within T) (hr.mono (by first | decide | omega)) (ok_rallied T n) (hr.mono (by first | decide | omega)), fun ds M Q E h => by
  obtain ⟨r, st, sd, rfl, hn, o, ft, q⟩ := h
  rw [show startD N_stakes [r.d, st.d, .int (sdI sd)] = [some (r.d), some (st.d), some (.int (sdI sd)), none] from rfl]
  refine eq_point o hn ?_
  cases r with
  | no => cases n <;> exact o.elim
  | pt => exact dr q
  | un t l c i e =>
    cases n with
    | zero => exact o.elim
    | succ m =>
      cases st with
      | e => exact ft.elim
      | s a b w0 =>
        rw [hsp m rfl]
        refine ⟨_, rfl, _, rfl, t, l, c, i, e, a, b, rfl, o.2.2.2.1, _, rfl, _, w0, sd, rfl, by omega, inner_W o a b, fit_inner.mpr ft.2.2, ?_⟩
        simp only [List.set_cons_zero, List.set_cons_succ]
        refine ⟨.un t l c i e, .s a b w0, sd, rfl, hn, o, ft, _, rfl, ?_⟩
        have eS : stk (.un t l c i e) (.s a b w0) sd = stk (inner c i e a b) w0 sd + if (ral (.un t l c i e) (.s a b w0) sd).2 = true then 1 else 0 := by rw [stk_inner]; rfl
        rw [eS] at q
        refine br_by (fun h1 => drQ q ?_) fun h1 => drQ q ?_
        · rw [if_pos h1]; rfl
        · rw [if_neg (fun z => by rw [h1] at z; cases z)]; rfl⟩
theorem ok_stakes (T : Tx K mg) : ∀ n, Ok P w K mg base .no (n + 6) "stakes" ["rule", "stand", "side"] (sp_stakes n)
  | 0 => step_stakes (k := 0) (sp := spNo) T ((okF T.d_stakes T.g_stakes sc_stakes (fun _ _ _ _ _ _ us hl => match us, hl with | [_, _, _], _ => rfl)).up) (by omega) fun m z => by cases z
  | n + 1 => step_stakes (k := n + 1) T (ok_stakes T n) (by omega) fun m z => by cases z; rfl
end
end Tal
set_option maxHeartbeats 4000000
/-! games -/
namespace Tal
open PySem PySem.Spec PyProof.Rows L2
inductive Game where
  | rally (r : Rule) | down (g : Down) | lane (g : Lane)
def Game.d : Game → D
  | .rally r => .tup [.str "rally", r.d]
  | .down g => .tup [.str "down", g.d]
  | .lane g => .tup [.str "lane", g.d]
def Game.Ok : Game → Prop
  | .rally r => r.W 4 ∧ r.units ≤ 10
  | .down g => g.Ok
  | .lane g => g.Ok
inductive St0 where
  | rs (s : RSt) | dn (s : DSt) | ln (s : LSt)
def St0.d : St0 → D
  | .rs s => s.d
  | .dn s => s.d
  | .ln s => s.d
structure Sta where
  st : St0
  win : Option (List Int)
def winD : Option (List Int) → D
  | none => .non
  | some l => .tup (nums l)
def Sta.d (S : Sta) : D := .tup [S.st.d, winD S.win]
def Game.first : Game → Sta
  | .rally r => ⟨.rs r.beg, none⟩
  | .down g => ⟨.dn g.begun, none⟩
  | .lane g => ⟨.ln g.begun, none⟩
def sideOf : D → Option Bool
  | .int i => if i = 0 then some false else if i = 1 then some true else none
  | _ => none
def rallyTo (x : RSt × Bool) (sd : Bool) : Sta := ⟨.rs x.1, if x.2 = true then some [sdI sd] else none⟩
def downTo (x : DSt × Bool) : Sta := ⟨.dn x.1, if x.2 = true then some [(x.1.side : Int)] else none⟩
def laneTo (x : LSt × Bool) : Sta := ⟨.ln x.1, if x.2 = true then some ((bestOf x.1.rows).map fun (k : Nat) => (k : Int)) else none⟩
def step : Game → Sta → D → Option Sta
  | .rally r, ⟨.rs s, none⟩, x => (sideOf x).map fun sd => rallyTo (ral r s sd) sd
  | .down g, ⟨.dn s, none⟩, x => (g.find x).map fun t => downTo (g.play s t)
  | .lane g, ⟨.ln s, none⟩, x => (pinsOf (s.rows.getD s.side row0).up x).map fun p => laneTo (g.bowl s p)
  | _, _, _ => none
theorem step_r {r : Rule} {s : RSt} {x : D} : step (.rally r) ⟨.rs s, none⟩ x = (sideOf x).map fun sd => rallyTo (ral r s sd) sd := rfl
theorem step_d {g : Down} {s : DSt} {x : D} : step (.down g) ⟨.dn s, none⟩ x = (g.find x).map fun t => downTo (g.play s t) := rfl
theorem step_l {g : Lane} {s : LSt} {x : D} : step (.lane g) ⟨.ln s, none⟩ x = (pinsOf (s.rows.getD s.side row0).up x).map fun p => laneTo (g.bowl s p) := rfl
/-- the class of what refuses -/
def refuse : Game → Sta → Str
  | g, S => match S.win with
    | some _ => "Over"
    | none => match g with
      | .rally _ => "NoSide"
      | .down _ => "NoThrow"
      | .lane _ => "NoPins"
structure Row.Fine (g : Lane) (r : Row) : Prop where
  b : r.ball = 0 ∨ r.ball = 1
  e : 0 ≤ r.extra
  u : 0 ≤ r.up ∧ r.up ≤ g.pins
/-- what holds in play -/
def FitS : Game → Sta → Prop
  | .rally r, ⟨.rs s, w⟩ => w = none → FitR r s
  | .down g, ⟨.dn s, w⟩ => s.Fit g ∧ (w = none → (∀ x ∈ s.counts, 0 < x) ∧ 0 < s.held)
  | .lane g, ⟨.ln s, w⟩ => s.Fit g ∧ (∀ r ∈ s.rows, r.Fine g) ∧ (w = none → ∃ c : Int, c < g.frames ∧ ∀ k < g.sides, (s.rows.getD k row0).done = if k < s.side then c + 1 else c)
  | _, _ => False
section
variable {P : Program} {w : World} {K : PySem.W.Frag} {mg : Str → Option Value} {base : Heap}
def sp_is_game : DSp := fun ds M Q _ => ∃ g : Game, ds = [g.d] ∧ g.Ok ∧ Q (.bl true) M
theorem ok_is_game (T : Tx K mg)  : Ok P w K mg base .no (9) "is_game" ["thing"] (sp_is_game) :=
  ok_no T.d_is_game T.g_is_game sc_is_game (fun _ _ _ _ _ _ us hl => match us, hl with | [_], _ => rfl) (fun ds M Q E h => by first | (obtain ⟨_, rfl, _⟩ := h; rfl) | (obtain ⟨_, _, rfl, _⟩ := h; rfl) | (obtain ⟨_, _, _, rfl, _⟩ := h; rfl) | (obtain ⟨_, _, _, _, rfl, _⟩ := h; rfl) | (obtain ⟨_, _, _, _, _, rfl, _⟩ := h; rfl) | (obtain ⟨_, _, _, _, _, _, rfl, _⟩ := h; rfl) | (obtain ⟨_, _, _, _, _, _, _, rfl, _⟩ := h; rfl) | (obtain ⟨_, _, _, _, _, _, _, _, rfl, _⟩ := h; rfl) | (obtain ⟨_, _, _, _, _, _, _, _, _, rfl, _⟩ := h; rfl) | (obtain ⟨_, _, _, _, _, _, _, _, _, _, rfl, _⟩ := h; rfl) | (obtain ⟨_, _, _, _, _, _, _, _, _, _, _, rfl, _⟩ := h; rfl)) fun f cdv A outer s H E hr => ⟨_, w_is_game T (hu_of hr) (ok_is_rule T) (hr.mono (by first | decide | omega)) (ok_is_down T) (hr.mono (by first | decide | omega)) (ok_is_lane T) (hr.mono (by first | decide | omega)), fun ds M Q E h => by
  obtain ⟨g, rfl, o, q⟩ := h
  rw [show startD N_is_game [g.d] = [some (g.d)] from rfl]
  cases g with
  | rally r => exact ⟨⟨_, rfl, ⟨_, rfl, r, rfl, o.1, o.2, dr q⟩⟩⟩
  | down g => exact ⟨⟨_, rfl, ⟨_, rfl, ⟨_, rfl, g, rfl, o, dr q⟩⟩⟩⟩
  | lane g => exact ⟨⟨_, rfl, ⟨_, rfl, ⟨_, rfl, ⟨_, rfl, g, rfl, o, dr q⟩⟩⟩⟩⟩⟩
def sp_first : DSp := fun ds M Q _ => ∃ g : Game, ds = [g.d] ∧ g.Ok ∧ Q g.first.d M
theorem ok_first (T : Tx K mg)  : Ok P w K mg base .no (8) "first" ["game"] (sp_first) :=
  ok_no T.d_first T.g_first sc_first (fun _ _ _ _ _ _ us hl => match us, hl with | [_], _ => rfl) (fun ds M Q E h => by first | (obtain ⟨_, rfl, _⟩ := h; rfl) | (obtain ⟨_, _, rfl, _⟩ := h; rfl) | (obtain ⟨_, _, _, rfl, _⟩ := h; rfl) | (obtain ⟨_, _, _, _, rfl, _⟩ := h; rfl) | (obtain ⟨_, _, _, _, _, rfl, _⟩ := h; rfl) | (obtain ⟨_, _, _, _, _, _, rfl, _⟩ := h; rfl) | (obtain ⟨_, _, _, _, _, _, _, rfl, _⟩ := h; rfl) | (obtain ⟨_, _, _, _, _, _, _, _, rfl, _⟩ := h; rfl) | (obtain ⟨_, _, _, _, _, _, _, _, _, rfl, _⟩ := h; rfl) | (obtain ⟨_, _, _, _, _, _, _, _, _, _, rfl, _⟩ := h; rfl) | (obtain ⟨_, _, _, _, _, _, _, _, _, _, _, rfl, _⟩ := h; rfl)) fun f cdv A outer s H E hr => ⟨_, w_first T (hu_of hr) (ok_begun T 4) (hr.mono (by first | decide | omega)) (ok_down_begun T) (hr.mono (by first | decide | omega)) (ok_lane_begun T) (hr.mono (by first | decide | omega)), fun ds M Q E h => by
  obtain ⟨g, rfl, o, q⟩ := h
  rw [show startD N_first [g.d] = [some (g.d)] from rfl]
  cases g with
  | rally r => exact ⟨_, rfl, ⟨_, rfl, r, rfl, by omega, o.1, dr q⟩⟩
  | down g => exact ⟨_, rfl, ⟨_, rfl, ⟨_, rfl, g, rfl, o, dr q⟩⟩⟩
  | lane g => exact ⟨_, rfl, ⟨_, rfl, ⟨_, rfl, g, rfl, o, dr q⟩⟩⟩⟩
theorem side_between {x : D} : between 0 1 x = (sideOf x).isSome := by
  cases x with
  | int i =>
    show (decide (0 ≤ i) && decide (i ≤ 1)) = (if i = 0 then some false else if i = 1 then some true else none : Option Bool).isSome
    by_cases h0 : i = 0
    · subst h0; rfl
    · by_cases h1 : i = 1
      · subst h1; rfl
      · rw [if_neg h0, if_neg h1]
        by_cases a : 0 ≤ i
        · rw [decide_eq_true a, decide_eq_false (by omega : ¬ i ≤ 1)]; rfl
        · rw [decide_eq_false a]; rfl
  | _ => rfl
theorem side_d {x : D} {sd : Bool} (h : sideOf x = some sd) : x = .int (sdI sd) := by
  cases x with
  | int i =>
    have h : (if i = 0 then some false else if i = 1 then some true else none : Option Bool) = some sd := h
    split at h
    · cases h; rename_i z; rw [z]; rfl
    · split at h
      · cases h; rename_i z; rw [z]; rfl
      · cases h
  | _ => cases h
def sp_rally_played (K : PySem.W.Frag) : DSp := fun ds M Q E => ∃ (r : Rule) (s : RSt) (x : D), ds = [r.d, s.d, x] ∧ r.W 4 ∧ FitR r s ∧ Known M x ∧ (∀ sd, sideOf x = some sd → Q (rallyTo (ral r s sd) sd).d M) ∧ (sideOf x = none → E ⟨He.ga K "NoSide", none⟩ M)
theorem ok_rally_played (T : Tx K mg)  : Ok P w K mg base .cold (10) "rally_played" ["rule", "stand", "deed"] (sp_rally_played K) :=
  ok_cold T.d_rally_played T.g_rally_played sc_rally_played (fun _ _ _ _ _ _ us hl => match us, hl with | [_, _, _], _ => rfl) (fun ds M Q E h => by first | (obtain ⟨_, rfl, _⟩ := h; rfl) | (obtain ⟨_, _, rfl, _⟩ := h; rfl) | (obtain ⟨_, _, _, rfl, _⟩ := h; rfl) | (obtain ⟨_, _, _, _, rfl, _⟩ := h; rfl) | (obtain ⟨_, _, _, _, _, rfl, _⟩ := h; rfl) | (obtain ⟨_, _, _, _, _, _, rfl, _⟩ := h; rfl) | (obtain ⟨_, _, _, _, _, _, _, rfl, _⟩ := h; rfl) | (obtain ⟨_, _, _, _, _, _, _, _, rfl, _⟩ := h; rfl) | (obtain ⟨_, _, _, _, _, _, _, _, _, rfl, _⟩ := h; rfl) | (obtain ⟨_, _, _, _, _, _, _, _, _, _, rfl, _⟩ := h; rfl) | (obtain ⟨_, _, _, _, _, _, _, _, _, _, _, rfl, _⟩ := h; rfl)) fun f cdv A outer s H E hr => ⟨_, w_rally_played T (hu_of hr) (ok_is_between T) (hr.mono (by first | decide | omega)) (ok_rallied T 4) (hr.mono (by first | decide | omega)), fun ds M Q E h => by
  obtain ⟨r, s, x, rfl, o, ft, kx, q, e⟩ := h
  rw [show startD N_rally_played [r.d, s.d, x] = [some (r.d), some (s.d), some (x), none, none] from rfl]
  refine ⟨x, 0, 1, rfl, kx, ?_⟩
  rw [side_between]
  cases hs : sideOf x with
  | none => exact ⟨.inr ⟨rfl, rfl⟩, M, .refl M, e hs⟩
  | some sd =>
    have q1 := q sd hs
    obtain rfl := side_d hs
    refine ⟨r, s, sd, rfl, by omega, o, ft, rfl, ?_⟩
    conv => whnf
    simp only [List.set_cons_zero, List.set_cons_succ]
    unfold rallyTo at q1
    refine br_by (fun h1 => drQ q1 ?_) fun h1 => drQ q1 ?_
    · rw [if_pos h1]; rfl
    · rw [if_neg (fun z => by rw [h1] at z; cases z)]; rfl⟩
def sp_down_played (K : PySem.W.Frag) : DSp := fun ds M Q E => ∃ (g : Down) (s : DSt) (x : D), ds = [g.d, s.d, x] ∧ g.Ok ∧ s.Fit g ∧ Deed M x ∧ (∀ t, g.find x = some t → Q (downTo (g.play s t)).d M) ∧ (g.find x = none → E ⟨He.ga K "NoThrow", none⟩ M)
theorem ok_down_played (T : Tx K mg)  : Ok P w K mg base .cold (3) "down_played" ["down", "stand", "deed"] (sp_down_played K) :=
  ok_cold T.d_down_played T.g_down_played sc_down_played (fun _ _ _ _ _ _ us hl => match us, hl with | [_, _, _], _ => rfl) (fun ds M Q E h => by first | (obtain ⟨_, rfl, _⟩ := h; rfl) | (obtain ⟨_, _, rfl, _⟩ := h; rfl) | (obtain ⟨_, _, _, rfl, _⟩ := h; rfl) | (obtain ⟨_, _, _, _, rfl, _⟩ := h; rfl) | (obtain ⟨_, _, _, _, _, rfl, _⟩ := h; rfl) | (obtain ⟨_, _, _, _, _, _, rfl, _⟩ := h; rfl) | (obtain ⟨_, _, _, _, _, _, _, rfl, _⟩ := h; rfl) | (obtain ⟨_, _, _, _, _, _, _, _, rfl, _⟩ := h; rfl) | (obtain ⟨_, _, _, _, _, _, _, _, _, rfl, _⟩ := h; rfl) | (obtain ⟨_, _, _, _, _, _, _, _, _, _, rfl, _⟩ := h; rfl) | (obtain ⟨_, _, _, _, _, _, _, _, _, _, _, rfl, _⟩ := h; rfl)) fun f cdv A outer s H E hr => ⟨_, w_down_played T (hu_of hr) (ok_down_thrown T) (hr.mono (by first | decide | omega)), fun ds M Q E h => by
  obtain ⟨g, s, x, rfl, o, ft, hx, q, e⟩ := h
  rw [show startD N_down_played [g.d, s.d, x] = [some (g.d), some (s.d), some (x), none, none] from rfl]
  refine ⟨g, s, x, rfl, o, ft, hx, fun t ht => ⟨rfl, ?_⟩, fun hn => ⟨.inr ⟨rfl, rfl⟩, M, .refl M, e hn⟩⟩
  have q := q t ht
  conv => whnf
  simp only [List.set_cons_zero, List.set_cons_succ]
  unfold downTo at q
  refine br_by (fun h1 => ⟨_, rfl, drQ q ?_⟩) fun h1 => drQ q ?_
  · rw [if_pos h1]; rfl
  · rw [if_neg (fun z => by rw [h1] at z; cases z)]; rfl⟩
theorem play_fit {g : Lane} {s : LSt} {p : Int} (ft : s.Fit g) : (g.bowl s p).1.rows.length = g.sides := by
  show (s.rows.set s.side _).length = g.sides
  rw [List.length_set]; exact ft.l
def sp_lane_played (K : PySem.W.Frag) : DSp := fun ds M Q E => ∃ (g : Lane) (s : LSt) (x : D), ds = [g.d, s.d, x] ∧ g.Ok ∧ s.Fit g ∧ Known M x ∧ (∀ p, pinsOf (s.rows.getD s.side row0).up x = some p → Q (laneTo (g.bowl s p)).d M) ∧ (pinsOf (s.rows.getD s.side row0).up x = none → E ⟨He.ga K "NoPins", none⟩ M)
theorem ok_lane_played (T : Tx K mg)  : Ok P w K mg base .cold (4) "lane_played" ["lane", "stand", "deed"] (sp_lane_played K) :=
  ok_cold T.d_lane_played T.g_lane_played sc_lane_played (fun _ _ _ _ _ _ us hl => match us, hl with | [_, _, _], _ => rfl) (fun ds M Q E h => by first | (obtain ⟨_, rfl, _⟩ := h; rfl) | (obtain ⟨_, _, rfl, _⟩ := h; rfl) | (obtain ⟨_, _, _, rfl, _⟩ := h; rfl) | (obtain ⟨_, _, _, _, rfl, _⟩ := h; rfl) | (obtain ⟨_, _, _, _, _, rfl, _⟩ := h; rfl) | (obtain ⟨_, _, _, _, _, _, rfl, _⟩ := h; rfl) | (obtain ⟨_, _, _, _, _, _, _, rfl, _⟩ := h; rfl) | (obtain ⟨_, _, _, _, _, _, _, _, rfl, _⟩ := h; rfl) | (obtain ⟨_, _, _, _, _, _, _, _, _, rfl, _⟩ := h; rfl) | (obtain ⟨_, _, _, _, _, _, _, _, _, _, rfl, _⟩ := h; rfl) | (obtain ⟨_, _, _, _, _, _, _, _, _, _, _, rfl, _⟩ := h; rfl)) fun f cdv A outer s H E hr => ⟨_, w_lane_played T (hu_of hr) (ok_lane_bowled T) (hr.mono (by first | decide | omega)) (ok_best_of T) (hr.mono (by first | decide | omega)), fun ds M Q E h => by
  obtain ⟨g, s, x, rfl, o, ft, hx, q, e⟩ := h
  rw [show startD N_lane_played [g.d, s.d, x] = [some (g.d), some (s.d), some (x), none, none] from rfl]
  refine ⟨g, s, x, rfl, o, ft, hx, fun p hp => ⟨rfl, ?_⟩, fun hn => ⟨.inr ⟨rfl, rfl⟩, M, .refl M, e hn⟩⟩
  have q := q p hp
  conv => whnf
  simp only [List.set_cons_zero, List.set_cons_succ]
  have l := play_fit (p := p) ft
  have o1 := o.s1; have o3 := o.s3
  unfold laneTo at q
  refine br_by (fun h1 => ⟨_, rfl, by omega, by omega, drQ q ?_⟩) fun h1 => drQ q ?_
  · rw [if_pos h1]
    show D.tup [_, D.tup (nums _)] = _
    unfold nums sides
    rw [List.map_map]; rfl
  · rw [if_neg (fun z => by rw [h1] at z; cases z)]; rfl⟩
def sp_played (K : PySem.W.Frag) : DSp := fun ds M Q E => ∃ (g : Game) (S : Sta) (x : D), ds = [g.d, S.d, x] ∧ g.Ok ∧ FitS g S ∧ Deed M x ∧ (∀ S', step g S x = some S' → Q S'.d M) ∧ (step g S x = none → E ⟨He.ga K (refuse g S), none⟩ M)
theorem ok_played (T : Tx K mg)  : Ok P w K mg base .cold (11) "played" ["game", "stand", "deed"] (sp_played K) :=
  ok_cold T.d_played T.g_played sc_played (fun _ _ _ _ _ _ us hl => match us, hl with | [_, _, _], _ => rfl) (fun ds M Q E h => by first | (obtain ⟨_, rfl, _⟩ := h; rfl) | (obtain ⟨_, _, rfl, _⟩ := h; rfl) | (obtain ⟨_, _, _, rfl, _⟩ := h; rfl) | (obtain ⟨_, _, _, _, rfl, _⟩ := h; rfl) | (obtain ⟨_, _, _, _, _, rfl, _⟩ := h; rfl) | (obtain ⟨_, _, _, _, _, _, rfl, _⟩ := h; rfl) | (obtain ⟨_, _, _, _, _, _, _, rfl, _⟩ := h; rfl) | (obtain ⟨_, _, _, _, _, _, _, _, rfl, _⟩ := h; rfl) | (obtain ⟨_, _, _, _, _, _, _, _, _, rfl, _⟩ := h; rfl) | (obtain ⟨_, _, _, _, _, _, _, _, _, _, rfl, _⟩ := h; rfl) | (obtain ⟨_, _, _, _, _, _, _, _, _, _, _, rfl, _⟩ := h; rfl)) fun f cdv A outer s H E hr => ⟨_, w_played T (hu_of hr) (ok_rally_played T) (hr.mono (by first | decide | omega)) (ok_down_played T) (hr.mono (by first | decide | omega)) (ok_lane_played T) (hr.mono (by first | decide | omega)), fun ds M Q E h => by
  obtain ⟨g, ⟨s, wn⟩, x, rfl, o, ft, hx, q, e⟩ := h
  rw [show startD N_played [g.d, Sta.d ⟨s, wn⟩, x] = [some (g.d), some (Sta.d ⟨s, wn⟩), some (x)] from rfl]
  refine ⟨_, rfl, ?_⟩
  cases wn with
  | some l =>
    have hn : step g ⟨s, some l⟩ x = none := by cases g <;> cases s <;> rfl
    exact ⟨.inr ⟨rfl, rfl⟩, M, .refl M, e hn⟩
  | none =>
    cases g with
    | rally r =>
      cases s with
      | rs s =>
        refine ⟨_, rfl, ⟨⟨_, rfl, _, rfl, r, s, x, rfl, o.1, ft rfl, hx.k, fun sd hs => dr (q _ (by rw [step_r, hs]; rfl)), fun hn => ⟨.inr ⟨rfl, rfl⟩, M, .refl M, e (by first | (rw [step_r, hn]; rfl) | (rw [step_d, hn]; rfl) | (rw [step_l, hn]; rfl))⟩⟩⟩⟩
      | dn s => exact ft.elim
      | ln s => exact ft.elim
    | down g =>
      cases s with
      | dn s =>
        refine ⟨_, rfl, ⟨⟨_, rfl, ⟨⟨_, rfl, _, rfl, g, s, x, rfl, o, ft.1, hx, fun t ht => dr (q _ (by rw [step_d, ht]; rfl)), fun hn => ⟨.inr ⟨rfl, rfl⟩, M, .refl M, e (by first | (rw [step_r, hn]; rfl) | (rw [step_d, hn]; rfl) | (rw [step_l, hn]; rfl))⟩⟩⟩⟩⟩⟩
      | rs s => exact ft.elim
      | ln s => exact ft.elim
    | lane g =>
      cases s with
      | ln s =>
        refine ⟨_, rfl, ⟨⟨_, rfl, ⟨⟨_, rfl, _, rfl, g, s, x, rfl, o, ft.1, hx.k, fun p hp => dr (q _ (by rw [step_l, hp]; rfl)), fun hn => ⟨.inr ⟨rfl, rfl⟩, M, .refl M, e (by first | (rw [step_r, hn]; rfl) | (rw [step_d, hn]; rfl) | (rw [step_l, hn]; rfl))⟩⟩⟩⟩⟩⟩
      | rs s => exact ft.elim
      | dn s => exact ft.elim⟩
end
end Tal
set_option maxHeartbeats 4000000
/-! games in play -/
namespace Tal
open PySem PySem.Spec PyProof.Rows L2
theorem ral_fit : ∀ (n : Nat) (r : Rule) (s : RSt) (sd : Bool), r.W n → FitR r s → (ral r s sd).2 = false → FitR r (ral r s sd).1
  | n, .no, _, _, h, _, _ => by cases n <;> exact h.elim
  | n, .pt, _, _, _, _, h => by cases h
  | n + 1, .un t l c i e, .e, _, _, h, _ => h.elim
  | n + 1, .un t l c i e, .s a b w, sd, hw, ft, h => by
    obtain ⟨f1, f2, f3⟩ := ft
    have eR : ral (.un t l c i e) (.s a b w) sd = if (ral (inner c i e a b) w sd).2 = true then upR t l c i e a b sd else (.s a b (ral (inner c i e a b) w sd).1, false) := by rw [ral_inner]; rfl
    rw [eR] at h ⊢
    by_cases q : (ral (inner c i e a b) w sd).2 = true
    · rw [if_pos q] at h ⊢
      cases hv : wonR t l c (if sd = true then b + 1 else a + 1) (if sd = true then a else b) with
      | true => rw [up_y sd hv] at h; cases h
      | false =>
        rw [up_n sd hv]
        have hc : ∀ m, c = some m → m ≠ if sd = true then b + 1 else a + 1 := fun m e1 e2 => by
          unfold wonR at hv
          rw [e1, e2, decide_eq_true rfl] at hv
          cases hv
        refine ⟨?_, fun m e1 => ?_, ?_⟩
        · cases sd <;> simp [bump] <;> omega
        · have h1 := f2 m e1
          have h2 := hc m e1
          cases sd <;> simp [bump] at h2 ⊢ <;> omega
        · have := inner_W hw (bump a (!sd)) (bump b sd)
          show if useLast c e (bump a (!sd)) (bump b sd) = true then FitR e _ else FitR i _
          by_cases z : useLast c e (bump a (!sd)) (bump b sd) = true
          · unfold inner at this; rw [if_pos z] at this ⊢; rw [if_pos z]; exact beg_fit n e this
          · unfold inner at this; rw [if_neg z] at this ⊢; rw [if_neg z]; exact beg_fit n i this
    · rw [if_neg q]
      refine ⟨f1, f2, ?_⟩
      have q' : (ral (inner c i e a b) w sd).2 = false := by cases z : (ral (inner c i e a b) w sd).2 <;> simp_all
      have := inner_W hw a b
      unfold inner at this q' ⊢
      by_cases z : useLast c e a b = true
      · rw [if_pos z] at this q' f3 ⊢; rw [if_pos z]; exact ral_fit n e w sd this f3 q'
      · rw [if_neg z] at this q' f3 ⊢; rw [if_neg z]; exact ral_fit n i w sd this f3 q'
theorem getD_mem {l : List Int} {k : Nat} (h : k < l.length) : l.getD k 0 ∈ l := by
  rw [List.getD_eq_getElem?_getD, List.getElem?_eq_getElem h]; exact List.getElem_mem h
theorem pos_set {l : List Int} {k : Nat} {v : Int} (h : ∀ x ∈ l, 0 < x) (hv : 0 < v) : ∀ x ∈ l.set k v, 0 < x := fun x hx => by
  rcases List.mem_or_eq_of_mem_set hx with z | z
  · exact h x z
  · rw [z]; exact hv
theorem play_ok {g : Down} {s : DSt} {t : Throw} (o : g.Ok) (ft : s.Fit g) : (g.play s t).1.Fit g ∧ ((g.play s t).2 = false → (∀ x ∈ s.counts, 0 < x) → 0 < s.held → (∀ x ∈ (g.play s t).1.counts, 0 < x) ∧ 0 < (g.play s t).1.held) := by
  have o1 := o.s1
  have hm : (s.side + 1) % g.sides < g.sides := Nat.mod_lt _ o1
  unfold Down.play Down.playL
  by_cases h1 : s.counts.getD s.side 0 - t.worth = 0 ∧ t.ends = true
  · rw [if_pos h1]
    exact ⟨⟨by rw [List.length_set]; exact ft.l, ft.s⟩, fun z => by cases z⟩
  · rw [if_neg h1]
    by_cases h2 : s.counts.getD s.side 0 - t.worth ≤ 0
    · rw [if_pos h2]
      refine ⟨⟨by show (s.counts.set _ _).length = _; rw [List.length_set]; exact ft.l, hm⟩, fun _ hp hh => ?_⟩
      have := pos_set (k := s.side) hp hh
      exact ⟨this, this _ (getD_mem (by rw [List.length_set, ft.l]; exact hm))⟩
    · rw [if_neg h2]
      by_cases h3 : s.thrown + 1 = g.turns
      · rw [if_pos h3]
        refine ⟨⟨by show (s.counts.set _ _).length = _; rw [List.length_set]; exact ft.l, hm⟩, fun _ hp hh => ?_⟩
        have := pos_set (k := s.side) hp (by omega : 0 < s.counts.getD s.side 0 - t.worth)
        exact ⟨this, this _ (getD_mem (by rw [List.length_set, ft.l]; exact hm))⟩
      · rw [if_neg h3]
        exact ⟨⟨by rw [List.length_set]; exact ft.l, ft.s⟩, fun _ hp hh => ⟨pos_set hp (by omega), hh⟩⟩
theorem frame_fine {g : Lane} {r : Row} {a b c : Int} (o : g.Ok) (hc : 0 ≤ c) : (g.frame r a b c).1.Fine g ∧ (g.frame r a b c).1.done = (if (g.frame r a b c).2 = true then r.done + 1 else r.done) := by
  have p1 := o.p1
  unfold Lane.frame
  split
  · exact ⟨⟨.inl rfl, hc, by show 0 ≤ g.pins ∧ g.pins ≤ g.pins; omega⟩, rfl⟩
  · exact ⟨⟨.inl rfl, Int.le_refl _, by show 0 ≤ g.pins ∧ g.pins ≤ g.pins; omega⟩, rfl⟩
theorem ball_fine {g : Lane} {r : Row} {p : Int} (o : g.Ok) (f : r.Fine g) (hp : 0 ≤ p ∧ p ≤ r.up) : (g.ball r p).1.Fine g ∧ (g.ball r p).1.done = (if (g.ball r p).2 = true then r.done + 1 else r.done) := by
  have p1 := o.p1
  have fu := f.u
  unfold Lane.ball
  split
  · rename_i he
    unfold Lane.extra
    split
    · exact ⟨⟨.inl rfl, Int.le_refl _, by show 0 ≤ g.pins ∧ g.pins ≤ g.pins; omega⟩, rfl⟩
    · refine ⟨⟨.inl rfl, by show 0 ≤ r.extra - 1; omega, ?_⟩, rfl⟩
      show 0 ≤ (if r.up - p = 0 then g.pins else r.up - p) ∧ (if r.up - p = 0 then g.pins else r.up - p) ≤ g.pins
      split <;> omega
  · split
    · exact frame_fine (r := ⟨r.done, r.ball + 1, r.up - p, r.far, 0, 0, r.total + p * r.near + p⟩) o (by omega)
    · split
      · exact frame_fine (r := ⟨r.done, r.ball + 1, r.up - p, r.far, 0, 0, r.total + p * r.near + p⟩) o (by omega)
      · split
        · exact frame_fine (r := ⟨r.done, r.ball + 1, r.up - p, r.far, 0, 0, r.total + p * r.near + p⟩) o (by omega)
        · rename_i h1 h2 h3 h4
          refine ⟨⟨.inr (by show r.ball + 1 = 1; have := f.b; omega), Int.le_refl _, by show 0 ≤ r.up - p ∧ r.up - p ≤ g.pins; omega⟩, rfl⟩
theorem getD_set {l : List Row} {k j : Nat} {v : Row} (h : k < l.length) : (l.set k v).getD j row0 = if j = k then v else l.getD j row0 := by
  rw [List.getD_eq_getElem?_getD, List.getD_eq_getElem?_getD, List.getElem?_set]
  by_cases e : k = j
  · subst e; rw [if_pos rfl, if_pos h, if_pos rfl]; rfl
  · rw [if_neg e, if_neg (Ne.symm e)]
theorem all_done {g : Lane} {l : List Row} : (l.all fun r => decide (r.done = g.frames)) = true ↔ ∀ k < l.length, (l.getD k row0).done = g.frames := by
  rw [List.all_eq_true]
  constructor
  · intro h k hk
    exact of_decide_eq_true (h _ (rows_mem hk))
  · intro h r hr
    obtain ⟨k, hk, e⟩ := List.getElem_of_mem hr
    have := h k hk
    rw [List.getD_eq_getElem?_getD, List.getElem?_eq_getElem hk] at this
    rw [← e]; exact decide_eq_true this
/-- where the frames stand, at most as many as there are -/
def Done (g : Lane) (s : LSt) : Prop := ∃ c : Int, c < g.frames ∧ ∀ k < g.sides, (s.rows.getD k row0).done = if k < s.side then c + 1 else c
theorem bowl_ok {g : Lane} {s : LSt} {p : Int} (o : g.Ok) (ft : s.Fit g) (ff : ∀ r ∈ s.rows, r.Fine g) (hd : Done g s) (hp : 0 ≤ p ∧ p ≤ (s.rows.getD s.side row0).up) :
    (g.bowl s p).1.Fit g ∧ (∀ r ∈ (g.bowl s p).1.rows, r.Fine g) ∧ ((g.bowl s p).2 = false → Done g (g.bowl s p).1) ∧ (∀ r ∈ (g.bowl s p).1.rows, r.done ≤ g.frames) := by
  have o1 := o.s1; have p2 := o.p2
  have hs : s.side < s.rows.length := by rw [ft.l]; exact ft.k
  obtain ⟨b1, b2⟩ := ball_fine (p := p) o (ff _ (rows_mem hs)) hp
  obtain ⟨c, hc, hk⟩ := hd
  have hR : (g.rows s p).length = g.sides := by unfold Lane.rows; rw [List.length_set]; exact ft.l
  have fine : ∀ r ∈ g.rows s p, r.Fine g := fun r hr => by
    rcases List.mem_or_eq_of_mem_set hr with z | z
    · exact ff r z
    · rw [z]; exact b1
  have at_ : ∀ k, (g.rows s p).getD k row0 = if k = s.side then (g.ball (s.rows.getD s.side row0) p).1 else s.rows.getD k row0 := fun k => getD_set hs
  have d0 : (s.rows.getD s.side row0).done = c := by rw [hk _ ft.k, if_neg (Nat.lt_irrefl _)]
  rw [d0] at b2
  have dk : ∀ k < g.sides, ((g.rows s p).getD k row0).done = if k < s.side then c + 1 else if k = s.side then (if (g.ball (s.rows.getD s.side row0) p).2 = true then c + 1 else c) else c := fun k h => by
    rw [at_]
    by_cases e : k = s.side
    · subst e; rw [if_pos rfl, if_neg (Nat.lt_irrefl _), if_pos rfl]; exact b2
    · rw [if_neg e, if_neg e, hk k h]
  refine ⟨⟨hR, ?_, fun r hr => ?_⟩, fine, fun hv => ?_, fun r hr => ?_⟩
  · show (if _ then _ else _) < g.sides
    split
    · exact Nat.mod_lt _ o1
    · exact ft.k
  · have := (fine r hr).u; omega
  · have hv : ((g.rows s p).all fun r => decide (r.done = g.frames)) = false := hv
    cases hB : (g.ball (s.rows.getD s.side row0) p).2 with
    | false =>
      rw [hB] at dk
      refine ⟨c, hc, fun k h => ?_⟩
      show ((g.rows s p).getD k row0).done = if k < (if (g.ball (s.rows.getD s.side row0) p).2 = true then (s.side + 1) % g.sides else s.side) then c + 1 else c
      rw [hB, dk k h]
      simp
    | true =>
      rw [hB] at dk
      by_cases hl : s.side + 1 < g.sides
      · refine ⟨c, hc, fun k h => ?_⟩
        show ((g.rows s p).getD k row0).done = if k < (if (g.ball (s.rows.getD s.side row0) p).2 = true then (s.side + 1) % g.sides else s.side) then c + 1 else c
        rw [hB, dk k h, if_pos rfl, if_pos rfl, Nat.mod_eq_of_lt hl]
        by_cases e1 : k < s.side
        · rw [if_pos e1, if_pos (by omega)]
        · by_cases e2 : k = s.side
          · rw [if_neg e1, if_pos e2, if_pos (by omega)]
          · rw [if_neg e1, if_neg e2, if_neg (by omega)]
      · have hs1 : s.side + 1 = g.sides := by have := ft.k; omega
        have all1 : ∀ k < g.sides, ((g.rows s p).getD k row0).done = c + 1 := fun k h => by
          rw [dk k h, if_pos rfl]
          by_cases e1 : k < s.side
          · rw [if_pos e1]
          · rw [if_neg e1, if_pos (by omega)]
        have hc1 : c + 1 ≠ g.frames := fun e => by
          have := (all_done (g := g) (l := g.rows s p)).mpr fun k hk => by rw [hR] at hk; rw [all1 k hk, e]
          rw [hv] at this; cases this
        refine ⟨c + 1, by omega, fun k h => ?_⟩
        show ((g.rows s p).getD k row0).done = if k < (if (g.ball (s.rows.getD s.side row0) p).2 = true then (s.side + 1) % g.sides else s.side) then c + 1 + 1 else c + 1
        rw [hB, if_pos rfl, hs1, Nat.mod_self, if_neg (Nat.not_lt_zero _)]
        exact all1 k h
  · obtain ⟨k, hk1, e⟩ := List.getElem_of_mem hr
    have hk1' : k < (g.rows s p).length := hk1
    have e2 : (g.rows s p).getD k row0 = r := by rw [List.getD_eq_getElem?_getD, List.getElem?_eq_getElem hk1']; exact e
    rw [← e2, dk k (by rw [← hR]; exact hk1')]
    split
    · omega
    · split
      · split <;> omega
      · omega
end Tal
set_option maxHeartbeats 4000000
/-! rows of deeds -/
namespace Tal
open PySem PySem.Spec PyProof.Rows L2
theorem pins_ok {up : Int} {x : D} {p : Int} (h : pinsOf up x = some p) : x = .int p ∧ 0 ≤ p ∧ p ≤ up := by
  cases x with
  | int i =>
    have h : (if 0 ≤ i ∧ i ≤ up then some i else none) = some p := h
    split at h
    · rename_i z; cases h; exact ⟨rfl, z⟩
    · cases h
  | _ => cases h
theorem step_fit {g : Game} {S S' : Sta} {x : D} (o : g.Ok) (ft : FitS g S) (h : step g S x = some S') : FitS g S' := by
  obtain ⟨s, w⟩ := S
  cases w with
  | some l => cases g <;> cases s <;> cases h
  | none =>
    cases g with
    | rally r =>
      cases s with
      | rs s =>
        rw [step_r] at h
        cases hs : sideOf x with
        | none => rw [hs] at h; cases h
        | some sd =>
          rw [hs] at h; cases h
          intro hw
          refine ral_fit 4 r s sd o.1 (ft rfl) ?_
          cases z : (ral r s sd).2 with
          | false => rfl
          | true => have : (if (ral r s sd).2 = true then some [sdI sd] else none) = none := hw; rw [if_pos z] at this; cases this
      | _ => exact ft.elim
    | down g =>
      cases s with
      | dn s =>
        rw [step_d] at h
        cases ht : g.find x with
        | none => rw [ht] at h; cases h
        | some t =>
          rw [ht] at h; cases h
          obtain ⟨h1, h2⟩ := play_ok (t := t) o ft.1
          refine ⟨h1, fun hw => h2 ?_ (ft.2 rfl).1 (ft.2 rfl).2⟩
          cases z : (g.play s t).2 with
          | false => rfl
          | true => have : (if (g.play s t).2 = true then some [((g.play s t).1.side : Int)] else none) = none := hw; rw [if_pos z] at this; cases this
      | _ => exact ft.elim
    | lane g =>
      cases s with
      | ln s =>
        rw [step_l] at h
        cases hp : pinsOf (s.rows.getD s.side row0).up x with
        | none => rw [hp] at h; cases h
        | some p =>
          rw [hp] at h; cases h
          obtain ⟨h1, h2, h3, _⟩ := bowl_ok o ft.1 ft.2.1 (ft.2.2 rfl) (pins_ok hp).2
          refine ⟨h1, h2, fun hw => h3 ?_⟩
          cases z : (g.bowl s p).2 with
          | false => rfl
          | true => have : (if (g.bowl s p).2 = true then some ((bestOf (g.bowl s p).1.rows).map fun (k : Nat) => (k : Int)) else none) = none := hw; rw [if_pos z] at this; cases this
      | _ => exact ft.elim
theorem getD_rep {n k : Nat} {r : Row} (h : k < n) : (List.replicate n r).getD k row0 = r := by
  rw [List.getD_eq_getElem?_getD, List.getElem?_replicate, if_pos h]; rfl
theorem first_fit {g : Game} (o : g.Ok) : FitS g g.first := by
  cases g with
  | rally r => exact fun _ => beg_fit 4 r o.1
  | down g =>
    have o1 := o.s1; have b1 := o.b1
    refine ⟨⟨by show (List.replicate _ _).length = _; simp, by show 0 < _; omega⟩, fun _ => ⟨fun x hx => ?_, by show 0 < g.start; omega⟩⟩
    have := List.eq_of_mem_replicate hx
    omega
  | lane g =>
    have o1 := o.s1; have p1 := o.p1; have p2 := o.p2; have f1 := o.f1
    refine ⟨⟨by show (List.replicate _ _).length = _; simp, by show 0 < _; omega, fun r hr => ?_⟩, fun r hr => ?_, fun _ => ⟨0, by omega, fun k hk => ?_⟩⟩
    · rw [List.eq_of_mem_replicate hr]; show 0 ≤ g.pins ∧ g.pins ≤ 20; omega
    · rw [List.eq_of_mem_replicate hr]; exact ⟨.inl rfl, Int.le_refl _, by show 0 ≤ g.pins ∧ g.pins ≤ g.pins; omega⟩
    · show ((List.replicate g.sides _).getD k row0).done = if k < 0 then _ else _
      rw [getD_rep hk, if_neg (Nat.not_lt_zero _)]
/-! ### read as far as it goes -/
def rd (g : Game) : Sta → List D → Nat × Sta
  | S, [] => (0, S)
  | S, x :: xs => match step g S x with
    | none => (0, S)
    | some S' => ((rd g S' xs).1 + 1, (rd g S' xs).2)
theorem rd_some {g : Game} {S S' : Sta} {x : D} {xs : List D} (h : step g S x = some S') : rd g S (x :: xs) = ((rd g S' xs).1 + 1, (rd g S' xs).2) := by
  rw [rd, h]
theorem rd_none {g : Game} {S : Sta} {x : D} {xs : List D} (h : step g S x = none) : rd g S (x :: xs) = (0, S) := by
  rw [rd, h]
theorem rd_le {g : Game} : ∀ (xs : List D) (S : Sta), (rd g S xs).1 ≤ xs.length
  | [], S => Nat.le_refl _
  | x :: xs, S => by
    cases h : step g S x with
    | none => rw [rd_none h]; exact Nat.zero_le _
    | some S' => rw [rd_some h]; exact Nat.succ_le_succ (rd_le xs S')
theorem rd_fit {g : Game} (o : g.Ok) : ∀ (xs : List D) (S : Sta), FitS g S → FitS g (rd g S xs).2
  | [], S, f => f
  | x :: xs, S, f => by
    cases h : step g S x with
    | none => rw [rd_none h]; exact f
    | some S' => rw [rd_some h]; exact rd_fit o xs S' (step_fit o f h)
/-- a whole row, and what is behind it -/
theorem rd_app {g : Game} : ∀ (xs ys : List D) (S : Sta), (rd g S xs).1 = xs.length → rd g S (xs ++ ys) = (xs.length + (rd g (rd g S xs).2 ys).1, (rd g (rd g S xs).2 ys).2)
  | [], ys, S, _ => by simp [rd]
  | x :: xs, ys, S, h => by
    cases e : step g S x with
    | none => rw [rd_none e] at h; cases h
    | some S' =>
      rw [rd_some e] at h
      have ih := rd_app xs ys S' (by simpa using h)
      rw [List.cons_append, rd_some e, ih, rd_some e]
      simp only [List.length_cons]
      congr 1
      omega
theorem rd_one {g : Game} {S S' : Sta} {x : D} (h : step g S x = some S') : rd g S [x] = (1, S') := by rw [rd_some h]; rfl
theorem rd_push {g : Game} {xs : List D} {S S' : Sta} {x : D} (h : (rd g S xs).1 = xs.length) (e : step g (rd g S xs).2 x = some S') : rd g S (xs ++ [x]) = (xs.length + 1, S') := by rw [rd_app xs _ S h, rd_one e]
theorem rd_stop {g : Game} {xs ys : List D} {S : Sta} {x : D} (h : (rd g S xs).1 = xs.length) (e : step g (rd g S xs).2 x = none) : rd g S (xs ++ x :: ys) = (xs.length, (rd g S xs).2) := by rw [rd_app xs _ S h, rd_none e]; rfl
theorem rd_take {g : Game} : ∀ (xs : List D) (S : Sta) (k : Nat), k ≤ (rd g S xs).1 → (rd g S (xs.take k)).1 = k
  | _, S, 0, _ => rfl
  | [], S, k + 1, h => by have : k + 1 ≤ 0 := h; omega
  | x :: xs, S, k + 1, h => by
    cases e : step g S x with
    | none => rw [rd_none e] at h; have : k + 1 ≤ 0 := h; omega
    | some S' =>
      rw [rd_some e] at h
      rw [List.take_succ_cons, rd_some e]
      exact congrArg (· + 1) (rd_take xs S' k (by have : k + 1 ≤ (rd g S' xs).1 + 1 := h; omega))
theorem rd_next {g : Game} {xs : List D} {S : Sta} {k : Nat} {x : D} (h : (rd g S (xs.take k)).1 = k) (hx : xs[k]? = some x) :
    (∀ S', step g (rd g S (xs.take k)).2 x = some S' → rd g S (xs.take (k + 1)) = (k + 1, S')) ∧ (step g (rd g S (xs.take k)).2 x = none → rd g S xs = (k, (rd g S (xs.take k)).2)) := by
  have hk : k < xs.length := (List.getElem?_eq_some_iff.mp hx).1
  have hl : (xs.take k).length = k := by rw [List.length_take]; omega
  refine ⟨fun S' e => ?_, fun e => ?_⟩
  · rw [List.take_succ, hx]
    have := rd_push (xs := xs.take k) (by rw [hl]; exact h) e
    rw [hl] at this
    exact this
  · have ex : xs[k] = x := by rw [List.getElem?_eq_getElem hk] at hx; exact Option.some.inj hx
    have e2 : xs.take k ++ x :: xs.drop (k + 1) = xs := by
      have := List.drop_eq_getElem_cons hk
      rw [ex] at this
      rw [← this, List.take_append_drop]
    have := rd_stop (ys := xs.drop (k + 1)) (xs := xs.take k) (by rw [hl]; exact h) e
    rw [hl, e2] at this
    exact this
/-- the stands of a whole row -/
def trc (g : Game) (S : Sta) (xs : List D) : List Sta := (List.range (xs.length + 1)).map fun k => (rd g S (xs.take k)).2
theorem trc_len {g : Game} {S : Sta} {xs : List D} : (trc g S xs).length = xs.length + 1 := by unfold trc; simp
theorem trc_get {g : Game} {S : Sta} {xs : List D} {k : Nat} (h : k ≤ xs.length) : (trc g S xs)[k]? = some (rd g S (xs.take k)).2 := by
  unfold trc
  rw [List.getElem?_map, List.getElem?_range (by omega)]; rfl
theorem trc_push {g : Game} {S : Sta} {xs : List D} {x : D} : trc g S (xs ++ [x]) = trc g S xs ++ [(rd g S (xs ++ [x])).2] := by
  unfold trc
  rw [List.length_append, List.length_singleton, List.range_succ, List.map_append]
  congr 1
  · refine List.map_congr_left fun k hk => ?_
    rw [List.take_append_of_le_length (by have := List.mem_range.mp hk; omega)]
  · simp only [List.map_cons, List.map_nil]
    rw [List.take_of_length_le (by simp)]
theorem trc_pop {g : Game} {S : Sta} {xs : List D} (h : xs ≠ []) : (trc g S xs).dropLast = trc g S xs.dropLast := by
  obtain ⟨ys, y, rfl⟩ : ∃ ys y, xs = ys ++ [y] := ⟨xs.dropLast, xs.getLast h, (List.dropLast_concat_getLast h).symm⟩
  rw [trc_push, List.dropLast_concat, List.dropLast_concat]
end Tal
set_option maxHeartbeats 4000000
/-! books: the defs by their classes, Falls -/
namespace Tal
open PySem PySem.Spec PyProof.Rows L2
section
variable {P : Program} {w : World} {K : PySem.W.Frag} {mg : Str → Option Value} {base : Heap} {C m q : Str} {i j : Nat} {N ps : List Str} {k : Nat} {dsp : DSp}
abbrev cxM (CX : CXT) (P : Program) (w : World) (K : PySem.W.Frag) (mg : Str → Option Value) (base : Heap) (N : List Str) (q : Str) (i j : Nat) (f : Addr) (cdv : Value) (A : Around) (outer : List Env) (s : Shared) (H : Hp) (E : XK) : Cx := cxOf CX P w K mg base N q (defScope (mem i j)) f cdv A outer s H E
theorem okM_no (D : MeI K C m q i j []) (c : Cls K (He.ga K C)) (h : Meth K (He.ga K C) m (He.ma K (He.ga K C) m)) (S : FnScope N ps (defScope (mem i j))) (B : BindsAll ps m q (mem i j)) (len : ∀ ds M Q E, dsp ds M Q E → ds.length = ps.length)
    (hb : ∀ (f : Addr) (cdv : Value) (A : Around) (outer : List Env) (s : Shared) (H : Hp) (E : XK), Room k (A.deeper (envOfC q (defScope (mem i j)) s.heap.objs.size f cdv)) → ∃ t, JB (cxM CX0 P w K mg base N q i j f cdv A outer s H E).nox (defBody (mem i j)) t ∧
      ∀ ds M Q E, dsp ds M Q E → t (endsD .no Q E) (startD N ds) M) : OkM P w K mg base .no (k + 1) (He.ga K C) m ps dsp := by
  obtain ⟨fd, F⟩ := D
  exact ⟨⟨_, fd, fn_no F S len (hb _), F.bindsN B, h⟩, c⟩
theorem okM_cold (D : MeI K C m q i j []) (c : Cls K (He.ga K C)) (h : Meth K (He.ga K C) m (He.ma K (He.ga K C) m)) (S : FnScope N ps (defScope (mem i j))) (B : BindsAll ps m q (mem i j)) (len : ∀ ds M Q E, dsp ds M Q E → ds.length = ps.length)
    (hb : ∀ (f : Addr) (cdv : Value) (A : Around) (outer : List Env) (s : Shared) (H : Hp) (E : XK), Room k (A.deeper (envOfC q (defScope (mem i j)) s.heap.objs.size f cdv)) → ∃ t, JB (cxM (L2N.CX P w) P w K mg base N q i j f cdv A outer s H E) (defBody (mem i j)) t ∧
      ∀ ds M Q E, dsp ds M Q E → t (endsD .cold Q E) (startD N ds) M) : OkM P w K mg base .cold (k + 1) (He.ga K C) m ps dsp := by
  obtain ⟨fd, F⟩ := D
  exact ⟨⟨_, fd, fn_cold F S len (hb _), F.bindsN B, h⟩, c⟩
theorem okM_any (D : MeI K C m q i j []) (c : Cls K (He.ga K C)) (h : Meth K (He.ga K C) m (He.ma K (He.ga K C) m)) (S : FnScope N ps (defScope (mem i j))) (B : BindsAll ps m q (mem i j)) (len : ∀ ds M Q E, dsp ds M Q E → ds.length = ps.length)
    (hb : ∀ (f : Addr) (cdv : Value) (A : Around) (outer : List Env) (s : Shared) (H : Hp) (E : XK), Room k (A.deeper (envOfC q (defScope (mem i j)) s.heap.objs.size f cdv)) → ∃ t, JB (cxM (L2.CX P w) P w K mg base N q i j f cdv A outer s H E) (defBody (mem i j)) t ∧
      ∀ ds M Q E, dsp ds M Q E → t (endsD .any Q E) (startD N ds) M) : OkM P w K mg base .any (k + 1) (He.ga K C) m ps dsp := by
  obtain ⟨fd, F⟩ := D
  exact ⟨⟨_, fd, fn_any F S len (hb _), F.bindsN B, h⟩, c⟩
end
section
variable {P : Program} {w : World} {K : PySem.W.Frag} {mg : Str → Option Value} {base : Heap}
theorem sc_Falls_init : FnScope ["self", "at"] ["self", "at"] (defScope (mem 8 0)) := ⟨rfl, rfl, rfl, by decide +kernel, rfl, by decide +kernel, by decide +kernel⟩
theorem ok_Falls (T : Tx K mg) : OkF P w K mg base "Falls" := by
  obtain ⟨fd, F⟩ := T.m_Falls_init
  obtain ⟨h1, h2, h3⟩ := T.i_ScoreError
  refine ⟨T.o_Falls, T.n_at, ⟨_, fd, T.h_Falls.at_, T.t_Falls, atH F sc_Falls_init fun cdv A outer s H E p => ⟨tVar 0, tC (.str "a deed that is refused"), ?_, rfl, rfl⟩, F.bindsN fun _ _ _ _ _ _ us hl => match us, hl with | [_, _], _ => rfl⟩, T.g_Falls⟩
  exact pss_cons (ps_expr (pe_initB (x := "ScoreError") ⟨T.g_ScoreError, ⟨_, h1, h2⟩, h3⟩ rfl (by decide) (pa_cons (pe_var (i := 0) rfl (.inl rfl)) (pa_cons pe_str pa_nil)))) (pss_one (ps_ost (pe_var (i := 0) rfl (.inl rfl)) (pe_var (i := 1) rfl (.inl rfl))))
/-! ### stands_of -/
theorem refuse_at (T : Tx K mg) (g : Game) (S : Sta) : PySem.W.exmOne K (.ref (He.ga K (refuse g S))) (.ref (He.ga K "ScoreError")) = some true ∧ PySem.W.subIn K (.ref (He.ga K (refuse g S))) (.type "BaseException") = some true := by
  obtain ⟨s, wn⟩ := S
  cases wn with
  | some l => exact ⟨T.e_Over, (He.exc_ok T.x_Over).2.2.1⟩
  | none =>
    cases g with
    | rally r => exact ⟨T.e_NoSide, (He.exc_ok T.x_NoSide).2.2.1⟩
    | down r => exact ⟨T.e_NoThrow, (He.exc_ok T.x_NoThrow).2.2.1⟩
    | lane r => exact ⟨T.e_NoPins, (He.exc_ok T.x_NoPins).2.2.1⟩
def stas (l : List Sta) : List D := l.map Sta.d
def sp_stands_of (K : PySem.W.Frag) : DSp := fun ds M Q E => ∃ (g : Game) (r : Addr) (xs : List D), ds = [g.d, .ref r] ∧ g.Ok ∧ M r = some (.lst xs) ∧ (∀ x ∈ xs, Deed M x) ∧ xs.length ≤ 1000 ∧
  ((rd g g.first xs).1 = xs.length → ∀ p, M p = none → Q (.ref p) (mup M p (.lst (stas (trc g g.first xs))))) ∧ ((rd g g.first xs).1 < xs.length → E ⟨He.ga K "Falls", some ((rd g g.first xs).1 + 1)⟩ M)
theorem ok_stands_of (T : Tx K mg)  : Ok P w K mg base .any (12) "stands_of" ["game", "row"] (sp_stands_of K) :=
  ok_any T.d_stands_of T.g_stands_of sc_stands_of (fun _ _ _ _ _ _ us hl => match us, hl with | [_, _], _ => rfl) (fun ds M Q E h => by first | (obtain ⟨_, rfl, _⟩ := h; rfl) | (obtain ⟨_, _, rfl, _⟩ := h; rfl) | (obtain ⟨_, _, _, rfl, _⟩ := h; rfl) | (obtain ⟨_, _, _, _, rfl, _⟩ := h; rfl) | (obtain ⟨_, _, _, _, _, rfl, _⟩ := h; rfl) | (obtain ⟨_, _, _, _, _, _, rfl, _⟩ := h; rfl) | (obtain ⟨_, _, _, _, _, _, _, rfl, _⟩ := h; rfl) | (obtain ⟨_, _, _, _, _, _, _, _, rfl, _⟩ := h; rfl) | (obtain ⟨_, _, _, _, _, _, _, _, _, rfl, _⟩ := h; rfl) | (obtain ⟨_, _, _, _, _, _, _, _, _, _, rfl, _⟩ := h; rfl) | (obtain ⟨_, _, _, _, _, _, _, _, _, _, _, rfl, _⟩ := h; rfl)) fun f cdv A outer s H E hr => ⟨_, w_stands_of T (hu_of hr) (ok_first T) (hr.mono (by first | decide | omega)) (ok_played T) (hr.mono (by first | decide | omega)) (ok_Falls T) (hr.mono (by first | decide | omega)), fun ds M Q E h => by
  obtain ⟨g, r, xs, rfl, o, hr1, hd, hl, q, e⟩ := h
  rw [show startD N_stands_of [g.d, .ref r] = [some (g.d), some (.ref r), none, none, none, none] from rfl]
  refine ⟨g, rfl, o, fun p np => ?_⟩
  simp only [List.set_cons_zero, List.set_cons_succ]
  have rp : r ≠ p := fun z => by rw [z, np] at hr1; cases hr1
  refine ⟨r, xs, rfl, mup_new hr1 np, fun i δ M' => (∃ o3 o4 o5, δ = [some g.d, some (.ref r), some (.ref p), o3, o4, o5]) ∧ M' = mup M p (.lst (stas (trc g g.first (xs.take i)))) ∧ (rd g g.first (xs.take i)).1 = i, ⟨⟨_, _, _, rfl⟩, rfl, rfl⟩, ?_, ?_, ?_⟩
  · rintro i δ M' ⟨_, rfl, _⟩; exact mup_new hr1 np
  · rintro i x δ M' hx ⟨⟨o3, o4, o5, rfl⟩, rfl, hi⟩
    have hk : i < xs.length := (List.getElem?_eq_some_iff.mp hx).1
    refine ⟨rfl, ?_⟩
    have hl2 : (xs.take i).length = i := by rw [List.length_take]; omega
    have hS : (stas (trc g g.first (xs.take i)))[i]? = some (rd g g.first (xs.take i)).2.d := by
      unfold stas
      rw [List.getElem?_map, trc_get (by omega), List.take_take, Nat.min_self]; rfl
    have hx2 : Deed (mup M p (.lst (stas (trc g g.first (xs.take i))))) x := (hd x (List.mem_of_getElem? hx)).le (.new np)
    obtain ⟨n1, n2⟩ := rd_next hi hx
    refine ⟨rcv_lst mup_same, _, _, mup_same, atI_nat hS, g, _, x, rfl, o, rd_fit o _ _ (first_fit o), hx2, fun S' hs => ?_, fun hn => ?_⟩
    · have h1 := n1 S' hs
      refine ⟨p, _, S'.d, rfl, rfl, mup_same, sz (by unfold stas; rw [List.length_map, trc_len]; omega), ?_⟩
      rw [mup_mup]
      refine ⟨⟨_, _, _, rfl⟩, ?_, by rw [h1]⟩
      have e2 : xs.take (i + 1) = xs.take i ++ [x] := by rw [List.take_succ, hx]; rfl
      rw [e2, trc_push, ← e2, h1]
      unfold stas
      rw [List.map_append]; rfl
    · have h2 := n2 hn
      obtain ⟨f1, f2⟩ := refuse_at T g (rd g g.first (xs.take i)).2
      refine ⟨rfl, f1, f2, fun a => ⟨_, rfl, ?_⟩⟩
      refine ⟨.inl rfl, M, .new np, ?_⟩
      have := e (by rw [h2]; exact hk)
      rw [h2] at this
      exact this
  · rintro δ M' ⟨⟨o3, o4, o5, rfl⟩, rfl, hi⟩
    rw [List.take_length] at hi ⊢
    exact dr (q hi p np)⟩
end
end Tal
set_option maxHeartbeats 4000000
/-! a book's promises -/
namespace Tal
open PySem PySem.Spec PyProof.Rows L2
def bkF (g : Game) (a b : Addr) : List (Str × D) := [("kept_game", g.d), ("kept_deeds", .ref a), ("kept_stands", .ref b)]
/-- a book of g with the deeds xs stands at p; L: what it owns -/
structure Bk (K : PySem.W.Frag) (M : Mp) (p : Addr) (g : Game) (xs : List D) (L : List Addr) : Prop where
  ok : g.Ok
  ex : ∃ dx a b, L = [p, a, b] ∧ M p = some (.ins (He.ga K "Book") dx (bkF g a b)) ∧ M a = some (.lst xs) ∧ M b = some (.lst (stas (trc g g.first xs))) ∧ a ≠ b
  full : (rd g g.first xs).1 = xs.length
theorem Bk.le {K : PySem.W.Frag} {M M' : Mp} {p : Addr} {g : Game} {xs : List D} {L : List Addr} (l : Le M M') (h : Bk K M p g xs L) : Bk K M' p g xs L :=
  ⟨h.ok, let ⟨dx, a, b, e, h1, h2, h3, h4⟩ := h.ex; ⟨dx, a, b, e, l _ _ h1, l _ _ h2, l _ _ h3, h4⟩, h.full⟩
/-- what is not the book's stays; what it owns is old or new -/
structure Fr (L : List Addr) (M M' : Mp) (L' : List Addr) : Prop where
  k : ∀ c, c ∉ L → ∀ o, M c = some o → M' c = some o
  n : ∀ c ∈ L', c ∈ L ∨ M c = none
/-- a deed that is no reference -/
def Flat (x : D) : Prop := (∃ i, x = .int i) ∨ ∃ z, x = .str z ∧ PyData.strOk z = true
theorem Flat.deed {M : Mp} {x : D} (h : Flat x) : Deed M x := by
  rcases h with ⟨i, rfl⟩ | ⟨z, rfl, hz⟩
  · exact ⟨True.intro, _, .int i, rfl⟩
  · exact ⟨True.intro, _, .str z, shaped_str hz⟩
theorem step_flat {g : Game} {S S' : Sta} {x : D} (o : g.Ok) (h : step g S x = some S') : Flat x := by
  obtain ⟨s, w⟩ := S
  cases w with
  | some l => cases g <;> cases s <;> cases h
  | none =>
    cases g with
    | rally r =>
      cases s with
      | rs s =>
        rw [step_r] at h
        cases hs : sideOf x with
        | none => rw [hs] at h; cases h
        | some sd => exact .inl ⟨_, side_d hs⟩
      | _ => cases h
    | down g =>
      cases s with
      | dn s =>
        rw [step_d] at h
        cases ht : g.find x with
        | none => rw [ht] at h; cases h
        | some t =>
          have h1 := List.find?_some ht
          have h2 := List.mem_of_find?_eq_some ht
          cases x with
          | str z => 
            have e : t.name = z := of_decide_eq_true h1
            exact .inr ⟨z, rfl, by rw [← e]; exact (o.nm t h2).ok⟩
          | _ => cases h1
      | _ => cases h
    | lane g =>
      cases s with
      | ln s =>
        rw [step_l] at h
        cases hp : pinsOf (s.rows.getD s.side row0).up x with
        | none => rw [hp] at h; cases h
        | some p => exact .inl ⟨p, (pins_ok hp).1⟩
      | _ => cases h
theorem full_flat {g : Game} (o : g.Ok) : ∀ (xs : List D) (S : Sta), (rd g S xs).1 = xs.length → ∀ x ∈ xs, Flat x
  | [], _, _, x, hx => by cases hx
  | y :: xs, S, h, x, hx => by
    cases e : step g S y with
    | none => rw [rd_none e] at h; cases h
    | some S' =>
      rw [rd_some e] at h
      rcases List.mem_cons.mp hx with z | z
      · rw [z]; exact step_flat o e
      · exact full_flat o xs S' (by simpa using h) x z
section
variable {P : Program} {w : World} {K : PySem.W.Frag} {mg : Str → Option Value} {base : Heap}
theorem stas_len {l : List Sta} : (stas l).length = l.length := by unfold stas; simp
theorem last_at {g : Game} {xs : List D} : (stas (trc g g.first xs))[(stas (trc g g.first xs)).length - 1]? = some (rd g g.first xs).2.d := by
  rw [stas_len, trc_len]
  unfold stas
  rw [List.getElem?_map, show xs.length + 1 - 1 = xs.length by omega, trc_get (Nat.le_refl _), List.take_length]; rfl
def sp_add (K : PySem.W.Frag) : DSp := fun ds M Q E => ∃ (p : Addr) (x : D) (g : Game) (xs : List D) (L : List Addr), ds = [.ref p, x] ∧ Bk K M p g xs L ∧ Deed M x ∧ xs.length ≤ 900 ∧
  (∀ S', step g (rd g g.first xs).2 x = some S' → ∀ M' L', Bk K M' p g (xs ++ [x]) L' → Fr L M M' L' → Q (.int (xs.length + 1 : Nat)) M') ∧ (step g (rd g g.first xs).2 x = none → E ⟨He.ga K (refuse g (rd g g.first xs).2), none⟩ M)
theorem ok_Book_add (T : Tx K mg)  : OkM P w K mg base .cold (13) (He.ga K "Book") "add" ["self", "deed"] (sp_add K) :=
  okM_cold T.m_Book_add T.c_Book T.h_add sc_Book_add (fun _ _ _ _ _ _ us hl => match us, hl with | [_, _], _ => rfl) (fun ds M Q E h => by first | (obtain ⟨_, rfl, _⟩ := h; rfl) | (obtain ⟨_, _, rfl, _⟩ := h; rfl) | (obtain ⟨_, _, _, rfl, _⟩ := h; rfl) | (obtain ⟨_, _, _, _, rfl, _⟩ := h; rfl) | (obtain ⟨_, _, _, _, _, rfl, _⟩ := h; rfl) | (obtain ⟨_, _, _, _, _, _, rfl, _⟩ := h; rfl) | (obtain ⟨_, _, _, _, _, _, _, rfl, _⟩ := h; rfl) | (obtain ⟨_, _, _, _, _, _, _, _, rfl, _⟩ := h; rfl) | (obtain ⟨_, _, _, _, _, _, _, _, _, rfl, _⟩ := h; rfl) | (obtain ⟨_, _, _, _, _, _, _, _, _, _, rfl, _⟩ := h; rfl) | (obtain ⟨_, _, _, _, _, _, _, _, _, _, _, rfl, _⟩ := h; rfl)) fun f cdv A outer s H E hr => ⟨_, w_Book_add T (hu_of hr) (ok_played T) (hr.mono (by first | decide | omega)), fun ds M Q E h => by
  obtain ⟨p, x, g, xs, L, rfl, B, hx, hl, q, e⟩ := h
  rw [show startD N_Book_add [.ref p, x] = [some (.ref p), some (x)] from rfl]
  obtain ⟨o, ⟨dx, a, b, rfl, h1, h2, h3, h4⟩, fl⟩ := B
  have pa : p ≠ a := fun z => by rw [z, h2] at h1; cases h1
  have pb : p ≠ b := fun z => by rw [z, h3] at h1; cases h1
  refine ⟨p, _, _, _, _, rfl, h1, T.c_Book, T.n_kept_stands, rfl, ?_⟩
  refine ⟨rcv_lst h3, ?_⟩
  refine ⟨p, _, _, _, _, rfl, h1, T.c_Book, T.n_kept_game, rfl, ?_⟩
  refine ⟨p, _, _, _, _, rfl, h1, T.c_Book, T.n_kept_stands, rfl, ?_⟩
  refine ⟨_, _, h3, atI_last last_at, g, _, x, rfl, o, rd_fit o _ _ (first_fit o), hx, fun S' hs => ?_, fun hn => ⟨.inr ⟨rfl, rfl⟩, M, .refl M, e hn⟩⟩
  refine ⟨b, _, S'.d, rfl, rfl, h3, sz (by rw [stas_len, trc_len]; omega), ?_⟩
  have g1 : mup M b (.lst (stas (trc g g.first xs) ++ [S'.d])) p = some (.ins (He.ga K "Book") dx (bkF g a b)) := by rw [mup_ne pb]; exact h1
  have g2 : mup M b (.lst (stas (trc g g.first xs) ++ [S'.d])) a = some (.lst xs) := by rw [mup_ne h4]; exact h2
  refine ⟨p, _, _, _, _, rfl, g1, T.c_Book, T.n_kept_deeds, rfl, ?_⟩
  refine ⟨rcv_lst g2, a, xs, x, rfl, rfl, g2, sz (by omega), ?_⟩
  have k1 : mup (mup M b (.lst (stas (trc g g.first xs) ++ [S'.d]))) a (.lst (xs ++ [x])) p = some (.ins (He.ga K "Book") dx (bkF g a b)) := by rw [mup_ne pa]; exact g1
  refine ⟨p, _, _, _, _, rfl, k1, T.c_Book, T.n_kept_deeds, rfl, ?_⟩
  refine ⟨_, mup_same, ?_⟩
  have h5 := rd_push fl hs
  have B' : Bk K (mup (mup M b (.lst (stas (trc g g.first xs) ++ [S'.d]))) a (.lst (xs ++ [x]))) p g (xs ++ [x]) [p, a, b] := ⟨o, ⟨dx, a, b, rfl, k1, mup_same, by rw [mup_ne (Ne.symm h4), mup_same, trc_push, h5]; unfold stas; rw [List.map_append]; rfl, h4⟩, by rw [h5, List.length_append]; rfl⟩
  refine drQ (q S' hs _ _ B' ⟨fun c hc o' ho => ?_, fun c hc => .inl hc⟩) ?_
  · simp only [List.mem_cons, List.not_mem_nil, or_false, not_or] at hc
    rw [mup_ne hc.2.1, mup_ne hc.2.2]; exact ho
  · rw [List.length_append]; rfl⟩

def sp_back (K : PySem.W.Frag) : DSp := fun ds M Q E => ∃ (p : Addr) (g : Game) (xs : List D) (L : List Addr), ds = [.ref p] ∧ Bk K M p g xs L ∧ xs.length ≤ 900 ∧
  (∀ x, xs[xs.length - 1]? = some x → ∀ M' L', Bk K M' p g xs.dropLast L' → Fr L M M' L' → Q x M') ∧ (xs = [] → E ⟨He.ga K "NoDeed", none⟩ M)
theorem ok_Book_back (T : Tx K mg)  : OkM P w K mg base .cold (1) (He.ga K "Book") "back" ["self"] (sp_back K) :=
  okM_cold T.m_Book_back T.c_Book T.h_back sc_Book_back (fun _ _ _ _ _ _ us hl => match us, hl with | [_], _ => rfl) (fun ds M Q E h => by first | (obtain ⟨_, rfl, _⟩ := h; rfl) | (obtain ⟨_, _, rfl, _⟩ := h; rfl) | (obtain ⟨_, _, _, rfl, _⟩ := h; rfl) | (obtain ⟨_, _, _, _, rfl, _⟩ := h; rfl) | (obtain ⟨_, _, _, _, _, rfl, _⟩ := h; rfl) | (obtain ⟨_, _, _, _, _, _, rfl, _⟩ := h; rfl) | (obtain ⟨_, _, _, _, _, _, _, rfl, _⟩ := h; rfl) | (obtain ⟨_, _, _, _, _, _, _, _, rfl, _⟩ := h; rfl) | (obtain ⟨_, _, _, _, _, _, _, _, _, rfl, _⟩ := h; rfl) | (obtain ⟨_, _, _, _, _, _, _, _, _, _, rfl, _⟩ := h; rfl) | (obtain ⟨_, _, _, _, _, _, _, _, _, _, _, rfl, _⟩ := h; rfl)) fun f cdv A outer s H E hr => ⟨_, w_Book_back T (hu_of hr) , fun ds M Q E h => by
  obtain ⟨p, g, xs, L, rfl, B, hl, q, e⟩ := h
  rw [show startD N_Book_back [.ref p] = [some (.ref p)] from rfl]
  obtain ⟨o, ⟨dx, a, b, rfl, h1, h2, h3, h4⟩, fl⟩ := B
  have pa : p ≠ a := fun z => by rw [z, h2] at h1; cases h1
  have pb : p ≠ b := fun z => by rw [z, h3] at h1; cases h1
  refine ⟨p, _, _, _, _, rfl, h1, T.c_Book, T.n_kept_deeds, rfl, ?_⟩
  refine ⟨_, h2, ⟨br_p (fun hz => ?_) fun hz => ?_⟩⟩
  · exact ⟨.inr ⟨rfl, rfl⟩, M, .refl M, e (List.length_eq_zero_iff.mp (by have : (xs.length : Int) = 0 := hz; omega))⟩
  · have hne : xs ≠ [] := fun z => hz (by rw [z]; rfl)
    have h0 : 0 < xs.length := List.length_pos_iff.mpr hne
    refine ⟨p, _, _, _, _, rfl, h1, T.c_Book, T.n_kept_stands, rfl, ?_⟩
    refine ⟨rcv_lst h3, ?_⟩
    refine ⟨b, _, _, rfl, rfl, h3, last_at, ?_⟩
    have g1 : mup M b (.lst (stas (trc g g.first xs)).dropLast) p = some (.ins (He.ga K "Book") dx (bkF g a b)) := by rw [mup_ne pb]; exact h1
    have g2 : mup M b (.lst (stas (trc g g.first xs)).dropLast) a = some (.lst xs) := by rw [mup_ne h4]; exact h2
    refine ⟨p, _, _, _, _, rfl, g1, T.c_Book, T.n_kept_deeds, rfl, ?_⟩
    obtain ⟨x, hx⟩ : ∃ x, xs[xs.length - 1]? = some x := ⟨_, List.getElem?_eq_getElem (by omega)⟩
    refine ⟨rcv_lst g2, a, xs, x, rfl, rfl, g2, hx, ?_⟩
    have k1 : mup (mup M b (.lst (stas (trc g g.first xs)).dropLast)) a (.lst xs.dropLast) p = some (.ins (He.ga K "Book") dx (bkF g a b)) := by rw [mup_ne pa]; exact g1
    have hf : (rd g g.first xs.dropLast).1 = xs.dropLast.length := by
      rw [List.dropLast_eq_take, rd_take xs _ _ (by omega), List.length_take]; omega
    refine drQ (q x hx _ [p, a, b] ⟨o, ⟨dx, a, b, rfl, k1, mup_same, ?_, h4⟩, hf⟩ ⟨fun c hc o' ho => ?_, fun c hc => .inl hc⟩) rfl
    · rw [mup_ne (Ne.symm h4), mup_same]
      unfold stas
      rw [← trc_pop hne, List.map_dropLast]
    · simp only [List.mem_cons, List.not_mem_nil, or_false, not_or] at hc
      rw [mup_ne hc.2.1, mup_ne hc.2.2]; exact ho⟩
def sp_hold_number (K : PySem.W.Frag) : DSp := fun ds M Q E => ∃ (d : D) (n m : Int), ds = [d, .int n, .int m] ∧ ((1 ≤ n ∧ n ≤ m) → Q .non M) ∧ (¬ (1 ≤ n ∧ n ≤ m) → E ⟨He.ga K "NoDeed", none⟩ M)
theorem ok_Book_hold_number (T : Tx K mg)  : OkM P w K mg base .cold (1) (He.ga K "Book") "hold_number" ["self", "number", "most"] (sp_hold_number K) :=
  okM_cold T.m_Book_hold_number T.c_Book T.h_hold_number sc_Book_hold_number (fun _ _ _ _ _ _ us hl => match us, hl with | [_, _, _], _ => rfl) (fun ds M Q E h => by first | (obtain ⟨_, rfl, _⟩ := h; rfl) | (obtain ⟨_, _, rfl, _⟩ := h; rfl) | (obtain ⟨_, _, _, rfl, _⟩ := h; rfl) | (obtain ⟨_, _, _, _, rfl, _⟩ := h; rfl) | (obtain ⟨_, _, _, _, _, rfl, _⟩ := h; rfl) | (obtain ⟨_, _, _, _, _, _, rfl, _⟩ := h; rfl) | (obtain ⟨_, _, _, _, _, _, _, rfl, _⟩ := h; rfl) | (obtain ⟨_, _, _, _, _, _, _, _, rfl, _⟩ := h; rfl) | (obtain ⟨_, _, _, _, _, _, _, _, _, rfl, _⟩ := h; rfl) | (obtain ⟨_, _, _, _, _, _, _, _, _, _, rfl, _⟩ := h; rfl) | (obtain ⟨_, _, _, _, _, _, _, _, _, _, _, rfl, _⟩ := h; rfl)) fun f cdv A outer s H E hr => ⟨_, w_Book_hold_number T (hu_of hr) , fun ds M Q E h => by
  obtain ⟨d, n, m, rfl, q, e⟩ := h
  rw [show startD N_Book_hold_number [d, .int n, .int m] = [some (d), some (.int n), some (.int m)] from rfl]
  refine br_p (fun h1 => ⟨.inr ⟨rfl, rfl⟩, M, .refl M, e fun z => ?_⟩) fun h1 => br_p (fun h2 => ⟨.inr ⟨rfl, rfl⟩, M, .refl M, e fun z => ?_⟩) fun h2 => dr (q ?_)
  · have : n < 1 := h1; omega
  · have : m < n := h2; omega
  · have h1 : ¬ n < 1 := h1
    have h2 : ¬ m < n := h2
    omega⟩
def sp_written_anew (K : PySem.W.Frag) : DSp := fun ds M Q E => ∃ (p r : Addr) (g : Game) (xs ys : List D) (L : List Addr), ds = [.ref p, .ref r] ∧ Bk K M p g xs L ∧ r ∉ L ∧ M r = some (.lst ys) ∧ (∀ x ∈ ys, Deed M x) ∧ ys.length ≤ 900 ∧
  ((rd g g.first ys).1 = ys.length → ∀ M' q, Bk K M' p g ys [p, r, q] → M q = none → (∀ c, c ∉ L → ∀ o, M c = some o → M' c = some o) → Q .non M') ∧ ((rd g g.first ys).1 < ys.length → E ⟨He.ga K "Falls", some ((rd g g.first ys).1 + 1)⟩ M)
theorem ok_Book_written_anew (T : Tx K mg)  : OkM P w K mg base .any (13) (He.ga K "Book") "written_anew" ["self", "row"] (sp_written_anew K) :=
  okM_any T.m_Book_written_anew T.c_Book T.h_written_anew sc_Book_written_anew (fun _ _ _ _ _ _ us hl => match us, hl with | [_, _], _ => rfl) (fun ds M Q E h => by first | (obtain ⟨_, rfl, _⟩ := h; rfl) | (obtain ⟨_, _, rfl, _⟩ := h; rfl) | (obtain ⟨_, _, _, rfl, _⟩ := h; rfl) | (obtain ⟨_, _, _, _, rfl, _⟩ := h; rfl) | (obtain ⟨_, _, _, _, _, rfl, _⟩ := h; rfl) | (obtain ⟨_, _, _, _, _, _, rfl, _⟩ := h; rfl) | (obtain ⟨_, _, _, _, _, _, _, rfl, _⟩ := h; rfl) | (obtain ⟨_, _, _, _, _, _, _, _, rfl, _⟩ := h; rfl) | (obtain ⟨_, _, _, _, _, _, _, _, _, rfl, _⟩ := h; rfl) | (obtain ⟨_, _, _, _, _, _, _, _, _, _, rfl, _⟩ := h; rfl) | (obtain ⟨_, _, _, _, _, _, _, _, _, _, _, rfl, _⟩ := h; rfl)) fun f cdv A outer s H E hr => ⟨_, w_Book_written_anew T (hu_of hr) (ok_stands_of T) (hr.mono (by first | decide | omega)), fun ds M Q E h => by
  obtain ⟨p, r, g, xs, ys, L, rfl, B, hr1, h5, hd, hl, q, e⟩ := h
  rw [show startD N_Book_written_anew [.ref p, .ref r] = [some (.ref p), some (.ref r)] from rfl]
  obtain ⟨o, ⟨dx, a, b, rfl, h1, h2, h3, h4⟩, fl⟩ := B
  simp only [List.mem_cons, List.not_mem_nil, or_false, not_or] at hr1
  refine ⟨p, _, _, _, _, rfl, h1, T.c_Book, T.n_kept_game, rfl, ?_⟩
  refine ⟨g, r, ys, rfl, o, h5, hd, by omega, fun hf v nv => ?_, fun hf => ⟨.inl rfl, M, .refl M, e hf⟩⟩
  have g1 : mup M v (.lst (stas (trc g g.first ys))) p = some (.ins (He.ga K "Book") dx (bkF g a b)) := mup_new h1 nv
  have pv : p ≠ v := fun z => by rw [z, nv] at h1; cases h1
  have rv : r ≠ v := fun z => by rw [z, nv] at h5; cases h5
  refine ⟨p, _, _, _, rfl, g1, T.c_Book, T.n_kept_stands, by show 3 < 100; decide, ?_⟩
  refine ⟨p, _, _, _, rfl, mup_same, T.c_Book, T.n_kept_deeds, by show 3 < 100; decide, ?_⟩
  rw [mup_mup]
  refine drQ (q hf _ v ⟨o, ⟨dx, r, v, rfl, mup_same, ?_, ?_, rv⟩, hf⟩ nv fun c hc o' ho => ?_) rfl
  · rw [mup_ne hr1.1]; exact mup_new h5 nv
  · rw [mup_ne (Ne.symm pv), mup_same]
  · simp only [List.mem_cons, List.not_mem_nil, or_false, not_or] at hc
    rw [mup_ne hc.1]; exact mup_new ho nv⟩
end
end Tal
set_option maxHeartbeats 4000000
namespace Tal
open PySem PySem.Spec PyProof.Rows L2
section
variable {P : Program} {w : World} {K : PySem.W.Frag} {mg : Str → Option Value} {base : Heap}
theorem Bk.nin {M : Mp} {p : Addr} {g : Game} {xs : List D} {L : List Addr} (B : Bk K M p g xs L) {c : Addr} (h : M c = none) : c ∉ L := by
  obtain ⟨dx, a, b, rfl, h1, h2, h3, _⟩ := B.ex
  simp only [List.mem_cons, List.not_mem_nil, or_false, not_or]
  exact ⟨(fun z => by rw [z, h1] at h; cases h), (fun z => by rw [z, h2] at h; cases h), (fun z => by rw [z, h3] at h; cases h)⟩
theorem Le.none {M M' : Mp} (l : Le M M') {c : Addr} (h : M' c = none) : M c = none := by
  cases q : M c with
  | none => rfl
  | some o => rw [l c o q] at h; cases h
theorem nin3 {g : Game} {a b : Addr} {x : Str} (h : x ∉ (["kept_game", "kept_deeds", "kept_stands"] : List Str)) : x ∉ (bkF g a b).map (·.1) := h
theorem Bk.flat {M : Mp} {p : Addr} {g : Game} {xs : List D} {L : List Addr} (B : Bk K M p g xs L) : ∀ x ∈ xs, Flat x := full_flat B.ok xs _ B.full
/-- a row is written anew, or falls -/
def newRow (K : PySem.W.Frag) (M : Mp) (p : Addr) (g : Game) (L : List Addr) (ys : List D) (Q : DQ) (E : Exn → Mp → Prop) : Prop :=
  ((rd g g.first ys).1 = ys.length → ∀ M' L', Bk K M' p g ys L' → Fr L M M' L' → Q .non M') ∧ ((rd g g.first ys).1 < ys.length → E ⟨He.ga K "Falls", some ((rd g g.first ys).1 + 1)⟩ M)
theorem newRow_to {M M2 : Mp} {p r : Addr} {g : Game} {xs ys : List D} {L : List Addr} {Q : DQ} {E : Exn → Mp → Prop} {E2 : Exn → Mp → Prop} (h : newRow K M p g L ys Q E) (B : Bk K M p g xs L) (le : Le M M2) (nr : M r = none) (hr : M2 r = some (.lst ys)) (hd : ∀ x ∈ ys, Deed M2 x) (hl : ys.length ≤ 900)
    (he : ∀ x, E x M → E2 x M2) : sp_written_anew K [.ref p, .ref r] M2 (fun _ M1 => Dr Q .non M1) E2 := by
  refine ⟨p, r, g, xs, ys, L, rfl, B.le le, B.nin nr, hr, hd, hl, fun hf M' v B' nv k => dr (h.1 hf M' _ B' ⟨fun c hc o ho => k c hc o (le c o ho), fun c hc => ?_⟩), fun hf => he _ (h.2 hf)⟩
  rcases List.mem_cons.mp hc with z | hc
  · obtain ⟨dx, a, b, e, _⟩ := B.ex
    rw [z, e]; exact .inl List.mem_cons_self
  · rcases List.mem_cons.mp hc with z | hc
    · rw [z]; exact .inr nr
    · rcases List.mem_cons.mp hc with z | hc
      · rw [z]
        cases q : M v with
        | none => exact .inr rfl
        | some o => rw [le v o q] at nv; cases nv
      · cases hc
def sp_put_right (K : PySem.W.Frag) : DSp := fun ds M Q E => ∃ (p : Addr) (n : Int) (x : D) (g : Game) (xs : List D) (L : List Addr), ds = [.ref p, .int n, x] ∧ Bk K M p g xs L ∧ Deed M x ∧ xs.length ≤ 800 ∧
  (¬ (1 ≤ n ∧ n ≤ xs.length) → E ⟨He.ga K "NoDeed", none⟩ M) ∧ (1 ≤ n ∧ n ≤ xs.length → newRow K M p g L (xs.take (n.toNat - 1) ++ [x] ++ xs.drop n.toNat) Q E)
theorem ok_Book_put_right (T : Tx K mg)  : OkM P w K mg base .any (14) (He.ga K "Book") "put_right" ["self", "number", "deed"] (sp_put_right K) :=
  okM_any T.m_Book_put_right T.c_Book T.h_put_right sc_Book_put_right (fun _ _ _ _ _ _ us hl => match us, hl with | [_, _, _], _ => rfl) (fun ds M Q E h => by first | (obtain ⟨_, rfl, _⟩ := h; rfl) | (obtain ⟨_, _, rfl, _⟩ := h; rfl) | (obtain ⟨_, _, _, rfl, _⟩ := h; rfl) | (obtain ⟨_, _, _, _, rfl, _⟩ := h; rfl) | (obtain ⟨_, _, _, _, _, rfl, _⟩ := h; rfl) | (obtain ⟨_, _, _, _, _, _, rfl, _⟩ := h; rfl) | (obtain ⟨_, _, _, _, _, _, _, rfl, _⟩ := h; rfl) | (obtain ⟨_, _, _, _, _, _, _, _, rfl, _⟩ := h; rfl) | (obtain ⟨_, _, _, _, _, _, _, _, _, rfl, _⟩ := h; rfl) | (obtain ⟨_, _, _, _, _, _, _, _, _, _, rfl, _⟩ := h; rfl) | (obtain ⟨_, _, _, _, _, _, _, _, _, _, _, rfl, _⟩ := h; rfl)) fun f cdv A outer s H E hr => ⟨_, w_Book_put_right T (hu_of hr) (ok_Book_hold_number T) (hr.mono (by first | decide | omega)) (ok_Book_written_anew T) (hr.mono (by first | decide | omega)), fun ds M Q E h => by
  obtain ⟨p, n, x, g, xs, L, rfl, B, hx, hl, e, q⟩ := h
  rw [show startD N_Book_put_right [.ref p, .int n, x] = [some (.ref p), some (.int n), some (x)] from rfl]
  obtain ⟨dx, a, b, hL, h1, h2, h3, h4⟩ := B.ex
  refine ⟨p, _, _, rfl, h1, nin3 (by decide), p, _, _, _, _, rfl, h1, T.c_Book, T.n_kept_deeds, rfl, _, h2, _, _, _, rfl, fun hn => ?_, fun hn => ⟨.inl rfl, M, .refl M, e hn⟩⟩
  obtain ⟨k, rfl⟩ : ∃ k : Nat, n = (k : Int) + 1 := ⟨n.toNat - 1, by omega⟩
  have hk : k < xs.length := by omega
  have q := q hn
  rw [show ((k : Int) + 1).toNat = k + 1 by omega, Nat.add_sub_cancel] at q
  have c1 : cutD xs none (some ((k : Int) + 1 - 1)) = xs.take k := by rw [show (k : Int) + 1 - 1 = (k : Int) by omega]; exact cut_lo (by omega)
  have c2 : cutD xs (some ((k : Int) + 1)) none = xs.drop (k + 1) := cut_hi (k := k + 1) (by omega)
  refine ⟨p, _, _, rfl, h1, nin3 (by decide), p, _, _, _, _, rfl, h1, T.c_Book, T.n_kept_deeds, rfl, _, h2, fun p1 n1 p2 n2 => ⟨_, _, mup_new mup_same n2, mup_same, sz (by rw [c1]; simp; omega), fun p3 n3 => ?_⟩⟩
  have l2 := Le.trans (Le.new (o := .lst (cutD xs none (some ((k : Int) + 1 - 1)))) n1) (Le.new (o := .lst [x]) n2)
  refine ⟨p, _, _, _, _, rfl, mup_new (l2 _ _ h1) n3, T.c_Book, T.n_kept_deeds, rfl, _, mup_new (l2 _ _ h2) n3, fun p4 n4 => ⟨_, _, mup_new mup_same n4, mup_same, sz (by rw [c1, c2]; simp; omega), fun p5 n5 => ?_⟩⟩
  have l4 := Le.trans (Le.new (o := .lst (cutD xs none (some ((k : Int) + 1 - 1)) ++ [x])) n3) (Le.new (o := .lst (cutD xs (some ((k : Int) + 1)) none)) n4)
  have l5 := Le.trans (Le.trans l2 l4) (Le.new (o := .lst (cutD xs none (some ((k : Int) + 1 - 1)) ++ [x] ++ cutD xs (some ((k : Int) + 1)) none)) n5)
  refine newRow_to q B l5 ((Le.trans l2 l4).none n5) (by rw [mup_same, c1, c2]) (fun y hy => ?_) (by simp; omega) fun x hx => ⟨.inl rfl, M, l5, hx⟩
  rcases List.mem_append.mp hy with hy | hy
  · rcases List.mem_append.mp hy with hy | hy
    · exact (B.flat y (List.mem_of_mem_take hy)).deed
    · rw [List.mem_singleton.mp hy]; exact hx.le l5
  · exact (B.flat y (List.mem_of_mem_drop hy)).deed⟩
def sp_put_in (K : PySem.W.Frag) : DSp := fun ds M Q E => ∃ (p : Addr) (n : Int) (x : D) (g : Game) (xs : List D) (L : List Addr), ds = [.ref p, .int n, x] ∧ Bk K M p g xs L ∧ Deed M x ∧ xs.length ≤ 800 ∧
  (¬ (1 ≤ n ∧ n ≤ xs.length + 1) → E ⟨He.ga K "NoDeed", none⟩ M) ∧ (1 ≤ n ∧ n ≤ xs.length + 1 → newRow K M p g L (xs.take (n.toNat - 1) ++ [x] ++ xs.drop (n.toNat - 1)) Q E)
theorem ok_Book_put_in (T : Tx K mg)  : OkM P w K mg base .any (14) (He.ga K "Book") "put_in" ["self", "number", "deed"] (sp_put_in K) :=
  okM_any T.m_Book_put_in T.c_Book T.h_put_in sc_Book_put_in (fun _ _ _ _ _ _ us hl => match us, hl with | [_, _, _], _ => rfl) (fun ds M Q E h => by first | (obtain ⟨_, rfl, _⟩ := h; rfl) | (obtain ⟨_, _, rfl, _⟩ := h; rfl) | (obtain ⟨_, _, _, rfl, _⟩ := h; rfl) | (obtain ⟨_, _, _, _, rfl, _⟩ := h; rfl) | (obtain ⟨_, _, _, _, _, rfl, _⟩ := h; rfl) | (obtain ⟨_, _, _, _, _, _, rfl, _⟩ := h; rfl) | (obtain ⟨_, _, _, _, _, _, _, rfl, _⟩ := h; rfl) | (obtain ⟨_, _, _, _, _, _, _, _, rfl, _⟩ := h; rfl) | (obtain ⟨_, _, _, _, _, _, _, _, _, rfl, _⟩ := h; rfl) | (obtain ⟨_, _, _, _, _, _, _, _, _, _, rfl, _⟩ := h; rfl) | (obtain ⟨_, _, _, _, _, _, _, _, _, _, _, rfl, _⟩ := h; rfl)) fun f cdv A outer s H E hr => ⟨_, w_Book_put_in T (hu_of hr) (ok_Book_hold_number T) (hr.mono (by first | decide | omega)) (ok_Book_written_anew T) (hr.mono (by first | decide | omega)), fun ds M Q E h => by
  obtain ⟨p, n, x, g, xs, L, rfl, B, hx, hl, e, q⟩ := h
  rw [show startD N_Book_put_in [.ref p, .int n, x] = [some (.ref p), some (.int n), some (x)] from rfl]
  obtain ⟨dx, a, b, hL, h1, h2, h3, h4⟩ := B.ex
  refine ⟨p, _, _, rfl, h1, nin3 (by decide), p, _, _, _, _, rfl, h1, T.c_Book, T.n_kept_deeds, rfl, _, h2, _, _, _, rfl, fun hn => ?_, fun hn => ⟨.inl rfl, M, .refl M, e hn⟩⟩
  obtain ⟨k, rfl⟩ : ∃ k : Nat, n = (k : Int) + 1 := ⟨n.toNat - 1, by omega⟩
  have hk : k ≤ xs.length := by omega
  have q := q hn
  rw [show ((k : Int) + 1).toNat = k + 1 by omega, Nat.add_sub_cancel] at q
  have c1 : cutD xs none (some ((k : Int) + 1 - 1)) = xs.take k := by rw [show (k : Int) + 1 - 1 = (k : Int) by omega]; exact cut_lo (by omega)
  have c2 : cutD xs (some ((k : Int) + 1 - 1)) none = xs.drop k := by rw [show (k : Int) + 1 - 1 = (k : Int) by omega]; exact cut_hi (by omega)
  refine ⟨p, _, _, rfl, h1, nin3 (by decide), p, _, _, _, _, rfl, h1, T.c_Book, T.n_kept_deeds, rfl, _, h2, fun p1 n1 p2 n2 => ⟨_, _, mup_new mup_same n2, mup_same, sz (by rw [c1]; simp; omega), fun p3 n3 => ?_⟩⟩
  have l2 := Le.trans (Le.new (o := .lst (cutD xs none (some ((k : Int) + 1 - 1)))) n1) (Le.new (o := .lst [x]) n2)
  refine ⟨p, _, _, _, _, rfl, mup_new (l2 _ _ h1) n3, T.c_Book, T.n_kept_deeds, rfl, _, mup_new (l2 _ _ h2) n3, fun p4 n4 => ⟨_, _, mup_new mup_same n4, mup_same, sz (by rw [c1, c2]; simp; omega), fun p5 n5 => ?_⟩⟩
  have l4 := Le.trans (Le.new (o := .lst (cutD xs none (some ((k : Int) + 1 - 1)) ++ [x])) n3) (Le.new (o := .lst (cutD xs (some ((k : Int) + 1 - 1)) none)) n4)
  have l5 := Le.trans (Le.trans l2 l4) (Le.new (o := .lst (cutD xs none (some ((k : Int) + 1 - 1)) ++ [x] ++ cutD xs (some ((k : Int) + 1 - 1)) none)) n5)
  refine newRow_to q B l5 ((Le.trans l2 l4).none n5) (by rw [mup_same, c1, c2]) (fun y hy => ?_) (by simp; omega) fun x hx => ⟨.inl rfl, M, l5, hx⟩
  rcases List.mem_append.mp hy with hy | hy
  · rcases List.mem_append.mp hy with hy | hy
    · exact (B.flat y (List.mem_of_mem_take hy)).deed
    · rw [List.mem_singleton.mp hy]; exact hx.le l5
  · exact (B.flat y (List.mem_of_mem_drop hy)).deed⟩
def sp_leave_out (K : PySem.W.Frag) : DSp := fun ds M Q E => ∃ (p : Addr) (n : Int) (g : Game) (xs : List D) (L : List Addr), ds = [.ref p, .int n] ∧ Bk K M p g xs L ∧ xs.length ≤ 800 ∧
  (¬ (1 ≤ n ∧ n ≤ xs.length) → E ⟨He.ga K "NoDeed", none⟩ M) ∧ (1 ≤ n ∧ n ≤ xs.length → newRow K M p g L (xs.take (n.toNat - 1) ++ xs.drop n.toNat) Q E)
theorem ok_Book_leave_out (T : Tx K mg)  : OkM P w K mg base .any (14) (He.ga K "Book") "leave_out" ["self", "number"] (sp_leave_out K) :=
  okM_any T.m_Book_leave_out T.c_Book T.h_leave_out sc_Book_leave_out (fun _ _ _ _ _ _ us hl => match us, hl with | [_, _], _ => rfl) (fun ds M Q E h => by first | (obtain ⟨_, rfl, _⟩ := h; rfl) | (obtain ⟨_, _, rfl, _⟩ := h; rfl) | (obtain ⟨_, _, _, rfl, _⟩ := h; rfl) | (obtain ⟨_, _, _, _, rfl, _⟩ := h; rfl) | (obtain ⟨_, _, _, _, _, rfl, _⟩ := h; rfl) | (obtain ⟨_, _, _, _, _, _, rfl, _⟩ := h; rfl) | (obtain ⟨_, _, _, _, _, _, _, rfl, _⟩ := h; rfl) | (obtain ⟨_, _, _, _, _, _, _, _, rfl, _⟩ := h; rfl) | (obtain ⟨_, _, _, _, _, _, _, _, _, rfl, _⟩ := h; rfl) | (obtain ⟨_, _, _, _, _, _, _, _, _, _, rfl, _⟩ := h; rfl) | (obtain ⟨_, _, _, _, _, _, _, _, _, _, _, rfl, _⟩ := h; rfl)) fun f cdv A outer s H E hr => ⟨_, w_Book_leave_out T (hu_of hr) (ok_Book_hold_number T) (hr.mono (by first | decide | omega)) (ok_Book_written_anew T) (hr.mono (by first | decide | omega)), fun ds M Q E h => by
  obtain ⟨p, n, g, xs, L, rfl, B, hl, e, q⟩ := h
  rw [show startD N_Book_leave_out [.ref p, .int n] = [some (.ref p), some (.int n)] from rfl]
  obtain ⟨dx, a, b, hL, h1, h2, h3, h4⟩ := B.ex
  refine ⟨p, _, _, rfl, h1, nin3 (by decide), p, _, _, _, _, rfl, h1, T.c_Book, T.n_kept_deeds, rfl, _, h2, _, _, _, rfl, fun hn => ?_, fun hn => ⟨.inl rfl, M, .refl M, e hn⟩⟩
  obtain ⟨k, rfl⟩ : ∃ k : Nat, n = (k : Int) + 1 := ⟨n.toNat - 1, by omega⟩
  have hk : k < xs.length := by omega
  have q := q hn
  rw [show ((k : Int) + 1).toNat = k + 1 by omega, Nat.add_sub_cancel] at q
  have c1 : cutD xs none (some ((k : Int) + 1 - 1)) = xs.take k := by rw [show (k : Int) + 1 - 1 = (k : Int) by omega]; exact cut_lo (by omega)
  have c2 : cutD xs (some ((k : Int) + 1)) none = xs.drop (k + 1) := cut_hi (k := k + 1) (by omega)
  refine ⟨p, _, _, rfl, h1, nin3 (by decide), p, _, _, _, _, rfl, h1, T.c_Book, T.n_kept_deeds, rfl, _, h2, fun p1 n1 => ⟨p, _, _, _, _, rfl, mup_new h1 n1, T.c_Book, T.n_kept_deeds, rfl, _, mup_new h2 n1, fun p4 n4 => ⟨_, _, mup_new mup_same n4, mup_same, sz (by rw [c1, c2]; simp; omega), fun p5 n5 => ?_⟩⟩⟩
  have l2 := Le.trans (Le.new (o := .lst (cutD xs none (some ((k : Int) + 1 - 1)))) n1) (Le.new (o := .lst (cutD xs (some ((k : Int) + 1)) none)) n4)
  have l5 := Le.trans l2 (Le.new (o := .lst (cutD xs none (some ((k : Int) + 1 - 1)) ++ cutD xs (some ((k : Int) + 1)) none)) n5)
  refine newRow_to q B l5 (l2.none n5) (by rw [mup_same, c1, c2]) (fun y hy => ?_) (by simp; omega) fun x hx => ⟨.inl rfl, M, l5, hx⟩
  rcases List.mem_append.mp hy with hy | hy
  · exact (B.flat y (List.mem_of_mem_take hy)).deed
  · exact (B.flat y (List.mem_of_mem_drop hy)).deed⟩
end
end Tal
set_option maxHeartbeats 4000000
namespace Tal
open PySem PySem.Spec PyProof.Rows L2
section
variable {P : Program} {w : World} {K : PySem.W.Frag} {mg : Str → Option Value} {base : Heap}
def sp_deeds (K : PySem.W.Frag) : DSp := fun ds M Q E => ∃ (p : Addr) (g : Game) (xs : List D) (L : List Addr), ds = [.ref p] ∧ Bk K M p g xs L ∧ ∀ r, M r = none → Q (.ref r) (mup M r (.lst xs))
theorem ok_Book_deeds (T : Tx K mg)  : OkM P w K mg base .no (1) (He.ga K "Book") "deeds" ["self"] (sp_deeds K) :=
  okM_no T.m_Book_deeds T.c_Book T.h_deeds sc_Book_deeds (fun _ _ _ _ _ _ us hl => match us, hl with | [_], _ => rfl) (fun ds M Q E h => by first | (obtain ⟨_, rfl, _⟩ := h; rfl) | (obtain ⟨_, _, rfl, _⟩ := h; rfl) | (obtain ⟨_, _, _, rfl, _⟩ := h; rfl) | (obtain ⟨_, _, _, _, rfl, _⟩ := h; rfl) | (obtain ⟨_, _, _, _, _, rfl, _⟩ := h; rfl) | (obtain ⟨_, _, _, _, _, _, rfl, _⟩ := h; rfl) | (obtain ⟨_, _, _, _, _, _, _, rfl, _⟩ := h; rfl) | (obtain ⟨_, _, _, _, _, _, _, _, rfl, _⟩ := h; rfl) | (obtain ⟨_, _, _, _, _, _, _, _, _, rfl, _⟩ := h; rfl) | (obtain ⟨_, _, _, _, _, _, _, _, _, _, rfl, _⟩ := h; rfl) | (obtain ⟨_, _, _, _, _, _, _, _, _, _, _, rfl, _⟩ := h; rfl)) fun f cdv A outer s H E hr => ⟨_, w_Book_deeds T (hu_of hr) , fun ds M Q E h => by
  obtain ⟨p, g, xs, L, rfl, B, q⟩ := h
  rw [show startD N_Book_deeds [.ref p] = [some (.ref p)] from rfl]
  obtain ⟨dx, a, b, hL, h1, h2, h3, h4⟩ := B.ex
  exact ⟨p, _, _, _, _, rfl, h1, T.c_Book, T.n_kept_deeds, rfl, _, h2, fun r nr => dr (q r nr)⟩⟩
def sp_stand (K : PySem.W.Frag) : DSp := fun ds M Q E => ∃ (p : Addr) (k : Nat) (g : Game) (xs : List D) (L : List Addr), ds = [.ref p, .int k] ∧ Bk K M p g xs L ∧ k ≤ xs.length ∧ Q (rd g g.first (xs.take k)).2.d M
def sp_stand0 (K : PySem.W.Frag) : DSp := fun ds M Q E => ∃ (p : Addr) (g : Game) (xs : List D) (L : List Addr), ds = [.ref p, .non] ∧ Bk K M p g xs L ∧ Q (rd g g.first xs).2.d M
theorem fn_stand (T : Tx K mg) {fd : FuncData} (F : FunD K "stand" "Book.stand" (defArgs (mem 54 10)) (defBody (mem 54 10)) (defScope (mem 54 10)) [.non] [] (He.ma K (He.ga K "Book") "stand") fd) : FnOk P w K mg base (CXm .no P w) 1 (He.ma K (He.ga K "Book") "stand") fd ["self", "number"] (lift .no K (sp_stand K)) := by
  refine fn_no F sc_Book_stand (fun ds M Q E h => by obtain ⟨_, _, _, _, _, rfl, _⟩ := h; rfl) fun cdv A outer s H E hr => ⟨_, w_Book_stand T (hu_of hr), fun ds M Q E h => ?_⟩
  obtain ⟨p, k, g, xs, L, rfl, B, hk, q⟩ := h
  obtain ⟨dx, a, b, hL, h1, h2, h3, h4⟩ := B.ex
  conv => whnf
  refine ⟨p, _, _, _, _, rfl, h1, T.c_Book, T.n_kept_deeds, rfl, _, h2, ?_⟩
  refine br_n (p := (xs.length : Int) < (k : Int)) (by omega) ?_
  exact ⟨p, _, _, _, _, rfl, h1, T.c_Book, T.n_kept_stands, rfl, _, _, h3, atI_nat (k := k) (by unfold stas; rw [List.getElem?_map, trc_get hk]; rfl), dr q⟩
theorem fn_stand0 (T : Tx K mg) {fd : FuncData} (F : FunD K "stand" "Book.stand" (defArgs (mem 54 10)) (defBody (mem 54 10)) (defScope (mem 54 10)) [.non] [] (He.ma K (He.ga K "Book") "stand") fd) : FnOk P w K mg base (CXm .no P w) 1 (He.ma K (He.ga K "Book") "stand") fd ["self", "number"] (lift .no K (sp_stand0 K)) := by
  refine fn_no F sc_Book_stand (fun ds M Q E h => by obtain ⟨_, _, _, _, rfl, _⟩ := h; rfl) fun cdv A outer s H E hr => ⟨_, w_Book_stand T (hu_of hr), fun ds M Q E h => ?_⟩
  obtain ⟨p, g, xs, L, rfl, B, q⟩ := h
  obtain ⟨dx, a, b, hL, h1, h2, h3, h4⟩ := B.ex
  exact ⟨p, _, _, _, _, rfl, h1, T.c_Book, T.n_kept_stands, rfl, _, _, h3, atI_last last_at, dr q⟩
theorem ok_Book_stand (T : Tx K mg) : OkM P w K mg base .no 1 (He.ga K "Book") "stand" ["self", "number"] (sp_stand K) := by
  obtain ⟨fd, F⟩ := T.m_Book_stand
  obtain ⟨ds, hv, hb⟩ := F.binds1 (ps := ["self", "number"]) 2 1 (by simp) rfl fun T kV doc pm an cdv ct us its h1 h2 => match us, its, h1, h2 with | [_, _], [_], _, _ => ⟨_, rfl, rfl⟩
  cases hv
  exact ⟨⟨_, fd, fn_stand T F, hb, T.h_stand⟩, T.c_Book⟩
theorem ok_stand0 (T : Tx K mg) : OkM1 P w K mg base .no 1 (He.ga K "Book") "stand" ["self", "number"] (sp_stand0 K) .non := by
  obtain ⟨fd, F⟩ := T.m_Book_stand
  obtain ⟨ds, hv, hb⟩ := F.binds1 (ps := ["self", "number"]) 1 0 (by simp) rfl fun T kV doc pm an cdv ct us its h1 h2 => match us, its, h1, h2 with | [_], [_], _, _ => ⟨_, rfl, rfl⟩
  exact ⟨⟨_, fd, .non, ds, fn_stand0 T F, hv, hb, T.h_stand, fun H => .non⟩, T.c_Book⟩
/-! ### the units of a row -/
theorem full_step {g : Game} {xs : List D} (h : (rd g g.first xs).1 = xs.length) {k : Nat} {x : D} (hx : xs[k]? = some x) : ∃ S', step g (rd g g.first (xs.take k)).2 x = some S' := by
  have hk : k < xs.length := (List.getElem?_eq_some_iff.mp hx).1
  cases q : step g (rd g g.first (xs.take k)).2 x with
  | some S' => exact ⟨S', rfl⟩
  | none =>
    have := (rd_next (rd_take xs g.first k (by omega)) hx).2 q
    rw [this] at h
    have h : k = xs.length := h
    omega
def stkAt (g : Game) (xs : List D) (k : Nat) : Nat := match g, (rd g g.first (xs.take k)).2.st, (xs[k]?).bind sideOf with
  | .rally r, .rs s, some sd => stk r s sd
  | _, _, _ => 0
def unitAt (g : Game) (xs : List D) (k : Nat) : Option D := if 0 < stkAt g xs k then some (.tup [.int (k + 1 : Nat), xs.getD k .non, .int (stkAt g xs k : Nat)]) else none
def unitsOf (g : Game) (xs : List D) : List D := match g with
  | .rally _ => (List.range xs.length).filterMap (unitAt g xs)
  | _ => []
def sp_units (K : PySem.W.Frag) : DSp := fun ds M Q E => ∃ (p : Addr) (g : Game) (xs : List D) (L : List Addr), ds = [.ref p] ∧ Bk K M p g xs L ∧ xs.length ≤ 900 ∧ ∀ r, M r = none → Q (.ref r) (mup M r (.lst (unitsOf g xs)))
theorem ok_Book_units (T : Tx K mg)  : OkM P w K mg base .no (11) (He.ga K "Book") "units" ["self"] (sp_units K) :=
  okM_no T.m_Book_units T.c_Book T.h_units sc_Book_units (fun _ _ _ _ _ _ us hl => match us, hl with | [_], _ => rfl) (fun ds M Q E h => by first | (obtain ⟨_, rfl, _⟩ := h; rfl) | (obtain ⟨_, _, rfl, _⟩ := h; rfl) | (obtain ⟨_, _, _, rfl, _⟩ := h; rfl) | (obtain ⟨_, _, _, _, rfl, _⟩ := h; rfl) | (obtain ⟨_, _, _, _, _, rfl, _⟩ := h; rfl) | (obtain ⟨_, _, _, _, _, _, rfl, _⟩ := h; rfl) | (obtain ⟨_, _, _, _, _, _, _, rfl, _⟩ := h; rfl) | (obtain ⟨_, _, _, _, _, _, _, _, rfl, _⟩ := h; rfl) | (obtain ⟨_, _, _, _, _, _, _, _, _, rfl, _⟩ := h; rfl) | (obtain ⟨_, _, _, _, _, _, _, _, _, _, rfl, _⟩ := h; rfl) | (obtain ⟨_, _, _, _, _, _, _, _, _, _, _, rfl, _⟩ := h; rfl)) fun f cdv A outer s H E hr => ⟨_, w_Book_units T (hu_of hr) (ok_stakes T 4) (hr.mono (by first | decide | omega)), fun ds M Q E h => by
  obtain ⟨p, g, xs, L, rfl, B, hl, q⟩ := h
  rw [show startD N_Book_units [.ref p] = [some (.ref p), none, none, none, none] from rfl]
  obtain ⟨dx, a, b, hL, h1, h2, h3, h4⟩ := B.ex
  have o := B.ok
  intro r nr
  simp only [List.set_cons_zero, List.set_cons_succ]
  have g1 := mup_new (a := r) (o := .lst []) h1 nr
  have g2 := mup_new (a := r) (o := .lst []) h2 nr
  have g3 := mup_new (a := r) (o := .lst []) h3 nr
  refine ⟨p, _, _, _, _, rfl, g1, T.c_Book, T.n_kept_game, rfl, ?_⟩
  cases g with
  | down g => exact ⟨_, rfl, ⟨dr (q r nr)⟩⟩
  | lane g => exact ⟨_, rfl, ⟨dr (q r nr)⟩⟩
  | rally rr =>
    refine ⟨_, rfl, ⟨?_⟩⟩
    refine ⟨p, _, _, _, _, rfl, g1, T.c_Book, T.n_kept_deeds, rfl, a, xs, rfl, g2, fun i δ M' => (∃ o2 o3 o4, δ = [some (.ref p), some (.ref r), o2, o3, o4]) ∧ M' = mup M r (.lst ((List.range i).filterMap (unitAt (.rally rr) xs))), ⟨⟨_, _, _, rfl⟩, rfl⟩, ?_, ?_, ?_⟩
    · rintro i δ M' ⟨_, rfl⟩; exact mup_new h2 nr
    · rintro i x δ M' hx ⟨⟨o2, o3, o4, rfl⟩, rfl⟩
      obtain ⟨S', hs⟩ := full_step B.full hx
      have ft := rd_fit o (xs.take i) _ (first_fit o)
      have hk : i < xs.length := (List.getElem?_eq_some_iff.mp hx).1
      have hS : (stas (trc (.rally rr) (Game.rally rr).first xs))[i]? = some (rd (.rally rr) (Game.rally rr).first (xs.take i)).2.d := by
        unfold stas; rw [List.getElem?_map, trc_get (by omega)]; rfl
      have eA : ∀ s sd, (rd (.rally rr) (Game.rally rr).first (xs.take i)).2.st = .rs s → sideOf x = some sd → stkAt (.rally rr) xs i = stk rr s sd := fun s sd e1 e2 => by
        unfold stkAt
        rw [e1, hx, Option.bind_some, e2]
      generalize rd (.rally rr) (Game.rally rr).first (xs.take i) = X at hs ft hS eA
      obtain ⟨n0, st, wn⟩ := X
      cases wn with
      | some l => cases st <;> cases hs
      | none =>
        cases st with
        | dn s => cases hs
        | ln s => cases hs
        | rs s =>
          have hs : (sideOf x).map (fun sd => rallyTo (ral rr s sd) sd) = some S' := hs
          cases hsd : sideOf x with
          | none => rw [hsd] at hs; cases hs
          | some sd =>
            have eA2 := eA s sd rfl hsd
            obtain rfl := side_d hsd
            have k1 := mup_new (a := r) (o := .lst ((List.range i).filterMap (unitAt (.rally rr) xs))) h1 nr
            have k3 := mup_new (a := r) (o := .lst ((List.range i).filterMap (unitAt (.rally rr) xs))) h3 nr
            refine ⟨rfl, ?_⟩
            refine ⟨p, _, _, _, _, rfl, k1, T.c_Book, T.n_kept_game, rfl, _, rfl, p, _, _, _, _, rfl, k1, T.c_Book, T.n_kept_stands, rfl, _, _, k3, atI_nat hS, _, rfl, rr, s, sd, rfl, by omega, o.1, ft rfl, ?_⟩
            simp only [List.set_cons_zero, List.set_cons_succ]
            have nx : ∀ l, unitAt (.rally rr) xs i = l → (List.range (i + 1)).filterMap (unitAt (.rally rr) xs) = (List.range i).filterMap (unitAt (.rally rr) xs) ++ l.toList := fun l e => by
              rw [List.range_succ, List.filterMap_append, List.filterMap_cons, e]
              cases l <;> rfl
            refine br_p (fun hp => ?_) fun hp => ?_
            · have hp' : 0 < stk rr s sd := by have : (0 : Int) < (stk rr s sd : Nat) := hp; omega
              have lim : ((List.range i).filterMap (unitAt (.rally rr) xs)).length ≤ 900 := Nat.le_trans (List.length_filterMap_le _ _) (by rw [List.length_range]; omega)
              refine ⟨rcv_lst mup_same, r, _, _, rfl, rfl, mup_same, sz (by omega), ⟨_, _, _, rfl⟩, ?_⟩
              rw [mup_mup, nx (some (.tup [.int (i + 1 : Nat), .int (sdI sd), .int (stk rr s sd : Nat)])) (by
                unfold unitAt
                rw [eA2, if_pos hp', List.getD_eq_getElem?_getD, hx]; rfl)]
              rfl
            · have hp' : ¬ 0 < stk rr s sd := fun z => hp (by show (0 : Int) < (stk rr s sd : Nat); omega)
              refine ⟨⟨_, _, _, rfl⟩, ?_⟩
              rw [nx none (by unfold unitAt; rw [eA2, if_neg hp'])]
              simp
    · rintro δ M' ⟨⟨o2, o3, o4, rfl⟩, rfl⟩
      exact dr (q r nr)⟩

def sp_init (K : PySem.W.Frag) : DSp := fun ds M Q E => ∃ (p dx : Addr) (g : Game), ds = [.ref p, g.d] ∧ g.Ok ∧ M p = some (.ins (He.ga K "Book") dx []) ∧ ∀ M' L', Bk K M' p g [] L' → (∀ c, c ≠ p → ∀ o, M c = some o → M' c = some o) → (∀ c ∈ L', c = p ∨ M c = none) → Q .non M'
theorem ok_Book (T : Tx K mg) : OkC P w K mg base 10 "Book" ["self", "game"] (sp_init K) := by
  obtain ⟨fd, F⟩ := T.m_Book_init
  refine ⟨⟨_, fd, ?_, F.bindsN fun _ _ _ _ _ _ us hl => match us, hl with | [_, _], _ => rfl, T.k_Book⟩, T.g_Book⟩
  refine fn_no F sc_Book_init (fun ds M Q E h => by obtain ⟨_, _, _, rfl, _⟩ := h; rfl) fun cdv A outer s H E hr => ⟨_, w_Book_init T (hu_of hr) (ok_is_game T) (hr.mono (by decide)) (ok_first T) (hr.mono (by decide)), fun ds M Q E h => ?_⟩
  obtain ⟨p, dx, g, rfl, o, h0, q⟩ := h
  refine ⟨g, rfl, o, ?_⟩
  refine ⟨p, _, _, _, rfl, h0, T.c_Book, T.n_kept_game, by show 0 < 100; decide, ?_⟩
  refine fun a na => ⟨p, _, _, _, rfl, mup_new mup_same na, T.c_Book, T.n_kept_deeds, by show 1 < 100; decide, ?_⟩
  have ap : a ≠ p := fun z => by rw [z, mup_same] at na; cases na
  have na0 : M a = none := by rw [mup_ne ap] at na; exact na
  refine ⟨g, rfl, o, fun b nb => ⟨p, _, _, _, rfl, mup_new mup_same nb, T.c_Book, T.n_kept_stands, by show 2 < 100; decide, ?_⟩⟩
  have bp : b ≠ p := fun z => by rw [z, mup_same] at nb; cases nb
  rw [mup_ne bp] at nb
  have ba : b ≠ a := fun z => by rw [z, mup_same] at nb; cases nb
  rw [mup_ne ba, mup_ne bp] at nb
  refine dr (q _ [p, a, b] ⟨o, ⟨dx, a, b, rfl, mup_same, ?_, ?_, Ne.symm ba⟩, rfl⟩ (fun c hc o' ho => ?_) fun c hc => ?_)
  · rw [mup_ne ap, mup_ne (Ne.symm ba), mup_ne ap, mup_same]
  · rw [mup_ne bp, mup_same]; rfl
  · have ca : c ≠ a := fun z => by rw [z, na0] at ho; cases ho
    have cb : c ≠ b := fun z => by rw [z, nb] at ho; cases ho
    rw [mup_ne hc, mup_ne cb, mup_ne hc, mup_ne ca, mup_ne hc]; exact ho
  · rcases List.mem_cons.mp hc with z | hc
    · exact .inl z
    · rcases List.mem_cons.mp hc with z | hc
      · rw [z]; exact .inr na0
      · rw [List.mem_singleton.mp hc]; exact .inr nb
end
end Tal
set_option maxHeartbeats 4000000
/-! rallies read from a row, plainly -/
namespace Tal
open PySem PySem.Spec PyProof.Rows L2
structure Gone where
  side : Option Bool
  st : RSt
  rest : List Bool
def goR (r : Rule) : RSt → List Bool → Gone
  | s, [] => ⟨none, s, []⟩
  | s, x :: xs => if (ral r s x).2 = true then ⟨some x, (ral r s x).1, xs⟩ else goR r (ral r s x).1 xs
/-- where units are won, behind k deeds -/
def enR (r : Rule) : RSt → List Bool → Nat → List Int
  | _, [], _ => []
  | s, x :: xs, k => List.replicate (stk r s x) ((k + 1 : Nat) : Int) ++ (if (ral r s x).2 = true then [] else enR r (ral r s x).1 xs (k + 1))
theorem go_len (r : Rule) : ∀ (xs : List Bool) (s : RSt), (goR r s xs).rest.length ≤ xs.length
  | [], s => Nat.le_refl _
  | x :: xs, s => by
    unfold goR
    split
    · exact Nat.le_succ _
    · exact Nat.le_succ_of_le (go_len r xs _)
theorem go_some (r : Rule) : ∀ (xs : List Bool) (s : RSt) (x : Bool), (goR r s xs).side = some x → (goR r s xs).rest.length < xs.length
  | [], s, x, h => by cases h
  | y :: xs, s, x, h => by
    unfold goR at h ⊢
    split
    · exact Nat.lt_succ_self _
    · rename_i z
      rw [if_neg z] at h
      exact Nat.lt_succ_of_lt (go_some r xs _ x h)
theorem go_none (r : Rule) : ∀ (xs : List Bool) (s : RSt), (goR r s xs).side = none → (goR r s xs).rest = []
  | [], s, h => rfl
  | y :: xs, s, h => by
    unfold goR at h ⊢
    split
    · rename_i z; rw [if_pos z] at h; cases h
    · rename_i z; rw [if_neg z] at h; exact go_none r xs _ h
theorem go_drop (r : Rule) : ∀ (xs : List Bool) (s : RSt), (goR r s xs).rest = xs.drop (xs.length - (goR r s xs).rest.length)
  | [], s => rfl
  | x :: xs, s => by
    have h := go_len r xs (ral r s x).1
    have ih := go_drop r xs (ral r s x).1
    unfold goR
    split
    · simp
    · rw [List.length_cons, show xs.length + 1 - (goR r (ral r s x).1 xs).rest.length = (xs.length - (goR r (ral r s x).1 xs).rest.length) + 1 by omega, List.drop_succ_cons]
      exact ih
theorem ral_un {t l : Int} {c : Option Int} {i e : Rule} {a b : Int} {w : RSt} {sd : Bool} : ral (.un t l c i e) (.s a b w) sd = if (ral (inner c i e a b) w sd).2 = true then upR t l c i e a b sd else (.s a b (ral (inner c i e a b) w sd).1, false) := by rw [ral_inner]; rfl
theorem stk_un {t l : Int} {c : Option Int} {i e : Rule} {a b : Int} {w : RSt} {sd : Bool} : stk (.un t l c i e) (.s a b w) sd = stk (inner c i e a b) w sd + if (ral (.un t l c i e) (.s a b w) sd).2 = true then 1 else 0 := by rw [stk_inner]; rfl
/-- what a rule does with what its inner rule did -/
def goU (t l : Int) (c : Option Int) (i e : Rule) (a b : Int) (y : Gone) : Gone := match y.side with
  | none => ⟨none, .s a b y.st, y.rest⟩
  | some x => if (upR t l c i e a b x).2 = true then ⟨some x, (upR t l c i e a b x).1, y.rest⟩ else goR (.un t l c i e) (upR t l c i e a b x).1 y.rest
def enU (t l : Int) (c : Option Int) (i e : Rule) (a b : Int) (y : Gone) (pos : Nat) : List Int := match y.side with
  | none => []
  | some x => if (upR t l c i e a b x).2 = true then [(pos : Int)] else enR (.un t l c i e) (upR t l c i e a b x).1 y.rest pos
theorem go_un {t l : Int} {c : Option Int} {i e : Rule} {a b : Int} : ∀ (xs : List Bool) (w : RSt), goR (.un t l c i e) (.s a b w) xs = goU t l c i e a b (goR (inner c i e a b) w xs)
  | [], w => rfl
  | x :: xs, w => by
    rw [goR, goR, ral_un]
    by_cases q : (ral (inner c i e a b) w x).2 = true
    · rw [if_pos q, if_pos q]; rfl
    · rw [if_neg q, if_neg q, if_neg Bool.false_ne_true]
      exact go_un xs _
theorem en_un {t l : Int} {c : Option Int} {i e : Rule} {a b : Int} : ∀ (xs : List Bool) (w : RSt) (k : Nat), enR (.un t l c i e) (.s a b w) xs k = enR (inner c i e a b) w xs k ++ enU t l c i e a b (goR (inner c i e a b) w xs) (k + (xs.length - (goR (inner c i e a b) w xs).rest.length))
  | [], w, k => rfl
  | x :: xs, w, k => by
    have hl := go_len (inner c i e a b) xs (ral (inner c i e a b) w x).1
    rw [enR, enR, goR, stk_un, ral_un]
    by_cases q : (ral (inner c i e a b) w x).2 = true
    · rw [if_pos q, if_pos q, if_pos q, List.append_nil]
      show _ = _ ++ (if (upR t l c i e a b x).2 = true then [((k + ((x :: xs).length - xs.length) : Nat) : Int)] else enR (.un t l c i e) (upR t l c i e a b x).1 xs (k + ((x :: xs).length - xs.length)))
      rw [show k + ((x :: xs).length - xs.length) = k + 1 by simp]
      by_cases u : (upR t l c i e a b x).2 = true
      · rw [if_pos u, if_pos u, if_pos u, List.append_nil, List.replicate_succ']
      · rw [if_neg u, if_neg u, if_neg u, Nat.add_zero]
    · rw [if_neg q, if_neg q, if_neg q, if_neg Bool.false_ne_true, if_neg Bool.false_ne_true, Nat.add_zero, List.append_assoc]
      congr 1
      rw [en_un xs _ (k + 1)]
      congr 2
      rw [List.length_cons]; omega
/-! ### the game's reading is this one -/
def sidesOf : List D → List Bool
  | [] => []
  | x :: xs => match sideOf x with
    | none => []
    | some sd => sd :: sidesOf xs
theorem sidesOf_some {x : D} {xs : List D} {sd : Bool} (h : sideOf x = some sd) : sidesOf (x :: xs) = sd :: sidesOf xs := by rw [sidesOf, h]
theorem sidesOf_none {x : D} {xs : List D} (h : sideOf x = none) : sidesOf (x :: xs) = [] := by rw [sidesOf, h]
theorem rd_over {g : Game} {S : Sta} {l : List Int} (h : S.win = some l) : ∀ xs, rd g S xs = (0, S)
  | [] => rfl
  | x :: xs => rd_none (by obtain ⟨s, w⟩ := S; cases h; cases g <;> cases s <;> rfl)
theorem rd_rally (r : Rule) : ∀ (xs : List D) (s : RSt), rd (.rally r) ⟨.rs s, none⟩ xs = ((sidesOf xs).length - (goR r s (sidesOf xs)).rest.length, ⟨.rs (goR r s (sidesOf xs)).st, (goR r s (sidesOf xs)).side.map fun sd => [sdI sd]⟩)
  | [], s => rfl
  | x :: xs, s => by
    cases hs : sideOf x with
    | none => rw [sidesOf_none hs, rd_none (by rw [step_r, hs]; rfl)]; rfl
    | some sd =>
      rw [sidesOf_some hs, rd_some (S' := rallyTo (ral r s sd) sd) (by rw [step_r, hs]; rfl), goR]
      by_cases q : (ral r s sd).2 = true
      · rw [if_pos q]
        have e : rallyTo (ral r s sd) sd = ⟨.rs (ral r s sd).1, some [sdI sd]⟩ := by unfold rallyTo; rw [if_pos q]
        rw [e, rd_over rfl]
        simp
      · rw [if_neg q]
        have e : rallyTo (ral r s sd) sd = ⟨.rs (ral r s sd).1, none⟩ := by unfold rallyTo; rw [if_neg q]
        have hl := go_len r (sidesOf xs) (ral r s sd).1
        rw [e, rd_rally r xs _]
        simp only [List.length_cons]
        congr 1
        omega
theorem count_rep {n : Nat} {v : Int} : (List.replicate n v).count v = n := List.count_replicate_self
theorem en_above (r : Rule) : ∀ (xs : List Bool) (s : RSt) (k : Nat), ∀ y ∈ enR r s xs k, ((k + 1 : Nat) : Int) ≤ y
  | [], s, k, y, h => by cases h
  | x :: xs, s, k, y, h => by
    rw [enR] at h
    rcases List.mem_append.mp h with h | h
    · rw [List.eq_of_mem_replicate h]; exact Int.le_refl _
    · split at h
      · cases h
      · have := en_above r xs _ (k + 1) y h; omega
/-- how often a place stands among the ends -/
theorem count_en (r : Rule) : ∀ (xs : List D) (s : RSt) (k j : Nat), (rd (.rally r) ⟨.rs s, none⟩ xs).1 = xs.length → j < xs.length →
    (enR r s (sidesOf xs) k).count ((k + 1 + j : Nat) : Int) = (match (rd (.rally r) ⟨.rs s, none⟩ (xs.take j)).2.st, (xs[j]?).bind sideOf with
      | .rs s', some sd => stk r s' sd
      | _, _ => 0)
  | [], s, k, j, _, h => by cases h
  | x :: xs, s, k, j, hf, hj => by
    cases hs : sideOf x with
    | none => rw [rd_none (by rw [step_r, hs]; rfl)] at hf; cases hf
    | some sd =>
      have e1 : step (.rally r) ⟨.rs s, none⟩ x = some (rallyTo (ral r s sd) sd) := by rw [step_r, hs]; rfl
      rw [sidesOf_some hs, enR, List.count_append]
      cases j with
      | zero =>
        rw [Nat.add_zero, count_rep, List.take_zero]
        have z : List.count ((k + 1 : Nat) : Int) (if (ral r s sd).2 = true then [] else enR r (ral r s sd).1 (sidesOf xs) (k + 1)) = 0 := by
          split
          · rfl
          · refine List.count_eq_zero.mpr fun h => ?_
            have := en_above r _ _ (k + 1) _ h
            omega
        rw [z, Nat.add_zero]
        show _ = (match (St0.rs s), (some x).bind sideOf with
          | .rs s', some sd => stk r s' sd
          | _, _ => 0)
        rw [Option.bind_some, hs]
      | succ j =>
        rw [rd_some e1] at hf
        have z : List.count ((k + 1 + (j + 1) : Nat) : Int) (List.replicate (stk r s sd) ((k + 1 : Nat) : Int)) = 0 := by
          refine List.count_eq_zero.mpr fun h => ?_
          have := List.eq_of_mem_replicate h
          omega
        rw [z, Nat.zero_add, List.take_succ_cons, rd_some e1]
        have hj' : j < xs.length := by simpa using hj
        have hf' : (rd (.rally r) (rallyTo (ral r s sd) sd) xs).1 = xs.length := by simpa using hf
        by_cases q : (ral r s sd).2 = true
        · have e : rallyTo (ral r s sd) sd = ⟨.rs (ral r s sd).1, some [sdI sd]⟩ := by unfold rallyTo; rw [if_pos q]
          rw [e, rd_over rfl] at hf'
          have : 0 = xs.length := hf'
          omega
        · have e : rallyTo (ral r s sd) sd = ⟨.rs (ral r s sd).1, none⟩ := by unfold rallyTo; rw [if_neg q]
          rw [e] at hf'
          rw [if_neg q, e]
          have := count_en r xs (ral r s sd).1 (k + 1) j hf' hj'
          rw [show k + 1 + (j + 1) = k + 1 + 1 + j by omega]
          exact this
end Tal
set_option maxHeartbeats 4000000
/-! the law's draws -/
namespace Tal
open PySem PySem.Spec PyProof.Rows L2
section
variable {P : Program} {w : World} {K : PySem.W.Frag} {mg : Str → Option Value} {base : Heap}
def sp_drawP : DSp := fun ds M Q _ => ∃ (t s : Addr) (ns : List Int) (i j k m : Int), ds = [.ref t, .int m] ∧ M t = some (.tp s ns i j k) ∧ ns.length ≤ 63 ∧ 0 ≤ i ∧ (0 < m ∧ m < 1073741824) ∧ ∀ r i' j', 0 ≤ r → r < m → 0 ≤ i' → Q (.int r) (mup M t (.tp s ns i' j' k))
theorem mod_at {ns : List Int} {x : Int} (h : 0 < ns.length) : ∃ v, atI ns (x % (ns.length : Int)) = some v := by
  have h1 := Int.emod_nonneg x (by omega : (ns.length : Int) ≠ 0)
  have h2 := Int.emod_lt_of_pos x (by omega : 0 < (ns.length : Int))
  obtain ⟨j, hj⟩ : ∃ j : Nat, x % (ns.length : Int) = j := ⟨(x % (ns.length : Int)).toNat, by omega⟩
  rw [hj]
  exact ⟨ns[j], atI_nat (List.getElem?_eq_getElem (by omega))⟩
def restDraw : RS := rSeq
                            (rIfS (rB (rOp GEq (rOp gIxP (rVar 0) (rC (D.int 3))) (rC (D.int 1))))
                              (rSeq
                                (rIfS (rB (rOp GEq (rOp gMod (rVar 3) (rC (D.int 60))) (rC (D.int 0))))
                                  (rAsg (rOp gDiv (rVar 4) (rC (D.int 2))) (gbP (rVar 0) (rC (D.int 2)))) rNext)
                                (rSeq (rSet 5 (rOp gIxP (rVar 0) (rC (D.int 2))))
                                  (rSeq (rAsg (rOp gDiv (rVar 5) (rVar 1)) (gbP (rVar 0) (rC (D.int 2))))
                                    (rRet (rOp gMod (rVar 5) (rVar 1))))))
                              rNext)
                            (rSeq
                              (rSet 6
                                (rOp gMod
                                  (rOp gMul (rOp gAdd (rOp gMod (rVar 4) (rC (D.int 1000003))) (rC (D.int 1)))
                                    (rOp gAdd
                                      (rOp gAdd (rOp gMul (rOp gMod (rVar 3) (rC (D.int 997))) (rC (D.int 7919)))
                                        (rC (D.int 104729)))
                                      (rVar 3)))
                                  (rC (D.int 1000033))))
                              (rSeq
                                (rSet 6
                                  (rOp gMod
                                    (rOp gAdd (rOp gAdd (rOp gMul (rVar 6) (rVar 6)) (rOp gMul (rC (D.int 3)) (rVar 6)))
                                      (rVar 3))
                                    (rC (D.int 999983))))
                                (rRet
                                  (rOp gMod (rOp gMod (rOp gMul (rVar 6) (rC (D.int 48271))) (rC (D.int 65537)))
                                    (rVar 1)))))
theorem restDraw_ok {t s : Addr} {ns : List Int} {i i' j k m c : Int} {Q : DQ} {E : Exn → Mp → Prop} {M : Mp} (ht : M t = some (.tp s ns i' j k)) (hi : 0 ≤ i') (hm : 0 < m ∧ m < 1073741824)
    (q : ∀ r j', 0 ≤ r → r < m → Q (.int r) (mup M t (.tp s ns i' j' k))) : restDraw (endsD .no Q E) [some (.ref t), some (.int m), some (.ref s), some (.int i), some (.int c), none, none] M := by
  unfold restDraw
  refine .inl ⟨s, ns, i', j, k, _, ht, rfl, ⟨?_⟩⟩
  show br (decide (k = 1)) _ _
  refine br_p (fun h1 => ?_) (fun h1 => ?_)
  · have tail : ∀ j1, (rSeq (rSet 5 (rOp gIxP (rVar 0) (rC (D.int 2))))
                                  (rSeq (rAsg (rOp gDiv (rVar 5) (rVar 1)) (gbP (rVar 0) (rC (D.int 2))))
                                    (rRet (rOp gMod (rVar 5) (rVar 1))))) (endsD .no Q E) [some (.ref t), some (.int m), some (.ref s), some (.int i), some (.int c), none, none] (mup M t (.tp s ns i' j1 k)) := by
      intro j1
      refine .inl ⟨s, ns, i', j1, k, _, mup_same, rfl, ?_⟩
      simp only [List.set_cons_zero, List.set_cons_succ]
      refine ⟨hm, t, s, ns, i', j1, k, _, rfl, rfl, mup_same, .inr ⟨rfl, ?_⟩⟩
      simp only [List.set_cons_zero, List.set_cons_succ]
      rw [mup_mup]
      refine ⟨hm.1, dr ?_⟩
      exact q _ _ (Int.emod_nonneg _ (by omega)) (Int.emod_lt_of_pos _ hm.1)
    refine ⟨by decide, ⟨?_⟩⟩
    show br (decide (i % 60 = 0)) _ _
    refine br_p (fun h2 => ?_) (fun h2 => ?_)
    · refine ⟨by decide, t, s, ns, i', j, k, _, rfl, rfl, ht, .inr ⟨rfl, ?_⟩⟩
      exact tail _
    · have := tail j
      rw [mup_self ht] at this
      exact this
  · refine ⟨by decide, by decide, .inl ?_, .inl ?_, by decide, ?_⟩
    · constructor <;> omega
    · constructor <;> omega
    simp only [List.set_cons_zero, List.set_cons_succ]
    refine ⟨.inl ?_, .inl ?_, by decide, ?_⟩
    · constructor <;> omega
    · constructor <;> omega
    simp only [List.set_cons_zero, List.set_cons_succ]
    refine ⟨.inl ?_, by decide, hm.1, dr ?_⟩
    · constructor <;> omega
    have q' : ∀ r, 0 ≤ r → r < m → Q (.int r) M := fun r h1 h2 => by
      have := q r j h1 h2
      rw [mup_self ht] at this
      exact this
    exact q' _ (Int.emod_nonneg _ (by omega)) (Int.emod_lt_of_pos _ hm.1)
theorem ok_drawP (T : Tx K mg)  : Ok P w K mg base .no (1) "_law_draw" ["_law_tape_here", "_law_many"] (sp_drawP) :=
  ok_no T.d__law_draw T.g__law_draw sc__law_draw (fun _ _ _ _ _ _ us hl => match us, hl with | [_, _], _ => rfl) (fun ds M Q E h => by first | (obtain ⟨_, rfl, _⟩ := h; rfl) | (obtain ⟨_, _, rfl, _⟩ := h; rfl) | (obtain ⟨_, _, _, rfl, _⟩ := h; rfl) | (obtain ⟨_, _, _, _, rfl, _⟩ := h; rfl) | (obtain ⟨_, _, _, _, _, rfl, _⟩ := h; rfl) | (obtain ⟨_, _, _, _, _, _, rfl, _⟩ := h; rfl) | (obtain ⟨_, _, _, _, _, _, _, rfl, _⟩ := h; rfl) | (obtain ⟨_, _, _, _, _, _, _, _, rfl, _⟩ := h; rfl) | (obtain ⟨_, _, _, _, _, _, _, _, _, rfl, _⟩ := h; rfl) | (obtain ⟨_, _, _, _, _, _, _, _, _, _, rfl, _⟩ := h; rfl) | (obtain ⟨_, _, _, _, _, _, _, _, _, _, _, rfl, _⟩ := h; rfl)) fun f cdv A outer s H E hr => ⟨_, w__law_draw T (hu_of hr) , fun ds M Q E h => by
  obtain ⟨t, s, ns, i, j, k, m, rfl, ht, hl, hi, hm, q⟩ := h
  rw [show startD N__law_draw [.ref t, .int m] = [some (.ref t), some (.int m), none, none, none, none, none] from rfl]
  refine .inl ⟨s, ns, i, j, k, _, ht, rfl, .inl ⟨s, ns, i, j, k, _, ht, rfl, ?_⟩⟩
  simp only [List.set_cons_zero, List.set_cons_succ]
  refine ⟨t, s, ns, i, j, k, i + 1, rfl, rfl, ht, .inl ⟨rfl, by omega, ?_⟩⟩
  simp only [List.set_cons_zero, List.set_cons_succ]
  have key : ∀ c, restDraw (endsD .no Q E) [some (.ref t), some (.int m), some (.ref s), some (.int i), some (.int c), none, none] (mup M t (.tp s ns (i + 1) j k)) := fun c => restDraw_ok mup_same (by omega) hm fun r j' h1 h2 => by
    rw [mup_mup]; exact q r _ _ h1 h2 (by omega)
  refine ⟨t, ns, i + 1, j, k, mup_same, ?_⟩
  show br (decide ((0 : Int) < (ns.length : Int))) _ _
  refine br_p (fun hn => ?_) (fun hn => key 0)
  refine .inl ⟨s, ns, i + 1, j, k, _, mup_same, rfl, ⟨?_⟩⟩
  show br (decide (k = 1)) _ _
  refine br_p (fun h1 => ⟨by decide, t, ns, i + 1, j, k, mup_same, hn, ?_⟩) (fun h1 => ⟨t, ns, i + 1, j, k, mup_same, hn, ?_⟩)
  · obtain ⟨v, hv⟩ := mod_at (ns := ns) (x := i / 60) (by omega)
    exact .inr ⟨t, ns, i + 1, j, k, v, mup_same, hv, key v⟩
  · obtain ⟨v, hv⟩ := mod_at (ns := ns) (x := i) (by omega)
    exact .inr ⟨t, ns, i + 1, j, k, v, mup_same, hv, key v⟩⟩
end
end Tal
set_option maxHeartbeats 4000000
/-! the law's tape, its draws as any draws -/
namespace Tal
open PySem PySem.Spec PyProof.Rows L2
section
variable {P : Program} {w : World} {K : PySem.W.Frag} {mg : Str → Option Value} {base : Heap}
def sp_draw : DSp := fun ds M Q _ => ∃ (t : Addr) (m : Int), ds = [.ref t, .int m] ∧ M t = some .tape ∧ (0 < m ∧ m < 1073741824) ∧ ∀ r, 0 ≤ r → r < m → Q (.int r) M
theorem ok__law_draw (T : Tx K mg) : Ok P w K mg base .no 1 "_law_draw" ["_law_tape_here", "_law_many"] sp_draw := by
  obtain ⟨⟨fd, F, B⟩, g, kp⟩ := ok_drawP (P := P) (w := w) (base := base) T
  refine ⟨⟨fd, F.imp fun vs H Q E ⟨ds, M, Qd, Ed, r, rm, ⟨t, m, e, ht, hm, q⟩, c, cE⟩ => ?_, B⟩, g, kp⟩
  obtain ⟨s, ns, i, j, k, h1, h2, h3, h4⟩ := rm t _ ht
  have rm0 : RepM K H (mup M t (.tp s ns i j k)) := fun a o h => by
    by_cases ea : a = t
    · rw [ea, mup_same] at h; cases h; rw [ea]; exact ⟨h1, h2, h3, h4⟩
    · rw [mup_ne ea] at h; exact rm a o h
  refine ⟨ds, mup M t (.tp s ns i j k), fun d M' => ∃ r i' j', d = .int r ∧ 0 ≤ r ∧ r < m ∧ 0 ≤ i' ∧ M' = mup (mup M t (.tp s ns i j k)) t (.tp s ns i' j' k), Ed, r, rm0, ⟨t, s, ns, i, j, k, m, e, mup_same, h3, h4, hm, fun r i' j' a b c' => ⟨r, i', j', rfl, a, b, c', rfl⟩⟩, ?_, fun z => absurd rfl z⟩
  intro v H' d M' k' r' m' q'
  obtain ⟨r, i', j', rfl, a, b, c', rfl⟩ := q'
  refine c v H' _ M k' r' (fun z o h => ?_) (q r a b)
  by_cases ea : z = t
  · rw [ea, ht] at h; cases h
    rw [mup_mup] at m'
    obtain ⟨g1, g2, g3, g4⟩ := m' t _ mup_same
    rw [ea]; exact ⟨s, ns, i', j', k, g1, g2, g3, g4⟩
  · exact m' z o (by rw [mup_ne ea, mup_ne ea]; exact h)
/-! ### the tape itself -/
def N__law_tape : List Str := ["_law_script", "_law_way"]
theorem sc__law_tape : FnScope N__law_tape ["_law_script"] (defScope (top 56)) := ⟨rfl, rfl, rfl, by decide +kernel, rfl, by decide +kernel, by decide +kernel⟩
def spV_tape (K : PySem.W.Frag) : Sp := fun vs H Q _ => ∃ s ns, vs = [.ref s] ∧ Scr K H s ns ∧ ∀ p k, H p = none → Q (.ref p) (upd H p (.lst [.ref s, .int 0, .int 0, .int k]))
theorem okV_tape (T : Tx K mg) : ∃ fd, FnOk P w K mg base CX0 1 (He.ga K "_law_tape") fd ["_law_script"] (spV_tape K) ∧ Binds K fd ["_law_script"] [] := by
  obtain ⟨fd, F⟩ := T.d__law_tape
  refine ⟨fd, F.ok sc__law_tape (fun vs H Q E ⟨s, ns, h, _⟩ => by rw [h]; rfl) fun cdv A outer s H vs Q E hr ⟨a, ns, e, hs, q⟩ => ?_, F.bindsN (fun _ _ _ _ _ _ us hl => match us, hl with | [_], _ => rfl)⟩
  have hu := hu_of hr
  refine ⟨_, pss_cons (ps_set (i := 1) sc__law_tape.nd rfl (.inl rfl) pe_int) (pss_cons (ps_if (pt_cmpR (p_gt).1 (pe_callB p_lenP.1 rfl T.f_len Boot.«len» (pa_cons (pe_var (i := 0) rfl (.inl rfl)) pa_nil)) pe_int rfl) (pss_cons (ps_set (i := 1) sc__law_tape.nd rfl (.inl rfl) (pe_op p_mod.1 (pe_ix ix_seq (pe_var (i := 0) rfl (.inl rfl)) pe_int (by intro _ _; rfl)) pe_int)) pss_nil) pss_nil) (pss_cons (ps_ret (pe_lst (pa_cons (pe_var (i := 0) rfl (.inl rfl)) (pa_cons pe_int (pa_cons pe_int (pa_cons (pe_var (i := 1) rfl (.inl rfl)) pa_nil)))))) pss_nil)), ?_⟩
  subst e
  have fin : ∀ k : Int, (tSeq (tRet (tLst (tCons (tVar 0) (tCons (tC (V.int 0)) (tCons (tC (V.int 0)) (tCons (tVar 1) tNil)))))) tNext) { nx := fun x H' => Q V.non H', rt := Q } [some (.ref a), some (.int k)] H := fun k => ⟨_, rfl, _, rfl, by show 4 ≤ sizeLine; decide, fun p n => q p k n⟩
  refine ⟨.ref a, rfl, .ref a, ns.length, rfl, .inl ⟨_, hs.sq, (List.length_map _).symm⟩, _, _, rfl, rfl, _, rfl, ?_⟩
  show if decide ((0 : Int) < (ns.length : Int)) = true then _ else _
  split
  · rename_i h
    have h := of_decide_eq_true h
    obtain ⟨v, hv⟩ : ∃ v, atI (ns.map V.int) 0 = some (.int v) := by
      cases ns with
      | nil => exact absurd h (by decide)
      | cons n ns => exact ⟨n, atI_nat (xs := V.int n :: ns.map V.int) (k := 0) rfl⟩
    refine ⟨.ref a, rfl, .inl ⟨_, _, _, _, rfl, rfl, hs.sq, hv, v, 2, rfl, rfl, show (0 : Int) < 2 by decide, ?_⟩⟩
    exact fin _
  · exact fin 0
end
end Tal
set_option maxHeartbeats 4000000
/-! rules drawn -/
namespace Tal
open PySem PySem.Spec PyProof.Rows L2
theorem ixL {α : Type} {xs : List α} {i : Int} (h0 : 0 ≤ i) (h1 : i < xs.length) : ∃ d, d ∈ xs ∧ atI xs i = some d := by
  obtain ⟨j, rfl⟩ : ∃ j : Nat, i = j := ⟨i.toNat, by omega⟩
  exact ⟨xs[j]'(by omega), List.getElem_mem _, atI_nat (List.getElem?_eq_getElem (by omega))⟩
theorem ixI {ns : List Int} {i : Int} (h0 : 0 ≤ i) (h1 : i < ns.length) : ∃ v, v ∈ ns ∧ atI (ns.map D.int) i = some (.int v) := by
  obtain ⟨d, hd, e⟩ := ixL (xs := ns.map D.int) h0 (by simpa using h1)
  obtain ⟨v, hv, rfl⟩ := List.mem_map.mp hd
  exact ⟨v, hv, e⟩
def ub (th m : Nat) : Nat := if th = 3 then 2 ^ m - 1 else 2 * m - 1
theorem ub_step {th m a b : Nat} (h : (th = 3 ∧ m + 1 ≤ 3) ∨ (th = 1 ∧ m + 1 ≤ 4)) (ha : a ≤ ub th m) (hb : b ≤ ub th (min m th)) : 1 + a + b ≤ ub th (m + 1) := by
  unfold ub at *
  rcases h with ⟨rfl, h⟩ | ⟨rfl, h⟩
  · have : m = 0 ∨ m = 1 ∨ m = 2 := by omega
    rcases this with rfl | rfl | rfl <;> simp at * <;> omega
  · have : m = 0 ∨ m = 1 ∨ m = 2 ∨ m = 3 := by omega
    rcases this with rfl | rfl | rfl | rfl <;> simp at * <;> omega
theorem W_up : ∀ {n m : Nat} {r : Rule}, r.W n → n ≤ m → r.W m
  | n, m, .no, h, _ => by cases n <;> exact h.elim
  | n, m, .pt, _, _ => by cases m <;> trivial
  | 0, m, .un _ _ _ _ _, h, _ => h.elim
  | n + 1, 0, .un _ _ _ _ _, _, h => by omega
  | n + 1, m + 1, .un t l c i e, ⟨h1, h2, h3, h4, h5, h6⟩, h => ⟨h1, h2, h3, h4, W_up h5 (by omega), h6.imp id fun z => W_up z (by omega)⟩
section
variable {P : Program} {w : World} {K : PySem.W.Frag} {mg : Str → Option Value} {base : Heap}
def sp_rule (n : Nat) : DSp := fun ds M Q _ => ∃ (t : Addr) (m th : Nat), ds = [.ref t, .int m, .int th] ∧ M t = some .tape ∧ m ≤ n ∧ ((th = 3 ∧ m ≤ 3) ∨ (th = 1 ∧ m ≤ 4)) ∧ ∀ r : Rule, r.W m → r.units ≤ ub th m → Q r.d M
def sp_unit (n : Nat) : DSp := fun ds M Q _ => ∃ (t : Addr) (m th : Nat), ds = [.ref t, .int ((m + 1 : Nat) : Int), .int th] ∧ M t = some .tape ∧ m + 1 ≤ n ∧ ((th = 3 ∧ m + 1 ≤ 3) ∨ (th = 1 ∧ m + 1 ≤ 4)) ∧ ∀ r : Rule, r.W (m + 1) → r.units ≤ ub th (m + 1) → Q r.d M
def restUnit (n : Nat) : RS := rSeq
            (rSet 7
              (rCall Md.no (sp_rule n)
                (rCons (rVar 0) (rCons (rOp gSub (rVar 1) (rC (D.int 1))) (rCons (rVar 2) rNil)))))
            (rSeq
              (rIfS
                (rAnd (rB (rOp gIsNot (rVar 5) (rC D.non)))
                  (rB (rOp gGt (rCall Md.no sp_draw (rCons (rVar 0) (rCons (rC (D.int 3)) rNil))) (rC (D.int 0)))))
                (rSet 6
                  (rCall Md.no (sp_rule n)
                    (rCons (rVar 0)
                      (rCons (rCB gMin2 (rCons (rOp gSub (rVar 1) (rC (D.int 1))) (rCons (rVar 2) rNil)))
                        (rCons (rVar 2) rNil)))))
                rNext)
              (rRet
                (rTup
                  (rCons (rC (D.str (Str.ofString "unit")))
                    (rCons (rVar 3) (rCons (rVar 4) (rCons (rVar 5) (rCons (rVar 7) (rCons (rVar 6) rNil)))))))))
theorem restUnit_ok {n m th : Nat} {t : Addr} {to le : Int} {c : Option Int} {M M0 : Mp} {Q : DQ} {E : Exn → Mp → Prop} (ht : M t = some .tape) (l : Le M0 M) (hn : m ≤ n) (hth : (th = 3 ∧ m + 1 ≤ 3) ∨ (th = 1 ∧ m + 1 ≤ 4)) (h1 : 1 ≤ to ∧ to ≤ 99) (h2 : 1 ≤ le ∧ le ≤ 99)
    (h3 : ∀ z, c = some z → to ≤ z ∧ z ≤ 99) (q : ∀ r : Rule, r.W (m + 1) → r.units ≤ ub th (m + 1) → Q r.d M0) :
    restUnit n (endsD .no Q E) [some (.ref t), some (.int ((m + 1 : Nat) : Int)), some (.int th), some (.int to), some (.int le), some (oD c), some .non, none] M := by
  have em : ((m + 1 : Nat) : Int) - 1 = m := by omega
  unfold restUnit
  refine ⟨t, m, th, by rw [em], ht, hn, by omega, fun i wi ui => ?_⟩
  simp only [List.set_cons_zero, List.set_cons_succ]
  have fin : ∀ e : Rule, (e = .no ∨ e.W m) → (c = none → e = .no) → e.units ≤ ub th (min m th) → (rRet
                (rTup
                  (rCons (rC (D.str (Str.ofString "unit")))
                    (rCons (rVar 3) (rCons (rVar 4) (rCons (rVar 5) (rCons (rVar 7) (rCons (rVar 6) rNil)))))))) (endsD .no Q E) [some (.ref t), some (.int ((m + 1 : Nat) : Int)), some (.int th), some (.int to), some (.int le), some (oD c), some e.d, some i.d] M := fun e we ce ue =>
    drE (q (.un to le c i e) ⟨h1, h2, h3, ce, wi, we⟩ (ub_step hth ui ue)) l rfl
  cases c with
  | none => exact fin .no (.inl rfl) (fun _ => rfl) (Nat.zero_le _)
  | some z =>
    refine ⟨t, 3, rfl, ht, by decide, fun b hb0 hb1 => ?_⟩
    refine br_p (fun hb => ?_) (fun hb => fin .no (.inl rfl) (fun _ => rfl) (Nat.zero_le _))
    refine ⟨t, min m th, th, ?_, ht, by omega, ?_, fun e we ue => ?_⟩
    · rw [em, show (min (m : Int) th) = ((min m th : Nat) : Int) by omega]
    · omega
    simp only [List.set_cons_zero, List.set_cons_succ]
    exact fin e (.inr (W_up we (by omega))) (fun z => by cases z) ue
theorem step_unit (T : Tx K mg) {n k : Nat} {sp : DSp} (F : Ok P w K mg base .no (k+1) "_law_rule" ["_law_tape_here", "_law_deep", "_law_thin"] sp) (hsp : ∀ m, n = m + 1 → sp = sp_rule m) : Ok P w K mg base .no (k+2) "_law_unit" ["_law_tape_here", "_law_deep", "_law_thin"] (sp_unit n) :=
  ok_no T.d__law_unit T.g__law_unit sc__law_unit (fun _ _ _ _ _ _ us hl => match us, hl with | [_, _, _], _ => rfl) (fun ds M Q E h => by first | (obtain ⟨_, rfl, _⟩ := h; rfl) | (obtain ⟨_, _, rfl, _⟩ := h; rfl) | (obtain ⟨_, _, _, rfl, _⟩ := h; rfl) | (obtain ⟨_, _, _, _, rfl, _⟩ := h; rfl) | (obtain ⟨_, _, _, _, _, rfl, _⟩ := h; rfl) | (obtain ⟨_, _, _, _, _, _, rfl, _⟩ := h; rfl) | (obtain ⟨_, _, _, _, _, _, _, rfl, _⟩ := h; rfl) | (obtain ⟨_, _, _, _, _, _, _, _, rfl, _⟩ := h; rfl) | (obtain ⟨_, _, _, _, _, _, _, _, _, rfl, _⟩ := h; rfl) | (obtain ⟨_, _, _, _, _, _, _, _, _, _, rfl, _⟩ := h; rfl) | (obtain ⟨_, _, _, _, _, _, _, _, _, _, _, rfl, _⟩ := h; rfl)) fun f cdv A outer s H E hr => ⟨_, w__law_unit T (hu_of hr) (ok__law_draw T) (hr.mono (by first | decide | omega)) F (hr.mono (by first | decide | omega)), fun ds M Q E h => by
  obtain ⟨t, m, th, rfl, ht, hn, hth, q⟩ := h
  obtain ⟨n, rfl⟩ : ∃ n', n = n' + 1 := ⟨n - 1, by omega⟩
  rw [hsp n rfl]
  rw [show startD N__law_unit [.ref t, .int ((m + 1 : Nat) : Int), .int th] = [some (.ref t), some (.int ((m + 1 : Nat) : Int)), some (.int th), none, none, none, none, none] from rfl]
  refine fun p1 np1 => ⟨t, 20, rfl, mup_new ht np1, by decide, fun a ha0 ha1 => ⟨by decide, ?_⟩⟩
  obtain ⟨v, hv, e⟩ := ixI (ns := [3, 5, 99]) (i := a / 8) (by omega) (by show a / 8 < 3; omega)
  have hv' := (by decide : ∀ v ∈ [(3 : Int), 5, 99], 0 < v ∧ v ≤ 99) v hv
  refine ⟨_, _, mup_same, e, t, v, rfl, mup_new ht np1, ⟨hv'.1, by omega⟩, fun to0 h0 h1 => ?_⟩
  simp only [List.set_cons_zero, List.set_cons_succ]
  refine fun p2 np2 => ⟨t, 20, rfl, mup_new (mup_new ht np1) np2, by decide, fun a' ha0' ha1' => ⟨by decide, ?_⟩⟩
  obtain ⟨v', hv, e⟩ := ixI (ns := [2, 3, 99]) (i := a' / 9) (by omega) (by show a' / 9 < 3; omega)
  have hw' := (by decide : ∀ v ∈ [(2 : Int), 3, 99], 0 < v ∧ v ≤ 99) v' hv
  refine ⟨_, _, mup_same, e, t, v', rfl, mup_new (mup_new ht np1) np2, ⟨hw'.1, by omega⟩, fun le0 h0' h1' => ?_⟩
  simp only [List.set_cons_zero, List.set_cons_succ]
  have ht2 := mup_new (o := .lst [.int 2, .int 3, .int 99]) (mup_new (o := .lst [.int 3, .int 5, .int 99]) ht np1) np2
  have le2 := (Le.new (o := .lst [.int 3, .int 5, .int 99]) np1).trans (Le.new (o := .lst [.int 2, .int 3, .int 99]) np2)
  refine ⟨t, 2, rfl, ht2, by decide, fun b hb0 hb1 => ⟨?_⟩⟩
  have key : ∀ c : Option Int, (∀ z, c = some z → 1 + to0 ≤ z ∧ z ≤ 99) → restUnit n (endsD .no Q E) [some (.ref t), some (.int ((m + 1 : Nat) : Int)), some (.int th), some (.int (1 + to0)), some (.int (1 + le0)), some (oD c), some .non, none] (mup (mup M p1 (MO.lst [D.int 3, D.int 5, D.int 99])) p2 (MO.lst [D.int 2, D.int 3, D.int 99])) := fun c hc =>
    restUnit_ok ht2 le2 (by omega) hth (by omega) (by omega) hc q
  refine br_p (fun h => ?_) (fun h => key none (fun z e => by cases e))
  refine ⟨t, 4, rfl, ht2, by decide, fun b hb0 hb1 => ?_⟩
  exact key (some (min 99 (1 + to0 + b))) (fun z e => by cases e; omega)⟩
theorem step_rule (T : Tx K mg) {n k : Nat} (F : Ok P w K mg base .no (k+1) "_law_unit" ["_law_tape_here", "_law_deep", "_law_thin"] (sp_unit n)) : Ok P w K mg base .no (k+2) "_law_rule" ["_law_tape_here", "_law_deep", "_law_thin"] (sp_rule n) :=
  ok_no T.d__law_rule T.g__law_rule sc__law_rule (fun _ _ _ _ _ _ us hl => match us, hl with | [_, _, _], _ => rfl) (fun ds M Q E h => by first | (obtain ⟨_, rfl, _⟩ := h; rfl) | (obtain ⟨_, _, rfl, _⟩ := h; rfl) | (obtain ⟨_, _, _, rfl, _⟩ := h; rfl) | (obtain ⟨_, _, _, _, rfl, _⟩ := h; rfl) | (obtain ⟨_, _, _, _, _, rfl, _⟩ := h; rfl) | (obtain ⟨_, _, _, _, _, _, rfl, _⟩ := h; rfl) | (obtain ⟨_, _, _, _, _, _, _, rfl, _⟩ := h; rfl) | (obtain ⟨_, _, _, _, _, _, _, _, rfl, _⟩ := h; rfl) | (obtain ⟨_, _, _, _, _, _, _, _, _, rfl, _⟩ := h; rfl) | (obtain ⟨_, _, _, _, _, _, _, _, _, _, rfl, _⟩ := h; rfl) | (obtain ⟨_, _, _, _, _, _, _, _, _, _, _, rfl, _⟩ := h; rfl)) fun f cdv A outer s H E hr => ⟨_, w__law_rule T (hu_of hr) (ok__law_draw T) (hr.mono (by first | decide | omega)) F (hr.mono (by first | decide | omega)), fun ds M Q E h => by
  obtain ⟨t, m, th, rfl, ht, hn, hth, q⟩ := h
  rw [show startD N__law_rule [.ref t, .int (m : Int), .int th] = [some (.ref t), some (.int (m : Int)), some (.int th)] from rfl]
  have pt : Q (.tup [.str "point"]) M := q .pt (by cases m <;> trivial) (Nat.zero_le _)
  refine ⟨?_⟩
  refine br_p (fun h => dr pt) (fun h => ⟨t, 7, rfl, ht, by decide, fun b hb0 hb1 => ⟨?_⟩⟩)
  refine br_p (fun h => dr pt) (fun h => ?_)
  obtain ⟨m, rfl⟩ : ∃ m', m = m' + 1 := ⟨m - 1, by omega⟩
  exact ⟨t, m, th, rfl, ht, hn, hth, fun r wr ur => dr (q r wr ur)⟩⟩
mutual
theorem ok_unit (T : Tx K mg) : ∀ n, Ok P w K mg base .no (2 * n + 2) "_law_unit" ["_law_tape_here", "_law_deep", "_law_thin"] (sp_unit n)
  | 0 => step_unit (k := 0) (sp := spNo) T (okF T.d__law_rule T.g__law_rule sc__law_rule (fun _ _ _ _ _ _ us hl => match us, hl with | [_, _, _], _ => rfl)) fun m z => by cases z
  | n + 1 => step_unit (k := 2 * n + 2) T (ok_rule T n) fun m z => by cases z; rfl
theorem ok_rule (T : Tx K mg) : ∀ n, Ok P w K mg base .no (2 * n + 3) "_law_rule" ["_law_tape_here", "_law_deep", "_law_thin"] (sp_rule n)
  | n => step_rule (k := 2 * n + 1) T (ok_unit T n)
end
def sp_any_rule : DSp := fun ds M Q _ => ∃ (t : Addr), ds = [.ref t] ∧ M t = some .tape ∧ ∀ r : Rule, r.W 4 → r.units ≤ 7 → Q r.d M
theorem ok__law_any_rule (T : Tx K mg)  : Ok P w K mg base .no (12) "_law_any_rule" ["_law_tape_here"] (sp_any_rule) :=
  ok_no T.d__law_any_rule T.g__law_any_rule sc__law_any_rule (fun _ _ _ _ _ _ us hl => match us, hl with | [_], _ => rfl) (fun ds M Q E h => by first | (obtain ⟨_, rfl, _⟩ := h; rfl) | (obtain ⟨_, _, rfl, _⟩ := h; rfl) | (obtain ⟨_, _, _, rfl, _⟩ := h; rfl) | (obtain ⟨_, _, _, _, rfl, _⟩ := h; rfl) | (obtain ⟨_, _, _, _, _, rfl, _⟩ := h; rfl) | (obtain ⟨_, _, _, _, _, _, rfl, _⟩ := h; rfl) | (obtain ⟨_, _, _, _, _, _, _, rfl, _⟩ := h; rfl) | (obtain ⟨_, _, _, _, _, _, _, _, rfl, _⟩ := h; rfl) | (obtain ⟨_, _, _, _, _, _, _, _, _, rfl, _⟩ := h; rfl) | (obtain ⟨_, _, _, _, _, _, _, _, _, _, rfl, _⟩ := h; rfl) | (obtain ⟨_, _, _, _, _, _, _, _, _, _, _, rfl, _⟩ := h; rfl)) fun f cdv A outer s H E hr => ⟨_, w__law_any_rule T (hu_of hr) (ok__law_draw T) (hr.mono (by first | decide | omega)) (ok_rule T 4) (hr.mono (by first | decide | omega)), fun ds M Q E h => by
  obtain ⟨t, rfl, ht, q⟩ := h
  rw [show startD N__law_any_rule [.ref t] = [some (.ref t), none] from rfl]
  refine ⟨t, 6, rfl, ht, by decide, fun a ha0 ha1 => ?_⟩
  simp only [List.set_cons_zero, List.set_cons_succ]
  have hc : a = 0 ∨ a = 1 ∨ a = 2 ∨ a = 3 ∨ a = 4 ∨ a = 5 := by omega
  refine fun p1 np1 => ⟨_, .int ([2, 1, 2, 3, 3, 4].getD a.toNat 0 : Nat), mup_same, ?_, fun p2 np2 => ⟨_, .int ([3, 3, 3, 3, 1, 1].getD a.toNat 0 : Nat), mup_same, ?_, ?_⟩⟩
  · rcases hc with rfl | rfl | rfl | rfl | rfl | rfl <;> rfl
  · rcases hc with rfl | rfl | rfl | rfl | rfl | rfl <;> rfl
  refine ⟨t, _, _, rfl, mup_new (mup_new ht np1) np2, ?_, ?_, fun r wr ur => drE (q r (W_up wr ?_) (Nat.le_trans ur ?_)) ((Le.new np1).trans (Le.new np2)) rfl⟩
  all_goals
    rcases hc with rfl | rfl | rfl | rfl | rfl | rfl <;> decide⟩
end
end Tal
set_option maxHeartbeats 400000
/-! the law's reading of a rally -/
namespace Tal
open PySem PySem.Spec PyProof.Rows L2
theorem stk_le : ∀ (n : Nat) (r : Rule) (s : RSt) (sd : Bool), r.W n → stk r s sd ≤ n
  | n, .no, _, _, h => by cases n <;> exact h.elim
  | n, .pt, s, sd, _ => by cases s <;> exact Nat.zero_le _
  | n + 1, .un t l c i e, .e, _, _ => Nat.zero_le _
  | n + 1, .un t l c i e, .s a b w, sd, h => by
    have := stk_le n _ w sd (inner_W h a b)
    rw [stk_un]
    split <;> omega
theorem en_len {n : Nat} {r : Rule} (h : r.W n) : ∀ (xs : List Bool) (s : RSt) (k : Nat), (enR r s xs k).length ≤ n * (xs.length - (goR r s xs).rest.length)
  | [], s, k => Nat.zero_le _
  | x :: xs, s, k => by
    have h1 := stk_le n r s x h
    have h2 := en_len h xs (ral r s x).1 (k + 1)
    have h3 := go_len r xs (ral r s x).1
    rw [enR, goR, List.length_append, List.length_replicate]
    split
    · rw [List.length_cons, show xs.length + 1 - xs.length = 1 by omega, List.length_nil]; omega
    · rw [List.length_cons, show xs.length + 1 - (goR r (ral r s x).1 xs).rest.length = (xs.length - (goR r (ral r s x).1 xs).rest.length) + 1 by omega, Nat.mul_succ]; omega
/-- all is known but what is at b -/
def LeB (b : Addr) (M M' : Mp) : Prop := ∀ a o, a ≠ b → M a = some o → M' a = some o
theorem LeB.trans {b : Addr} {A B C : Mp} (h : LeB b A B) (k : LeB b B C) : LeB b A C := fun a o n e => k a o n (h a o n e)
theorem LeB.of {b : Addr} {A B : Mp} (h : Le A B) : LeB b A B := fun a o _ e => h a o e
theorem LeB.set {b : Addr} {M : Mp} {o : MO} : LeB b M (mup M b o) := fun a u n e => by rw [mup_ne n]; exact e
theorem LeB.new {b p : Addr} {M M' : Mp} {o : MO} (n : M p = none) (l : LeB b M M') : LeB b M (mup M' p o) := fun a u na e => by
  rw [mup_ne (fun z => by rw [z, n] at e; cases e)]; exact l a u na e
abbrev sdD (sd : Bool) : D := .int (sdI sd)
def goneD (y : Gone) (n : Nat) : D := .tup [oD (y.side.map sdI), y.st.d, .int ((n - y.rest.length : Nat) : Int)]
/-- the loop of a unit stands at k, a and b units won -/
structure AtU (t l : Int) (c : Option Int) (i e : Rule) (xs : List Bool) (es : List Int) (k : Nat) (a b : Int) (kk : Nat) (es2 : List Int) : Prop where
  ab : 0 ≤ a ∧ 0 ≤ b
  cap : ∀ m, c = some m → a < m ∧ b < m
  kx : k ≤ kk ∧ kk ≤ xs.length
  len : es2.length + 4 * (xs.length - kk) ≤ 5000
  go : goR (.un t l c i e) (Rule.un t l c i e).beg (xs.drop k) = goR (.un t l c i e) (.s a b (inner c i e a b).beg) (xs.drop kk)
  en : es ++ enR (.un t l c i e) (Rule.un t l c i e).beg (xs.drop k) k = es2 ++ enR (.un t l c i e) (.s a b (inner c i e a b).beg) (xs.drop kk) kk
section
variable {P : Program} {w : World} {K : PySem.W.Frag} {mg : Str → Option Value} {base : Heap}
def sp_won : DSp := fun ds M Q _ => ∃ (t l : Int) (c : Option Int) (i e : Rule) (own other : Int), ds = [(Rule.un t l c i e).d, .int own, .int other] ∧ (∀ m, c = some m → own ≤ m) ∧ Q (.bl (wonR t l c own other)) M
theorem ok__law_won (T : Tx K mg)  : Ok P w K mg base .no (1) "_law_won" ["_law_rule_here", "_law_own", "_law_other"] (sp_won) :=
  ok_no T.d__law_won T.g__law_won sc__law_won (fun _ _ _ _ _ _ us hl => match us, hl with | [_, _, _], _ => rfl) (fun ds M Q E h => by first | (obtain ⟨_, rfl, _⟩ := h; rfl) | (obtain ⟨_, _, rfl, _⟩ := h; rfl) | (obtain ⟨_, _, _, rfl, _⟩ := h; rfl) | (obtain ⟨_, _, _, _, rfl, _⟩ := h; rfl) | (obtain ⟨_, _, _, _, _, rfl, _⟩ := h; rfl) | (obtain ⟨_, _, _, _, _, _, rfl, _⟩ := h; rfl) | (obtain ⟨_, _, _, _, _, _, _, rfl, _⟩ := h; rfl) | (obtain ⟨_, _, _, _, _, _, _, _, rfl, _⟩ := h; rfl) | (obtain ⟨_, _, _, _, _, _, _, _, _, rfl, _⟩ := h; rfl) | (obtain ⟨_, _, _, _, _, _, _, _, _, _, rfl, _⟩ := h; rfl) | (obtain ⟨_, _, _, _, _, _, _, _, _, _, _, rfl, _⟩ := h; rfl)) fun f cdv A outer s H E hr => ⟨_, w__law_won T (hu_of hr) , fun ds M Q E h => by
  obtain ⟨t, l, c, i, e, own, other, rfl, hc, q⟩ := h
  rw [show startD N__law_won [(Rule.un t l c i e).d, .int own, .int other] = [some ((Rule.un t l c i e).d), some (.int own), some (.int other)] from rfl]
  have tail : (c ≠ some own) → (rAndV (rOp gGe (rVar 1) (rOp gIx (rVar 0) (rC (.int 1)))) (rOp gGe (rOp gSub (rVar 1) (rVar 2)) (rOp gIx (rVar 0) (rC (.int 2))))) [some (Rule.un t l c i e).d, some (.int own), some (.int other)] M (Dr Q) (DrX .no E) := fun hn => by
    unfold wonR at q
    rw [decide_eq_false hn, Bool.false_or] at q
    refine ⟨_, rfl, ?_⟩
    refine br_p (fun h1 => ?_) (fun h1 => ?_)
    · rw [decide_eq_true h1, Bool.true_and] at q
      exact ⟨_, rfl, dr q⟩
    · rw [decide_eq_false h1, Bool.false_and] at q
      exact dr q
  refine ⟨_, rfl, ?_⟩
  cases c with
  | none => exact tail (fun z => by cases z)
  | some m =>
    have hm := hc m rfl
    refine ⟨_, rfl, ?_⟩
    refine br_p (fun h1 => ?_) (fun h1 => tail (fun z => by cases z; exact h1 (Int.le_refl _)))
    unfold wonR at q
    rw [decide_eq_true (show some m = some own from by congr 1; omega), Bool.true_or] at q
    exact dr q⟩
def sp_lplayed (n : Nat) : DSp := fun ds M Q _ => ∃ (r : Rule) (row en : Addr) (xs : List Bool) (k : Nat) (es : List Int), ds = [r.d, .ref row, .int k, .ref en] ∧ n ≤ 4 ∧ r.W n ∧ k ≤ xs.length ∧ xs.length ≤ 900 ∧ M row = some (.lst (xs.map sdD)) ∧ M en = some (.lst (es.map D.int)) ∧ row ≠ en ∧
  es.length + 4 * (xs.length - k) ≤ 5000 ∧ ∀ M', M' en = some (.lst ((es ++ enR r r.beg (xs.drop k) k).map D.int)) → LeB en M M' → Q (goneD (goR r r.beg (xs.drop k)) xs.length) M'
def restPlay (sp : DSp) : RS := rSeq
          (rAsg (rCall Md.no sp (rCons (rVar 6) (rCons (rVar 1) (rCons (rVar 2) (rCons (rVar 3) rNil)))))
            (gtD 3 (gsCons (gnD 7) (gsCons (gnD 8) (gsCons (gnD 2) gsNil)))))
          (rSeq
            (rIfS (rB (rOp gIs (rVar 7) (rC D.non)))
              (rRet
                (rTup
                  (rCons (rC D.non)
                    (rCons
                      (rTup
                        (rCons (rOp gIx (rVar 4) (rC (D.int 0)))
                          (rCons (rOp gIx (rVar 4) (rC (D.int 1))) (rCons (rVar 8) rNil))))
                      (rCons (rVar 2) rNil)))))
              rNext)
            (rSeq (rAsg (rOp gAdd (rOp gIx (rVar 4) (rVar 7)) (rC (D.int 1))) (gbD (rVar 4) (rVar 7)))
              (rIfS
                (rB
                  (rCall Md.no sp_won
                    (rCons (rVar 0)
                      (rCons (rOp gIx (rVar 4) (rVar 7))
                        (rCons (rOp gIx (rVar 4) (rOp gSub (rC (D.int 1)) (rVar 7))) rNil)))))
                (rSeq (rDrop (rBM "list" fAppend (rVar 3) (rCons (rVar 2) rNil)))
                  (rRet
                    (rTup
                      (rCons (rVar 7)
                        (rCons
                          (rTup
                            (rCons (rOp gIx (rVar 4) (rC (D.int 0)))
                              (rCons (rOp gIx (rVar 4) (rC (D.int 1))) (rCons (rTup rNil) rNil))))
                          (rCons (rVar 2) rNil))))))
                rNext)))
theorem restPlay_ok {P : DEnds} {Q : DQ} {m : Nat} {t l : Int} {c : Option Int} {i e : Rule} {row en p : Addr} {xs : List Bool} {k kk : Nat} {es es2 : List Int} {a b : Int} {s5 s7 s8 : Option D} {M0 M2 : Mp}
    (hrt : ∀ d M', Q d M' → P.rt d M') (hnx : ∀ (a' b' : Int) (kk' : Nat) (es' : List Int) (z7 z8 : Option D) (M' : Mp), M' p = some (.lst [.int a', .int b']) → M' en = some (.lst (es'.map D.int)) → LeB en M0 M' → AtU t l c i e xs es k a' b' kk' es' → kk < kk' →
      P.nx [some (Rule.un t l c i e).d, some (.ref row), some (.int (kk' : Int)), some (.ref en), some (.ref p), s5, some (inner c i e a b).d, z7, z8] M')
    (o : (Rule.un t l c i e).W (m + 1)) (hm : m + 1 ≤ 4) (hx : xs.length ≤ 900) (np : M0 p = none) (hp : M2 p = some (.lst [.int a, .int b])) (hen : M2 en = some (.lst (es2.map D.int))) (hrow : M2 row = some (.lst (xs.map sdD))) (hne : row ≠ en) (hpe : p ≠ en) (le2 : LeB en M0 M2)
    (U : AtU t l c i e xs es k a b kk es2) (q : ∀ M', M' en = some (.lst ((es ++ enR (.un t l c i e) (Rule.un t l c i e).beg (xs.drop k) k).map D.int)) → LeB en M0 M' → Q (goneD (goR (.un t l c i e) (Rule.un t l c i e).beg (xs.drop k)) xs.length) M') :
    restPlay (sp_lplayed m) P [some (Rule.un t l c i e).d, some (.ref row), some (.int (kk : Int)), some (.ref en), some (.ref p), s5, some (inner c i e a b).d, s7, s8] M2 := by
  unfold restPlay
  have hW := inner_W o a b
  have hkx := U.kx
  refine ⟨inner c i e a b, row, en, xs, kk, es2, rfl, by omega, hW, hkx.2, hx, hrow, hen, hne, U.len, fun M3 hen3 le3 => ⟨rfl, ?_⟩⟩
  simp only [List.set_cons_zero, List.set_cons_succ]
  have hp3 := le3 _ _ hpe hp
  have hgo := U.go
  have hEn := U.en
  rw [go_un] at hgo
  rw [en_un] at hEn
  have h1 := go_len (inner c i e a b) (xs.drop kk) (inner c i e a b).beg
  have h2 := go_some (inner c i e a b) (xs.drop kk) (inner c i e a b).beg
  have h3 := go_drop (inner c i e a b) (xs.drop kk) (inner c i e a b).beg
  have h4 := en_len hW (xs.drop kk) (inner c i e a b).beg kk
  have h4' : (enR (inner c i e a b) (inner c i e a b).beg (xs.drop kk) kk).length ≤ 3 * ((xs.drop kk).length - (goR (inner c i e a b) (inner c i e a b).beg (xs.drop kk)).rest.length) := Nat.le_trans h4 (Nat.mul_le_mul_right _ (by omega))
  generalize goR (inner c i e a b) (inner c i e a b).beg (xs.drop kk) = y at *
  generalize enR (inner c i e a b) (inner c i e a b).beg (xs.drop kk) kk = en1 at *
  have hlen := U.len
  have hcap := U.cap
  have hab := U.ab
  obtain ⟨ys, yst, yr⟩ := y
  rw [List.length_drop] at h1 h2 h3 h4' hEn
  have hpos : kk + (xs.length - kk - yr.length) = xs.length - yr.length := by
    have : yr.length ≤ xs.length - kk := h1
    omega
  rw [show (⟨ys, yst, yr⟩ : Gone).rest = yr from rfl] at *
  rw [hpos] at hEn
  cases ys with
  | none =>
    refine ⟨_, _, hp3, rfl, _, _, hp3, rfl, hrt _ _ ?_⟩
    have := q M3 (by rw [hen3, hEn]; simp [enU]) (le2.trans le3)
    rw [hgo] at this
    exact this
  | some sd =>
    have h2' : yr.length < xs.length - kk := h2 sd rfl
    have hdr : yr = xs.drop (xs.length - yr.length) := by
      rw [List.drop_drop, hpos] at h3; exact h3
    have hfin : ∀ sd', sd' = sd → (upR t l c i e a b sd).2 = true → ∀ M4, M4 en = some (.lst ((es2 ++ en1) ++ [((xs.length - yr.length : Nat) : Int)] |>.map D.int)) → LeB en M0 M4 → Q (.tup [sdD sd, (upR t l c i e a b sd).1.d, .int ((xs.length - yr.length : Nat) : Int)]) M4 := fun _ _ hu M4 g1 g2 => by
      have := q M4 (by rw [hEn, g1]; simp [enU, hu]) g2
      rw [hgo] at this
      simp only [goU, hu, if_true] at this
      exact this
    have hU : (upR t l c i e a b sd).2 = false → AtU t l c i e xs es k (bump a (!sd)) (bump b sd) (xs.length - yr.length) (es2 ++ en1) := fun hu => by
      have hv : wonR t l c (if sd = true then b + 1 else a + 1) (if sd = true then a else b) = false := by
        cases hv : wonR t l c (if sd = true then b + 1 else a + 1) (if sd = true then a else b) with
        | false => rfl
        | true => rw [up_y sd hv] at hu; cases hu
      have hc : ∀ m, c = some m → m ≠ if sd = true then b + 1 else a + 1 := fun m e1 e2 => by
        unfold wonR at hv
        rw [e1, e2, decide_eq_true rfl] at hv
        cases hv
      have hup : (upR t l c i e a b sd).1 = .s (bump a (!sd)) (bump b sd) (inner c i e (bump a (!sd)) (bump b sd)).beg := by rw [up_n sd hv, beg_inner]
      refine ⟨?_, fun m e1 => ?_, by omega, ?_, ?_, ?_⟩
      · cases sd <;> simp [bump] <;> omega
      · have h1 := hcap m e1
        have h2 := hc m e1
        cases sd <;> simp [bump] at h2 ⊢ <;> omega
      · rw [List.length_append]; omega
      · rw [hgo]
        simp only [goU, hu, Bool.false_eq_true, if_false]
        rw [hup, ← hdr]
      · rw [hEn]
        simp only [enU, hu, Bool.false_eq_true, if_false]
        rw [hup, ← hdr, List.append_assoc]
    have hlen3 : (es2 ++ en1).length < sizeLine := by
      have : 5000 < sizeLine := by decide
      rw [List.length_append]; omega
    cases sd
    all_goals
      refine ⟨_, _, hp3, rfl, _, _, _, _, rfl, rfl, hp3, rfl, ?_⟩
      refine ⟨_, _, mup_same, rfl, _, _, mup_same, rfl, t, l, c, i, e, _, _, rfl, fun m hm => ?_, ?_⟩
      · have := hcap m hm; omega
      conv => whnf
      have hp4 : ∀ o, LeB en M0 (mup M3 p o) := fun o => LeB.new np (le2.trans le3)
      have hen4 : ∀ o, (mup M3 p o) en = some (.lst ((es2 ++ en1).map D.int)) := fun o => by rw [mup_ne (Ne.symm hpe)]; exact hen3
      refine br_by (fun hw => ?_) fun hw => ?_
      · refine ⟨rcv_lst (hen4 _), en, _, _, rfl, rfl, hen4 _, by rw [List.length_map]; exact hlen3, ?_⟩
        refine ⟨_, _, by rw [mup_ne hpe]; exact mup_same, rfl, _, _, by rw [mup_ne hpe]; exact mup_same, rfl, hrt _ _ ?_⟩
        first
          | (rw [up_y false hw] at hfin; exact hfin _ rfl rfl _ (by rw [mup_same]; simp) ((hp4 _).trans LeB.set))
          | (rw [up_y true hw] at hfin; exact hfin _ rfl rfl _ (by rw [mup_same]; simp) ((hp4 _).trans LeB.set))
      · first
          | (rw [up_n false hw] at hU; exact hnx _ _ _ _ _ _ _ mup_same (hen4 _) (hp4 _) (hU rfl) (by omega))
          | (rw [up_n true hw] at hU; exact hnx _ _ _ _ _ _ _ mup_same (hen4 _) (hp4 _) (hU rfl) (by omega))
theorem testPlay_ok {R : RS} {P : DEnds} {t l : Int} {c : Option Int} {i e : Rule} {row en p : Addr} {kk : Nat} {a b : Int} {s5 s7 s8 : Option D} {M2 : Mp} (hc : c = none → e = .no) (hp : M2 p = some (.lst [.int a, .int b]))
    (key : R P [some (Rule.un t l c i e).d, some (.ref row), some (.int (kk : Int)), some (.ref en), some (.ref p), s5, some (inner c i e a b).d, s7, s8] M2) :
    rSeq (rIfS
          (rAnd (rB (rOp gIsNot (rOp gIx (rVar 0) (rC (D.int 5))) (rC D.non)))
            (rAnd
              (rB
                (rOp GEq (rOp gAdd (rOp gIx (rVar 4) (rC (D.int 0))) (rC (D.int 1))) (rOp gIx (rVar 0) (rC (D.int 3)))))
              (rB
                (rOp GEq (rOp gAdd (rOp gIx (rVar 4) (rC (D.int 1))) (rC (D.int 1)))
                  (rOp gIx (rVar 0) (rC (D.int 3)))))))
          (rSet 6 (rOp gIx (rVar 0) (rC (D.int 5)))) rNext) R P [some (Rule.un t l c i e).d, some (.ref row), some (.int (kk : Int)), some (.ref en), some (.ref p), s5, some i.d, s7, s8] M2 := by
  have fin : ∀ x : Rule, inner c i e a b = x → R P [some (Rule.un t l c i e).d, some (.ref row), some (.int (kk : Int)), some (.ref en), some (.ref p), s5, some x.d, s7, s8] M2 := fun x hx => by rw [← hx]; exact key
  refine ⟨_, rfl, ?_⟩
  cases he : e.isNo with
  | true =>
    obtain rfl : e = .no := by cases e <;> first | rfl | cases he
    exact fin i (by simp [inner, useLast, Rule.isNo])
  | false =>
    have hN : isN e.d = false := by cases e <;> first | rfl | cases he
    conv => whnf
    rw [hN]
    cases c with
    | none => rw [hc rfl] at he; cases he
    | some z =>
      refine ⟨_, _, hp, rfl, _, rfl, ⟨br_p (fun h1 => ⟨_, _, hp, rfl, _, rfl, ⟨br_p (fun h2 => ?_) fun h2 => ?_⟩⟩) fun h1 => ?_⟩⟩
      · exact ⟨_, rfl, fin e (by simp [inner, useLast, he, show z = a + 1 from h1.symm, show b = a by omega])⟩
      · exact fin i (by simp [inner, useLast, he]; omega)
      · exact fin i (by simp [inner, useLast, he]; omega)
theorem step_lplayed (T : Tx K mg) {n k : Nat} {sp : DSp} (F : Ok P w K mg base .no (k+1) "_law_played" ["_law_rule_here", "_law_row", "_law_at", "_law_ends"] sp) (hsp : ∀ m, n = m + 1 → sp = sp_lplayed m) : Ok P w K mg base .no (k+2) "_law_played" ["_law_rule_here", "_law_row", "_law_at", "_law_ends"] (sp_lplayed n) :=
  ok_no T.d__law_played T.g__law_played sc__law_played (fun _ _ _ _ _ _ us hl => match us, hl with | [_, _, _, _], _ => rfl) (fun ds M Q E h => by first | (obtain ⟨_, rfl, _⟩ := h; rfl) | (obtain ⟨_, _, rfl, _⟩ := h; rfl) | (obtain ⟨_, _, _, rfl, _⟩ := h; rfl) | (obtain ⟨_, _, _, _, rfl, _⟩ := h; rfl) | (obtain ⟨_, _, _, _, _, rfl, _⟩ := h; rfl) | (obtain ⟨_, _, _, _, _, _, rfl, _⟩ := h; rfl) | (obtain ⟨_, _, _, _, _, _, _, rfl, _⟩ := h; rfl) | (obtain ⟨_, _, _, _, _, _, _, _, rfl, _⟩ := h; rfl) | (obtain ⟨_, _, _, _, _, _, _, _, _, rfl, _⟩ := h; rfl) | (obtain ⟨_, _, _, _, _, _, _, _, _, _, rfl, _⟩ := h; rfl) | (obtain ⟨_, _, _, _, _, _, _, _, _, _, _, rfl, _⟩ := h; rfl)) fun f cdv A outer s H E hr => ⟨_, w__law_played T (hu_of hr) F (hr.mono (by first | decide | omega)) (ok__law_won T) (hr.mono (by first | decide | omega)), fun ds M Q E h => by
  obtain ⟨r, row, en, xs, k, es, rfl, hn, o, hk, hx, hrow, hen, hne, hlen, q⟩ := h
  rw [show startD N__law_played [r.d, .ref row, .int (k : Int), .ref en] = [some (r.d), some (.ref row), some (.int (k : Int)), some (.ref en), none, none, none, none, none] from rfl]
  refine eq_point o hn ?_
  cases r with
  | no => cases n <;> exact o.elim
  | pt =>
    refine ⟨_, hrow, ⟨?_⟩⟩
    rw [List.length_map]
    show br (decide ((k : Int) = (xs.length : Int))) _ _
    refine br_p (fun h => ?_) (fun h => ?_)
    · have e : xs.drop k = [] := List.drop_eq_nil_of_le (by omega)
      rw [e] at q
      refine drQ (q M ?_ (.of (.refl M))) ?_
      · rw [hen]; simp [enR]
      · rw [h]; rfl
    · have hk' : k < xs.length := by omega
      have e : xs.drop k = xs[k] :: xs.drop (k + 1) := List.drop_eq_getElem_cons hk'
      rw [e] at q
      refine ⟨_, _, hrow, atI_nat (v := sdD xs[k]) (by rw [List.getElem?_map, List.getElem?_eq_getElem hk']; rfl), ?_⟩
      refine drQ (q M ?_ (.of (.refl M))) ?_
      · rw [hen]; simp [enR, ral, stk]
      · show D.tup [sdD xs[k], .tup [], .int ((xs.length - (xs.drop (k + 1)).length : Nat) : Int)] = D.tup [sdD xs[k], .tup [], .int ((k : Int) + 1)]
        rw [List.length_drop, show ((xs.length - (xs.length - (k + 1)) : Nat) : Int) = (k : Int) + 1 by omega]
  | un t l c i e =>
    cases n with
    | zero => exact o.elim
    | succ m =>
      rw [hsp m rfl]
      obtain ⟨o1, o2, o3, o4, o5, o6⟩ := id o
      refine fun p np => ?_
      simp only [List.set_cons_zero, List.set_cons_succ]
      refine ⟨_, mup_new hrow np, _, rfl, by rw [List.length_map]; omega, by rw [List.length_map]; omega, fun j δ M2 => ∃ (a b : Int) (kk : Nat) (es2 : List Int) (s5 s6 s7 s8 : Option D), δ = [some (Rule.un t l c i e).d, some (.ref row), some (.int (kk : Int)), some (.ref en), some (.ref p), s5, s6, s7, s8] ∧ M2 p = some (.lst [.int a, .int b]) ∧ M2 en = some (.lst (es2.map D.int)) ∧ LeB en M M2 ∧ AtU t l c i e xs es k a b kk es2 ∧ j ≤ kk, ?_, ?_, ?_⟩
      · refine ⟨0, 0, k, es, none, none, none, none, rfl, mup_same, mup_new hen np, LeB.new np (.of (.refl M)), ⟨by omega, fun m hm => ?_, by omega, hlen, ?_, ?_⟩, Nat.zero_le _⟩
        · have := o3 m hm; omega
        · rw [Rule.beg, ← beg_inner]
        · rw [Rule.beg, ← beg_inner]
      · rintro j δ M2 hj ⟨a, b, kk, es2, s5, s6, s7, s8, rfl, hp, hen2, le2, U, hjk⟩
        have hp0 : p ≠ en := fun z => by rw [z, hen] at np; cases np
        have hrow2 := le2 _ _ hne hrow
        refine ⟨_, rfl, ?_⟩
        simp only [List.set_cons_zero, List.set_cons_succ]
        refine testPlay_ok (R := restPlay (sp_lplayed m)) o4 hp ?_
        exact restPlay_ok (Q := Q) (fun d M' h => dr h) (fun a' b' kk' es' z7 z8 M' h1 h2 h3 h4 h5 => ⟨a', b', kk', es', _, _, _, _, rfl, h1, h2, h3, h4, by omega⟩) o hn hx np hp hen2 hrow2 hne hp0 le2 U q
      · rintro δ M2 ⟨a, b, kk, es2, s5, s6, s7, s8, rfl, hp, hen2, le2, U, hjk⟩
        rw [List.length_map] at hjk
        have := U.kx
        omega⟩
theorem ok_lplayed (T : Tx K mg) : ∀ n, Ok P w K mg base .no (n + 2) "_law_played" ["_law_rule_here", "_law_row", "_law_at", "_law_ends"] (sp_lplayed n)
  | 0 => step_lplayed (k := 0) (sp := spNo) T (okF T.d__law_played T.g__law_played sc__law_played (fun _ _ _ _ _ _ us hl => match us, hl with | [_, _, _, _], _ => rfl)) fun m z => by cases z
  | n + 1 => step_lplayed (k := n + 1) T (ok_lplayed T n) fun m z => by cases z; rfl
end
end Tal
set_option maxHeartbeats 400000
/-! the law's reading of a lane -/
namespace Tal
open PySem PySem.Spec PyProof.Rows L2
def isWhole : D → Bool
  | .int _ => true
  | _ => false
section
variable {P : Program} {w : World} {K : PySem.W.Frag} {mg : Str → Option Value} {base : Heap}
def sp_whole : DSp := fun ds M Q _ => ∃ x, ds = [x] ∧ Known M x ∧ Q (.bl (isWhole x)) M
theorem ok__law_whole (T : Tx K mg)  : Ok P w K mg base .no (1) "_law_whole" ["_law_thing"] (sp_whole) :=
  ok_no T.d__law_whole T.g__law_whole sc__law_whole (fun _ _ _ _ _ _ us hl => match us, hl with | [_], _ => rfl) (fun ds M Q E h => by first | (obtain ⟨_, rfl, _⟩ := h; rfl) | (obtain ⟨_, _, rfl, _⟩ := h; rfl) | (obtain ⟨_, _, _, rfl, _⟩ := h; rfl) | (obtain ⟨_, _, _, _, rfl, _⟩ := h; rfl) | (obtain ⟨_, _, _, _, _, rfl, _⟩ := h; rfl) | (obtain ⟨_, _, _, _, _, _, rfl, _⟩ := h; rfl) | (obtain ⟨_, _, _, _, _, _, _, rfl, _⟩ := h; rfl) | (obtain ⟨_, _, _, _, _, _, _, _, rfl, _⟩ := h; rfl) | (obtain ⟨_, _, _, _, _, _, _, _, _, rfl, _⟩ := h; rfl) | (obtain ⟨_, _, _, _, _, _, _, _, _, _, rfl, _⟩ := h; rfl) | (obtain ⟨_, _, _, _, _, _, _, _, _, _, _, rfl, _⟩ := h; rfl)) fun f cdv A outer s H E hr => ⟨_, w__law_whole T (hu_of hr) , fun ds M Q E h => by
  obtain ⟨x, rfl, hk, q⟩ := h
  rw [show startD N__law_whole [x] = [some (x)] from rfl]
  cases x with
  | ref a => obtain ⟨xs, e⟩ := hk; exact ⟨xs, e, dr q⟩
  | ty n => exact hk.elim
  | bl b => exact dr q
  | _ => exact dr q⟩
theorem ball_x1 {g : Lane} {r : Row} {p : Int} (h1 : 0 < r.extra) (h2 : r.extra = 1) : g.ball r p = (⟨r.done + 1, 0, g.pins, r.far, 0, 0, r.total + p * r.near⟩, true) := by
  unfold Lane.ball Lane.extra; rw [if_pos h1, if_pos h2]
theorem ball_x2 {g : Lane} {r : Row} {p : Int} (h1 : 0 < r.extra) (h2 : ¬ r.extra = 1) : g.ball r p = (⟨r.done, 0, if r.up - p = 0 then g.pins else r.up - p, r.far, 0, r.extra - 1, r.total + p * r.near⟩, false) := by
  unfold Lane.ball Lane.extra; rw [if_pos h1, if_neg h2]
theorem ball_0 {g : Lane} {r : Row} {p : Int} (h1 : ¬ 0 < r.extra) (h2 : ¬ r.up = p) (h3 : r.ball = 0) : g.ball r p = (⟨r.done, 1, r.up - p, r.far, 0, 0, r.total + p * r.near + p⟩, false) := by
  unfold Lane.ball; rw [if_neg h1, if_neg (fun z => h2 z.1), if_neg h2, if_neg (by omega), h3]; rfl
theorem ball_1 {g : Lane} {r : Row} {p : Int} (h1 : ¬ 0 < r.extra) (h2 : ¬ r.up = p) (h3 : r.ball = 1) : g.ball r p = (⟨r.done + 1, 0, g.pins, r.far, 0, 0, r.total + p * r.near + p⟩, true) := by
  unfold Lane.ball Lane.frame; rw [if_neg h1, if_neg (fun z => h2 z.1), if_neg h2, if_pos h3, if_neg (fun z => by have := z.2; omega)]
theorem ball_e {g : Lane} {r : Row} {p : Int} {v : Int} (h1 : ¬ 0 < r.extra) (h2 : r.up = p) (h3 : r.ball = 0 ∧ v = 2 ∨ r.ball = 1 ∧ v = 1) : g.ball r p = if r.done + 1 = g.frames then (⟨r.done, 0, g.pins, r.far + 1, if v = 2 then 1 else 0, v, r.total + p * r.near + p⟩, false) else (⟨r.done + 1, 0, g.pins, r.far + 1, if v = 2 then 1 else 0, 0, r.total + p * r.near + p⟩, true) := by
  unfold Lane.ball Lane.frame
  rw [if_neg h1]
  rcases h3 with ⟨h3, rfl⟩ | ⟨h3, rfl⟩
  · rw [if_pos ⟨h2, h3⟩]
    by_cases z : r.done + 1 = g.frames
    · rw [if_pos ⟨by show r.done = g.frames - 1; omega, by decide⟩, if_pos z]; rfl
    · rw [if_neg (fun y => z (by have : r.done = g.frames - 1 := y.1; omega)), if_neg z]; rfl
  · rw [if_neg (fun z => by have := z.2; omega), if_pos h2]
    by_cases z : r.done + 1 = g.frames
    · rw [if_pos ⟨by show r.done = g.frames - 1; omega, by decide⟩, if_pos z]; rfl
    · rw [if_neg (fun y => z (by have : r.done = g.frames - 1 := y.1; omega)), if_neg z]; rfl
def sp_ball : DSp := fun ds M Q _ => ∃ (g : Lane) (r : Row) (p : Int), ds = [r.d, .int g.pins, .int g.frames, .int p] ∧ g.Ok ∧ r.Fine g ∧ (0 ≤ p ∧ p ≤ r.up) ∧ Q (rb (g.ball r p)) M
theorem ok__law_ball (T : Tx K mg)  : Ok P w K mg base .no (1) "_law_ball" ["_law_one", "_law_pins", "_law_frames", "_law_fell"] (sp_ball) :=
  ok_no T.d__law_ball T.g__law_ball sc__law_ball (fun _ _ _ _ _ _ us hl => match us, hl with | [_, _, _, _], _ => rfl) (fun ds M Q E h => by first | (obtain ⟨_, rfl, _⟩ := h; rfl) | (obtain ⟨_, _, rfl, _⟩ := h; rfl) | (obtain ⟨_, _, _, rfl, _⟩ := h; rfl) | (obtain ⟨_, _, _, _, rfl, _⟩ := h; rfl) | (obtain ⟨_, _, _, _, _, rfl, _⟩ := h; rfl) | (obtain ⟨_, _, _, _, _, _, rfl, _⟩ := h; rfl) | (obtain ⟨_, _, _, _, _, _, _, rfl, _⟩ := h; rfl) | (obtain ⟨_, _, _, _, _, _, _, _, rfl, _⟩ := h; rfl) | (obtain ⟨_, _, _, _, _, _, _, _, _, rfl, _⟩ := h; rfl) | (obtain ⟨_, _, _, _, _, _, _, _, _, _, rfl, _⟩ := h; rfl) | (obtain ⟨_, _, _, _, _, _, _, _, _, _, _, rfl, _⟩ := h; rfl)) fun f cdv A outer s H E hr => ⟨_, w__law_ball T (hu_of hr) , fun ds M Q E h => by
  obtain ⟨g, r, p, rfl, o, ft, hp, q⟩ := h
  rw [show startD N__law_ball [r.d, .int g.pins, .int g.frames, .int p] = [some (r.d), some (.int g.pins), some (.int g.frames), some (.int p), none, none, none, none, none, none, none, none] from rfl]
  have fu := ft.u; have fe := ft.e; have fb := ft.b; have p2 := o.p2
  have tot : ∀ b : Bool, (b = decide (r.extra = 0)) → r.total + p * (r.near + (if b = true then 1 else 0)) = if 0 < r.extra then r.total + p * r.near else r.total + p * r.near + p := fun b hb => by
    by_cases h1 : 0 < r.extra
    · rw [hb, if_pos h1, decide_eq_false (by omega), if_neg (by decide)]; simp
    · rw [hb, if_neg h1, decide_eq_true (by omega), if_pos rfl, Int.mul_add, Int.mul_one]; omega
  have eT := tot _ rfl
  refine ⟨rfl, ?_⟩
  simp only [List.set_cons_zero, List.set_cons_succ]
  refine ⟨?_⟩
  conv => whnf
  refine ⟨.inl ⟨by omega, by omega⟩, ?_⟩
  simp only [List.set_cons_zero, List.set_cons_succ]
  refine br_p (fun h1 => ⟨br_p (fun h2 => drQ q ?_) fun h2 => ?_⟩) fun h1 => ?_
  · rw [if_pos h1] at eT
    rw [ball_x1 h1 h2]; simp only [rb, Row.d]; rw [eT]
  · rw [if_pos h1] at eT
    rw [ball_x2 h1 h2] at q
    refine br_p (fun h3 => drQ q ?_) (fun h3 => drQ q ?_)
    · simp only [rb, Row.d]; rw [eT, if_neg (by omega)]
    · simp only [rb, Row.d]; rw [eT, if_pos (by omega)]
  · rw [if_neg h1] at eT
    have earned : ∀ v : Int, (r.ball = 0 ∧ v = 2 ∨ r.ball = 1 ∧ v = 1) → r.up = p → True := fun _ _ _ => True.intro
    refine br_p (fun h2 => ⟨br_p (fun h3 => drQ q ?_) fun h3 => ?_⟩) fun h2 => ?_
    · rw [ball_0 h1 (by omega) h3]; simp only [rb, Row.d]; rw [eT]
    · simp only [List.set_cons_zero, List.set_cons_succ]
      rw [ball_1 h1 (by omega) (by omega)] at q
      refine ⟨br_n (by omega) ⟨?_⟩⟩
      refine ⟨br_p (fun h4 => ?_) (fun h4 => drQ q ?_)⟩
      · conv => whnf
        refine drQ q ?_
        simp only [rb, Row.d]
        rw [eT]
        simp
      · simp only [rb, Row.d]
        rw [eT]
        simp
    · simp only [List.set_cons_zero, List.set_cons_succ]
      refine ⟨br_y (by omega) ?_⟩
      rcases fb with fb | fb
      · rw [ball_e (v := 2) h1 (by omega) (.inl ⟨fb, rfl⟩)] at q
        rw [fb]
        refine ⟨?_⟩
        refine ⟨br_p (fun h4 => ?_) (fun h4 => drQ q ?_)⟩
        · conv => whnf
          refine drQ q ?_
          rw [if_pos h4]; simp only [rb, Row.d]
          rw [eT]
          simp
        · rw [if_neg h4]; simp only [rb, Row.d]
          rw [eT]
          simp
      · rw [ball_e (v := 1) h1 (by omega) (.inr ⟨fb, rfl⟩)] at q
        rw [fb]
        refine ⟨?_⟩
        refine ⟨br_p (fun h4 => ?_) (fun h4 => drQ q ?_)⟩
        · conv => whnf
          refine drQ q ?_
          rw [if_pos h4]; simp only [rb, Row.d]
          rw [eT]
          simp
        · rw [if_neg h4]; simp only [rb, Row.d]
          rw [eT]
          simp⟩
end
end Tal
set_option maxHeartbeats 400000
/-! the law's reading of a lane -/
namespace Tal
open PySem PySem.Spec PyProof.Rows L2
theorem ixN_at {n j : Nat} (hj : j < n) : ixN n (j : Int) = some j := by
  unfold ixN
  rw [if_pos (by omega), if_pos (by omega)]
  simp
def readD (y : Nat × Sta) : D := .tup [.int (y.1 : Nat), y.2.st.d, winD y.2.win]
def allDone (g : Lane) (s : LSt) : Bool := s.rows.all fun r => decide (r.done = g.frames)
def stL (g : Lane) (s : LSt) : Sta := ⟨.ln s, if allDone g s = true then some ((bestOf s.rows).map fun (k : Nat) => (k : Int)) else none⟩
structure LnAt (g : Lane) (xs : List D) (k : Nat) (s : LSt) : Prop where
  ft : s.Fit g
  fn : ∀ r ∈ s.rows, r.Fine g
  le : ∀ r ∈ s.rows, r.done ≤ g.frames
  dn : allDone g s = false → Done g s
  rd : rd (.lane g) (Game.lane g).first (xs.take k) = (k, stL g s)
theorem lnAt_0 {g : Lane} {xs : List D} (o : g.Ok) : LnAt g xs 0 g.begun := by
  have f := first_fit (g := .lane g) o
  obtain ⟨f1, f2, f3⟩ := f
  have o1 := o.s1; have o2 := o.f1
  have hd : ∀ r ∈ g.begun.rows, r.done = 0 := fun r hr => by rw [List.eq_of_mem_replicate hr]
  have ha : allDone g g.begun = false := by
    cases h : allDone g g.begun with
    | false => rfl
    | true =>
      have := List.all_eq_true.mp h (g.begun.rows.getD 0 row0) (rows_mem (by show 0 < (List.replicate _ _).length; rw [List.length_replicate]; omega))
      have z := hd _ (rows_mem (l := g.begun.rows) (k := 0) (by show 0 < (List.replicate _ _).length; rw [List.length_replicate]; omega))
      have := of_decide_eq_true this
      omega
  refine ⟨f1, f2, fun r hr => by rw [hd r hr]; omega, fun _ => f3 rfl, ?_⟩
  unfold stL
  rw [ha]; rfl
theorem lnAt_next {g : Lane} {xs : List D} {k : Nat} {s : LSt} {x : D} {p : Int} (o : g.Ok) (h : LnAt g xs k s) (ha : allDone g s = false) (hx : xs[k]? = some x) (hp : pinsOf (s.rows.getD s.side row0).up x = some p) (hp2 : 0 ≤ p ∧ p ≤ (s.rows.getD s.side row0).up) : LnAt g xs (k + 1) (g.bowl s p).1 := by
  obtain ⟨b1, b2, b3, b4⟩ := bowl_ok o h.ft h.fn (h.dn ha) hp2
  refine ⟨b1, b2, b4, b3, ?_⟩
  have e : (rd (.lane g) (Game.lane g).first (xs.take k)).1 = k := by rw [h.rd]
  refine (rd_next e hx).1 (stL g (g.bowl s p).1) ?_
  rw [h.rd]
  show step (.lane g) (stL g s) x = _
  unfold stL
  rw [ha, if_neg (by decide), step_l, hp]
  rfl
/-- the reading ends here -/
theorem lnAt_stop {g : Lane} {xs : List D} {k : Nat} {s : LSt} (h : LnAt g xs k s) (hk : k ≤ xs.length) (he : k = xs.length ∨ allDone g s = true ∨ ∃ x, xs[k]? = some x ∧ pinsOf (s.rows.getD s.side row0).up x = none) : rd (.lane g) (Game.lane g).first xs = (k, stL g s) := by
  by_cases e : k = xs.length
  · have := h.rd
    rw [e, List.take_length] at this
    rw [this, e]
  · have hx : xs[k]? = some xs[k] := List.getElem?_eq_getElem (by omega)
    have e1 : (rd (.lane g) (Game.lane g).first (xs.take k)).1 = k := by rw [h.rd]
    have := (rd_next e1 hx).2 (by
      rw [h.rd]
      show step (.lane g) (stL g s) _ = none
      unfold stL
      cases ha : allDone g s with
      | true => rfl
      | false =>
        rcases he with he | he | ⟨x, h1, h2⟩
        · exact absurd he e
        · rw [ha] at he; cases he
        · rw [hx] at h1; cases h1
          rw [if_neg (by decide), step_l, h2]; rfl)
    rw [this, h.rd]
theorem min_dec {g : Lane} {s : LSt} {m : Int} (hl : ∀ r ∈ s.rows, r.done ≤ g.frames) (h1 : m ∈ s.rows.map (·.done)) (h2 : ∀ y ∈ s.rows.map (·.done), m ≤ y) : decide (m = g.frames) = allDone g s := by
  cases ha : allDone g s with
  | true =>
    obtain ⟨r, hr, rfl⟩ := List.mem_map.mp h1
    exact List.all_eq_true.mp ha r hr
  | false =>
    refine decide_eq_false fun z => ?_
    have : allDone g s = true := List.all_eq_true.mpr fun r hr => by
      have a := hl r hr
      have b := h2 _ (List.mem_map.mpr ⟨r, hr, rfl⟩)
      exact decide_eq_true (by omega)
    rw [this] at ha; cases ha
section
variable {P : Program} {w : World} {K : PySem.W.Frag} {mg : Str → Option Value} {base : Heap}
def sp_llane : DSp := fun ds M Q _ => ∃ (g : Lane) (row : Addr) (xs : List D), ds = [g.d, .ref row] ∧ g.Ok ∧ M row = some (.lst xs) ∧ xs.length ≤ 900 ∧ (∀ x ∈ xs, Known M x) ∧ Q (readD (rd (.lane g) (Game.lane g).first xs)) M
theorem ok__law_lane (T : Tx K mg)  : Ok P w K mg base .no (2) "_law_lane" ["_law_lane_here", "_law_row"] (sp_llane) :=
  ok_no T.d__law_lane T.g__law_lane sc__law_lane (fun _ _ _ _ _ _ us hl => match us, hl with | [_, _], _ => rfl) (fun ds M Q E h => by first | (obtain ⟨_, rfl, _⟩ := h; rfl) | (obtain ⟨_, _, rfl, _⟩ := h; rfl) | (obtain ⟨_, _, _, rfl, _⟩ := h; rfl) | (obtain ⟨_, _, _, _, rfl, _⟩ := h; rfl) | (obtain ⟨_, _, _, _, _, rfl, _⟩ := h; rfl) | (obtain ⟨_, _, _, _, _, _, rfl, _⟩ := h; rfl) | (obtain ⟨_, _, _, _, _, _, _, rfl, _⟩ := h; rfl) | (obtain ⟨_, _, _, _, _, _, _, _, rfl, _⟩ := h; rfl) | (obtain ⟨_, _, _, _, _, _, _, _, _, rfl, _⟩ := h; rfl) | (obtain ⟨_, _, _, _, _, _, _, _, _, _, rfl, _⟩ := h; rfl) | (obtain ⟨_, _, _, _, _, _, _, _, _, _, _, rfl, _⟩ := h; rfl)) fun f cdv A outer s H E hr => ⟨_, w__law_lane T (hu_of hr) (ok__law_whole T) (hr.mono (by first | decide | omega)) (ok__law_ball T) (hr.mono (by first | decide | omega)), fun ds M Q E h => by
  obtain ⟨g, row, xs, rfl, o, hrow, hx, hk, q⟩ := h
  rw [show startD N__law_lane [g.d, .ref row] = [some (g.d), some (.ref row), none, none, none, none, none, none, none, none, none, none] from rfl]
  have o1 := o.s1; have o3 := o.s3
  refine ⟨rfl, ?_⟩
  simp only [List.set_cons_zero, List.set_cons_succ]
  refine fun p0 np0 => ⟨_, mup_same, by omega, by omega, fun p np => ?_⟩
  simp only [List.set_cons_zero, List.set_cons_succ]
  refine ⟨_, mup_new (mup_new hrow np0) np, _, rfl, by omega, by omega, fun j δ M2 => ∃ (s : LSt) (s7 s8 s9 s10 s11 : Option D), δ = [some g.d, some (.ref row), some (.int (g.sides : Int)), some (.int g.pins), some (.int g.frames), some (.ref p), some (.int (s.side : Int)), s7, s8, s9, s10, s11] ∧ M2 p = some (.lst (rowsD s.rows)) ∧ Le M M2 ∧ LnAt g xs j s ∧ j ≤ xs.length, ?_, ?_, ?_⟩
  · refine ⟨g.begun, none, none, none, none, none, rfl, ?_, (Le.new np0).trans (Le.new np), lnAt_0 o, Nat.zero_le _⟩
    rw [mup_same]
    unfold Lane.begun rowsD
    rw [List.map_replicate]; rfl
  · rintro j δ M2 hj ⟨s, s7, s8, s9, s10, s11, rfl, hp, le2, U, hjk⟩
    refine ⟨p, _, rfl, hp, by rw [rows_len, U.ft.l]; omega, lcD (nums (s.rows.map (·.done))) (by rw [nums_len, List.length_map, rows_len]) (fun p acc k d y R np hi hy hR => ?_) fun p2 np2 => ?_⟩
    · obtain ⟨r, hr1, rfl⟩ : ∃ r, s.rows[k]? = some r ∧ r.d = d := by
        have hi : (rowsD s.rows)[k]? = some d := hi
        unfold rowsD at hi
        rw [List.getElem?_map] at hi
        cases z : s.rows[k]? with
        | none => rw [z] at hi; cases hi
        | some r => rw [z] at hi; cases hi; exact ⟨r, rfl, rfl⟩
      unfold nums at hy
      rw [List.map_map, List.getElem?_map, hr1] at hy
      cases hy
      exact ⟨_, rfl, hR _ (.refl _)⟩
    · refine ⟨p2, s.rows.map (·.done), rfl, mup_same, by rw [List.length_map, U.ft.l]; omega, fun m h1 h2 => ⟨?_⟩⟩
      show br (decide (m = g.frames)) _ _
      rw [min_dec U.le h1 h2]
      have hl3 : s.rows.length = g.sides := U.ft.l
      have hs : s.side < s.rows.length := by rw [hl3]; exact U.ft.k
      have p2p : p ≠ p2 := fun z => by rw [← z, hp] at np2; cases np2
      generalize hM3 : mup M2 p2 (.lst (nums (s.rows.map (·.done)))) = M3
      have l23 : Le M2 M3 := by rw [← hM3]; exact .new np2
      have le3 : Le M M3 := le2.trans l23
      have hp3 := l23 _ _ hp
      have hrow3 := le3 _ _ hrow
      clear hM3 np2 h1 h2 p2p
      cases ha : allDone g s with
      | true =>
        have eR := lnAt_stop U hjk (.inr (.inl ha))
        rw [eR] at q
        unfold stL at q
        rw [ha, if_pos rfl] at q
        conv => whnf
        refine ⟨p, _, rfl, hp3, by rw [rows_len, U.ft.l]; omega, lcD (nums (s.rows.map (·.total))) (by rw [nums_len, List.length_map, rows_len]) (fun p acc k d y R np hi hy hR => ?_) fun p4 np4 => ?_⟩
        · obtain ⟨r, hr1, rfl⟩ : ∃ r, s.rows[k]? = some r ∧ r.d = d := by
            have hi : (rowsD s.rows)[k]? = some d := hi
            unfold rowsD at hi
            rw [List.getElem?_map] at hi
            cases z : s.rows[k]? with
            | none => rw [z] at hi; cases hi
            | some r => rw [z] at hi; cases hi; exact ⟨r, rfl, rfl⟩
          unfold nums at hy
          rw [List.map_map, List.getElem?_map, hr1] at hy
          cases hy
          exact ⟨_, rfl, hR _ (.refl _)⟩
        · refine ⟨p4, s.rows.map (·.total), rfl, mup_same, by rw [List.length_map, U.ft.l]; omega, fun m h1 h2 => ?_⟩
          simp only [List.set_cons_zero, List.set_cons_succ]
          have hp4 : (mup M3 p4 (.lst (nums (s.rows.map (·.total))))) p = some (.lst (rowsD s.rows)) := mup_new hp3 np4
          refine ⟨_, hp4, g.sides, rfl, by omega, lcDT (fun k => (bestF s.rows k).map fun (k : Nat) => D.int k) (fun p2 acc k d R n2 hi hk hR => ?_) (fun p2 acc k d y R n2 hi hk hy hR => ?_) fun p5 np5 => ⟨_, mup_same, ?_⟩⟩
          · have hi : d = .int k := hi
            subst hi
            refine ⟨_, _, mup_new hp4 n2, atI_nat (rows_get (by omega)), _, rfl, ⟨?_⟩⟩
            have z := hR _ (.refl _)
            rw [Option.isSome_map, ← best_dec (by omega) h1 h2] at z
            exact z
          · have hi : d = .int k := hi
            subst hi
            have e : y = .int k := by
              cases z : bestF s.rows k with
              | none => rw [z] at hy; cases hy
              | some k' =>
                rw [z] at hy
                unfold bestF at z
                split at z <;> cases z
                cases hy; rfl
            subst e
            exact hR _ (.refl _)
          · refine drE q ((le3.trans (.new np4)).trans (.new np5)) ?_
            show D.tup [.int j, .tup [.tup (rowsD s.rows), .int s.side], winD (some ((bestOf s.rows).map fun (k : Nat) => (k : Int)))] = _
            have e : winD (some ((bestOf s.rows).map fun (k : Nat) => (k : Int))) = .tup ((List.range g.sides).filterMap fun k => (bestF s.rows k).map fun (k : Nat) => D.int k) := by
              show D.tup (nums ((bestOf s.rows).map fun (k : Nat) => (k : Int))) = _
              unfold nums bestOf
              rw [List.map_map, List.map_filterMap, hl3]
              rfl
            rw [e]
      | false =>
        have stop : (j = xs.length ∨ ∃ x, xs[j]? = some x ∧ pinsOf (s.rows.getD s.side row0).up x = none) → ∀ {P : DEnds}, P.rt = Dr Q → (rRet
                (rTup
                  (rCons (rVar 7)
                    (rCons (rTup (rCons (rCB gTupOf (rCons (rVar 5) rNil)) (rCons (rVar 6) rNil)))
                      (rCons (rC D.non) rNil))))) P [some g.d, some (.ref row), some (.int (g.sides : Int)), some (.int g.pins), some (.int g.frames), some (.ref p), some (.int (s.side : Int)), some (.int (j : Int)), s8, s9, s10, s11] M3 := fun hst P hP => by
          have eR := lnAt_stop U hjk (hst.elim .inl fun z => .inr (.inr z))
          rw [eR] at q
          unfold stL at q
          rw [ha, if_neg (by decide)] at q
          refine ⟨_, hp3, ?_⟩
          show P.rt _ _
          rw [hP]
          exact drE q le3 rfl
        refine ⟨_, hrow3, ⟨?_⟩⟩
        refine br_p (fun h => stop (.inl (by omega)) rfl) fun h => ?_
        have hjx : j < xs.length := by omega
        have hxj : xs[j]? = some xs[j] := List.getElem?_eq_getElem hjx
        have hkn := (hk _ (List.getElem_mem hjx)).le le3
        generalize xs[j] = x at hxj hkn
        refine ⟨_, _, hrow3, atI_nat hxj, x, rfl, hkn, ?_⟩
        cases x with
        | int v =>
          conv => whnf
          refine ⟨_, _, hrow3, atI_nat hxj, br_p (fun h0 => stop (.inr ⟨_, hxj, if_neg (by omega)⟩) rfl) fun h0 => ?_⟩
          refine ⟨_, _, hrow3, atI_nat hxj, _, _, hp3, atI_nat (rows_get hs), _, rfl, br_p (fun h1 => stop (.inr ⟨_, hxj, if_neg (by omega)⟩) rfl) fun h1 => ?_⟩
          have hb : 0 ≤ v ∧ v ≤ (s.rows.getD s.side row0).up := by omega
          have hN := lnAt_next o U ha hxj (if_pos hb) hb
          refine ⟨_, _, hp3, atI_nat (rows_get hs), _, _, hrow3, atI_nat hxj, g, _, v, rfl, o, U.fn _ (rows_mem hs), hb, rfl, ?_⟩
          refine ⟨_, _, _, _, rfl, rfl, hp3, ixN_at (by rw [rows_len]; exact hs), ?_⟩
          have npM : M p = none := by
            cases z : M p with
            | none => rfl
            | some u => rw [mup_new z np0] at np; cases np
          have leF : ∀ o, Le M (mup M3 p o) := fun o' a u e => by
            rw [mup_ne (fun z => by rw [z, npM] at e; cases e)]; exact le3 _ _ e
          have hsd : (((s.side : Int) + (if (g.ball (s.rows.getD s.side row0) v).2 = true then 1 else 0)) % (g.sides : Int)) = ((g.bowl s v).1.side : Int) := by
            show _ = (((if (g.ball (s.rows.getD s.side row0) v).2 = true then (s.side + 1) % g.sides else s.side) : Nat) : Int)
            have := U.ft.k
            by_cases z : (g.ball (s.rows.getD s.side row0) v).2 = true
            · rw [if_pos z, if_pos z, sideMod]
            · rw [if_neg z, if_neg z, Int.add_zero]
              exact Int.emod_eq_of_lt (by omega) (by omega)
          simp only [List.set_cons_zero, List.set_cons_succ]
          refine ⟨by omega, ?_⟩
          rw [hsd]
          refine ⟨(g.bowl s v).1, _, _, _, _, _, rfl, ?_, leF _, hN, by omega⟩
          rw [mup_same, rows_set]; rfl
        | _ => exact stop (.inr ⟨_, hxj, rfl⟩) rfl
  · rintro δ M2 ⟨s, s7, s8, s9, s10, s11, rfl, hp, le2, U, hjk⟩
    omega⟩
end
end Tal
set_option maxHeartbeats 400000
/-! the law's reading of a down -/
namespace Tal
open PySem PySem.Spec PyProof.Rows L2
def Plain (M : Mp) (d : D) : Prop := ∃ p, PyOf M d p ∧ PyData.canLay0 p = true ∧ PyData.depth p ≤ 10
theorem plains {M : Mp} : ∀ {ds : List D}, (∀ d ∈ ds, Plain M d) → ∃ ps, PyOfs M ds ps ∧ PyData.canLayAll0 ps = true ∧ PyData.depthAll ps ≤ 10
  | [], _ => ⟨[], .nil, rfl, Nat.zero_le _⟩
  | d :: ds, h => by
    obtain ⟨p, h1, h2, h3⟩ := h d (List.mem_cons_self ..)
    obtain ⟨ps, g1, g2, g3⟩ := plains (ds := ds) fun x hx => h x (List.mem_cons_of_mem _ hx)
    exact ⟨p :: ps, .cons h1 g1, by unfold PyData.canLayAll0; rw [h2, g2]; rfl, by unfold PyData.depthAll; omega⟩
theorem shaped_lst {ps : List PyData} (h1 : PyData.canLayAll0 ps = true) (h2 : PyData.depthAll ps ≤ 10) : SeqAt.shaped (.list ps) = true := by
  unfold SeqAt.shaped PyData.canLay0 PyData.depth
  rw [h1, decide_eq_true (by omega)]; rfl
theorem gEq_nil {M : Mp} {a b : Addr} {ds : List D} {Q : DQ} (h : M a = some (.lst ds)) (hp : ∀ d ∈ ds, Plain M d) (k : M b = some (.lst [])) (q : Q (.bl ds.isEmpty) M) : GEq (.ref a) (.ref b) M Q := by
  obtain ⟨ps, g1, g2, g3⟩ := plains hp
  refine ⟨_, _, .lst h g1, .lst k .nil, shaped_lst g2 g3, shaped_lst rfl (Nat.zero_le _), ?_⟩
  cases g1 with
  | nil => exact q
  | cons _ _ => exact q
theorem gNe_nil {M : Mp} {a b : Addr} {ds : List D} {Q : DQ} (h : M a = some (.lst ds)) (hp : ∀ d ∈ ds, Plain M d) (k : M b = some (.lst [])) (q : Q (.bl (!ds.isEmpty)) M) : GNe (.ref a) (.ref b) M Q := by
  obtain ⟨ps, g1, g2, g3⟩ := plains hp
  refine ⟨_, _, .lst h g1, .lst k .nil, shaped_lst g2 g3, shaped_lst rfl (Nat.zero_le _), ?_⟩
  cases g1 with
  | nil => exact q
  | cons _ _ => exact q
theorem throw_plain {M : Mp} {t : Throw} (h : Name t.name) : Plain M t.d := by
  refine ⟨.tuple [.str t.name, .int t.worth, .bool t.ends], .tup (.cons (.str _) (.cons (.int _) (.cons (.bl _) .nil))), ?_, ?_⟩
  · simp only [PyData.canLay0, PyData.canLayAll0, h.ok]; rfl
  · simp [PyData.depth, PyData.depthAll]
theorem flat_plain {M : Mp} {x : D} (h : Flat x) : Plain M x := by
  rcases h with ⟨i, rfl⟩ | ⟨z, rfl, hz⟩
  · exact ⟨.int i, .int i, rfl, Nat.zero_le _⟩
  · exact ⟨.str z, .str z, hz, Nat.zero_le _⟩
/-! ### -/
def stD (s : DSt) : Sta := ⟨.dn s, if (0 : Int) ∈ s.counts then some [(s.side : Int)] else none⟩
structure DnAt (g : Down) (xs : List D) (k : Nat) (s : DSt) : Prop where
  ft : s.Fit g
  ps : (0 : Int) ∉ s.counts → (∀ x ∈ s.counts, 0 < x) ∧ 0 < s.held
  rd : rd (.down g) (Game.down g).first (xs.take k) = (k, stD s)
theorem dnAt_0 {g : Down} {xs : List D} (o : g.Ok) : DnAt g xs 0 g.begun := by
  have f := first_fit (g := .down g) o
  obtain ⟨f1, f2⟩ := f
  have h0 : (0 : Int) ∉ g.begun.counts := fun z => by have := (f2 rfl).1 0 z; omega
  refine ⟨f1, fun _ => f2 rfl, ?_⟩
  unfold stD
  rw [if_neg h0]; rfl
theorem play_end {g : Down} {s : DSt} {t : Throw} (ft : s.Fit g) (h : (g.play s t).2 = true) : (0 : Int) ∈ (g.play s t).1.counts ∧ (g.play s t).1.side = s.side := by
  unfold Down.play Down.playL at h ⊢
  by_cases c : s.counts.getD s.side 0 - t.worth = 0 ∧ t.ends = true
  · rw [if_pos c]
    refine ⟨?_, rfl⟩
    exact List.mem_iff_getElem.mpr ⟨s.side, by rw [List.length_set, ft.l]; exact ft.s, by rw [List.getElem_set_self]⟩
  · rw [if_neg c] at h
    split at h
    · cases h
    · split at h <;> cases h
theorem dnAt_next {g : Down} {xs : List D} {k : Nat} {s : DSt} {x : D} {t : Throw} (o : g.Ok) (h : DnAt g xs k s) (h0 : (0 : Int) ∉ s.counts) (hx : xs[k]? = some x) (ht : g.find x = some t) : DnAt g xs (k + 1) (g.play s t).1 := by
  obtain ⟨p1, p2⟩ := play_ok (t := t) o h.ft
  obtain ⟨q1, q2⟩ := h.ps h0
  have e : (rd (.down g) (Game.down g).first (xs.take k)).1 = k := by rw [h.rd]
  have st : step (.down g) (stD s) x = some (downTo (g.play s t)) := by
    unfold stD
    rw [if_neg h0, step_d, ht]; rfl
  have z := (rd_next e hx).1 (downTo (g.play s t)) (by rw [h.rd]; exact st)
  cases hv : (g.play s t).2 with
  | true =>
    obtain ⟨e1, e2⟩ := play_end h.ft hv
    refine ⟨p1, fun n => absurd e1 n, ?_⟩
    rw [z]
    unfold stD downTo
    rw [hv, if_pos rfl, if_pos e1]
  | false =>
    have pp := p2 hv q1 q2
    have n0 : (0 : Int) ∉ (g.play s t).1.counts := fun z => by have := pp.1 0 z; omega
    refine ⟨p1, fun _ => pp, ?_⟩
    rw [z]
    unfold stD downTo
    rw [hv, if_neg n0, if_neg (by decide)]
theorem dnAt_stop {g : Down} {xs : List D} {k : Nat} {s : DSt} (h : DnAt g xs k s) (hk : k ≤ xs.length) (he : k = xs.length ∨ (0 : Int) ∈ s.counts ∨ ∃ x, xs[k]? = some x ∧ g.find x = none) : rd (.down g) (Game.down g).first xs = (k, stD s) := by
  by_cases e : k = xs.length
  · have := h.rd
    rw [e, List.take_length] at this
    rw [this, e]
  · have hx : xs[k]? = some xs[k] := List.getElem?_eq_getElem (by omega)
    have e1 : (rd (.down g) (Game.down g).first (xs.take k)).1 = k := by rw [h.rd]
    have := (rd_next e1 hx).2 (by
      rw [h.rd]
      show step (.down g) (stD s) _ = none
      unfold stD
      by_cases c : (0 : Int) ∈ s.counts
      · rw [if_pos c]; rfl
      · rcases he with he | he | ⟨x, h1, h2⟩
        · exact absurd he e
        · exact absurd he c
        · rw [hx] at h1; cases h1
          rw [if_neg c, step_d, h2]; rfl)
    rw [this, h.rd]
theorem fm_range {α β : Type} (f : α → Option β) : ∀ l : List α, (List.range l.length).filterMap (fun k => (l[k]?).bind f) = l.filterMap f
  | [] => rfl
  | x :: l => by
    rw [List.length_cons, List.range_succ_eq_map, List.filterMap_cons, List.filterMap_map, List.filterMap_cons]
    have := fm_range f l
    cases h : f x with
    | none => simpa [h, Function.comp_def] using this
    | some y => simpa [h, Function.comp_def] using this
def namedD (x : D) (t : Throw) : Option D := if isName t.name x = true then some t.d else none
theorem named_no {x : D} : ∀ {l : List Throw}, (l.find? fun t => isName t.name x) = none → l.filterMap (namedD x) = []
  | [], _ => rfl
  | t :: l, h => by
    rw [List.find?_cons] at h
    cases hb : isName t.name x with
    | true => rw [hb] at h; cases h
    | false =>
      rw [hb] at h
      rw [List.filterMap_cons, namedD, hb, if_neg (by decide)]
      exact named_no h
theorem named_yes {x : D} {u : Throw} : ∀ {l : List Throw}, (l.find? fun t => isName t.name x) = some u → ∃ r, l.filterMap (namedD x) = u.d :: r
  | [], h => by cases h
  | t :: l, h => by
    rw [List.find?_cons] at h
    cases hb : isName t.name x with
    | true =>
      rw [hb] at h
      cases h
      exact ⟨_, by rw [List.filterMap_cons, namedD, hb, if_pos rfl]⟩
    | false =>
      rw [hb] at h
      obtain ⟨r, e⟩ := named_yes h
      exact ⟨r, by rw [List.filterMap_cons, namedD, hb, if_neg (by decide)]; exact e⟩
theorem named_plain {M : Mp} {g : Down} (o : g.Ok) {x d : D} (h : d ∈ g.throws.filterMap (namedD x)) : Plain M d := by
  obtain ⟨t, ht, e⟩ := List.mem_filterMap.mp h
  unfold namedD at e
  split at e
  · cases e; exact throw_plain (o.nm t ht)
  · cases e
section
variable {P : Program} {w : World} {K : PySem.W.Frag} {mg : Str → Option Value} {base : Heap}
def sp_ldown : DSp := fun ds M Q _ => ∃ (g : Down) (row : Addr) (xs : List D), ds = [g.d, .ref row] ∧ g.Ok ∧ M row = some (.lst xs) ∧ xs.length ≤ 900 ∧ (∀ x ∈ xs, Deed M x) ∧ Q (readD (rd (.down g) (Game.down g).first xs)) M
theorem ok__law_down (T : Tx K mg)  : Ok P w K mg base .no (1) "_law_down" ["_law_down_here", "_law_row"] (sp_ldown) :=
  ok_no T.d__law_down T.g__law_down sc__law_down (fun _ _ _ _ _ _ us hl => match us, hl with | [_, _], _ => rfl) (fun ds M Q E h => by first | (obtain ⟨_, rfl, _⟩ := h; rfl) | (obtain ⟨_, _, rfl, _⟩ := h; rfl) | (obtain ⟨_, _, _, rfl, _⟩ := h; rfl) | (obtain ⟨_, _, _, _, rfl, _⟩ := h; rfl) | (obtain ⟨_, _, _, _, _, rfl, _⟩ := h; rfl) | (obtain ⟨_, _, _, _, _, _, rfl, _⟩ := h; rfl) | (obtain ⟨_, _, _, _, _, _, _, rfl, _⟩ := h; rfl) | (obtain ⟨_, _, _, _, _, _, _, _, rfl, _⟩ := h; rfl) | (obtain ⟨_, _, _, _, _, _, _, _, _, rfl, _⟩ := h; rfl) | (obtain ⟨_, _, _, _, _, _, _, _, _, _, rfl, _⟩ := h; rfl) | (obtain ⟨_, _, _, _, _, _, _, _, _, _, _, rfl, _⟩ := h; rfl)) fun f cdv A outer s H E hr => ⟨_, w__law_down T (hu_of hr) , fun ds M Q E h => by
  obtain ⟨g, row, xs, rfl, o, hrow, hx, hk, q⟩ := h
  rw [show startD N__law_down [g.d, .ref row] = [some (g.d), some (.ref row), none, none, none, none, none, none, none, none, none, none, none, none] from rfl]
  have o1 := o.s1; have o3 := o.s3
  refine ⟨rfl, ?_⟩
  simp only [List.set_cons_zero, List.set_cons_succ]
  refine fun p0 np0 => ⟨_, mup_same, by omega, by omega, fun p np => ?_⟩
  simp only [List.set_cons_zero, List.set_cons_succ]
  have npM : M p = none := by
    cases z : M p with
    | none => rfl
    | some u => rw [mup_new z np0] at np; cases np
  refine ⟨_, mup_new (mup_new hrow np0) np, _, rfl, by omega, by omega, fun j δ M2 => ∃ (s : DSt) (s10 s11 s12 s13 : Option D), δ = [some g.d, some (.ref row), some (.int (g.sides : Int)), some (.int g.start), some (.int g.turns), some (.tup (g.throws.map Throw.d)), some (.ref p), some (.int (s.side : Int)), some (.int s.thrown), some (.int s.held), s10, s11, s12, s13] ∧ M2 p = some (.lst (nums s.counts)) ∧ Le M M2 ∧ DnAt g xs j s ∧ j ≤ xs.length, ?_, ?_, ?_⟩
  · refine ⟨g.begun, none, none, none, none, rfl, ?_, (Le.new np0).trans (Le.new np), dnAt_0 o, Nat.zero_le _⟩
    rw [mup_same]
    unfold Down.begun nums
    rw [List.map_replicate]; rfl
  · rintro j δ M2 hj ⟨s, s10, s11, s12, s13, rfl, hp, le2, U, hjk⟩
    have hjx : j < xs.length := by omega
    have hxj : xs[j]? = some xs[j] := List.getElem?_eq_getElem hjx
    have hkn := hk _ (List.getElem_mem hjx)
    generalize xs[j] = x at hxj hkn
    refine ⟨_, rfl, by rw [List.length_map]; have := o.n5; omega, lcDT (fun k => (g.throws[k]?).bind fun t => if isName t.name x = true then some t.d else none) (fun p2 acc k d R n2 hi hk2 hR => ?_) (fun p2 acc k d y R n2 hi hk2 hy hR => ?_) fun p2 np2 => ?_⟩
    · obtain ⟨t, ht, rfl⟩ : ∃ t, g.throws[k]? = some t ∧ t.d = d := by
        have hi : (g.throws.map Throw.d)[k]? = some d := hi
        rw [List.getElem?_map] at hi
        cases z : g.throws[k]? with
        | none => rw [z] at hi; cases hi
        | some t => rw [z] at hi; cases hi; exact ⟨t, rfl, rfl⟩
      refine ⟨_, rfl, _, _, mup_new (le2 _ _ hrow) n2, atI_nat hxj, gEq_name (o.nm t (List.mem_of_getElem? ht)).ok (hkn.le (le2.trans (.new n2))) ?_⟩
      have z := hR _ (.refl _)
      rw [ht] at z
      show R _ _
      cases hb : isName t.name x <;> simp [hb] at z <;> exact z
    · have hi : (g.throws.map Throw.d)[k]? = some d := hi
      rw [List.getElem?_map] at hi
      cases z : g.throws[k]? with
      | none => rw [z] at hi; cases hi
      | some t =>
        rw [z] at hi hy
        cases hi
        rw [Option.bind_some] at hy
        split at hy
        · cases hy; exact hR _ (.refl _)
        · cases hy
    · simp only [List.set_cons_zero, List.set_cons_succ]
      have efl : (List.range (g.throws.map Throw.d).length).filterMap (fun k => (g.throws[k]?).bind fun t => if isName t.name x = true then some t.d else none) = g.throws.filterMap (namedD x) := by
        rw [List.length_map]; exact fm_range (namedD x) g.throws
      rw [efl]
      have l23 : Le M2 (mup M2 p2 (.lst (g.throws.filterMap (namedD x)))) := .new np2
      have hp2 : (mup M2 p2 (.lst (g.throws.filterMap (namedD x)))) p2 = some (.lst (g.throws.filterMap (namedD x))) := mup_same
      generalize mup M2 p2 (.lst (g.throws.filterMap (namedD x))) = M3 at l23 hp2
      have le3 := le2.trans l23
      have hp3 := l23 _ _ hp
      clear efl
      have ret : ((0 : Int) ∈ s.counts ∨ g.find x = none) → ∀ {P : DEnds}, P.rt = Dr Q → ∀ M4, Le M3 M4 → (rRet
        (rTup
          (rCons (rVar 10)
            (rCons
              (rTup (rCons (rCB gTupOf (rCons (rVar 6) rNil)) (rCons (rVar 7) (rCons (rVar 8) (rCons (rVar 9) rNil)))))
              (rCons (rIfE (rB (rOp (fIn false) (rC (D.int 0)) (rVar 6))) (rTup (rCons (rVar 7) rNil)) (rC D.non))
                rNil))))) P [some g.d, some (.ref row), some (.int (g.sides : Int)), some (.int g.start), some (.int g.turns), some (.tup (g.throws.map Throw.d)), some (.ref p), some (.int (s.side : Int)), some (.int s.thrown), some (.int s.held), some (.int (j : Int)), some (.ref p2), s12, s13] M4 := fun hst P hP M4 l4 => by
        have eR := dnAt_stop U hjk (hst.elim (fun z => .inr (.inl z)) fun z => .inr (.inr ⟨x, hxj, z⟩))
        rw [eR] at q
        unfold stD at q
        refine ⟨_, l4 _ _ hp3, .inl ⟨0, s.counts, rfl, .inr ⟨p, rfl, l4 _ _ hp3⟩, ?_⟩⟩
        refine br_p (fun c => ?_) (fun c => ?_)
        · rw [if_pos c] at q
          show P.rt _ _
          rw [hP]; exact drE q (le3.trans l4) rfl
        · rw [if_neg c] at q
          show P.rt _ _
          rw [hP]; exact drE q (le3.trans l4) rfl
      refine .inl ⟨0, s.counts, rfl, .inr ⟨p, rfl, hp3⟩, ?_⟩
      refine br_p (fun c => ret (.inl c) rfl _ (.refl _)) (fun c => ?_)
      refine fun p4 np4 => gEq_nil (mup_new hp2 np4) (fun d hd => named_plain o hd) mup_same ?_
      cases hf : g.find x with
      | none =>
        rw [named_no hf]
        exact ret (.inr hf) rfl _ (.new np4)
      | some t =>
        obtain ⟨r, er⟩ := named_yes hf
        have er : g.throws.filterMap (namedD x) = t.d :: r := er
        have hN := dnAt_next o U c hxj hf
        rw [er] at hp2 ⊢
        have l34 : Le M3 (mup M3 p4 (.lst [])) := .new np4
        generalize mup M3 p4 (.lst []) = M4 at l34
        have hp4 := l34 _ _ hp3
        have hq4 := l34 _ _ hp2
        have le4 := le3.trans l34
        have leF : ∀ o, Le M (mup M4 p o) := fun o' a u e => by
          rw [mup_ne (fun z => by rw [z, npM] at e; cases e)]; exact le4 _ _ e
        have hs : s.side < s.counts.length := by rw [U.ft.l]; exact U.ft.s
        conv => whnf
        have a0 : atI (t.d :: r) 0 = some t.d := atI_nat (k := 0) rfl
        have eP : g.play s t = g.playL s t (s.counts.getD s.side 0 - t.worth) := rfl
        have hix : ixN (nums s.counts).length (s.side : Int) = some s.side := ixN_at (by rw [nums_len]; exact hs)
        have hj1 : j + 1 ≤ xs.length := by omega
        have hgp : ∀ v : Int, (mup M4 p (.lst ((nums s.counts).set s.side (.int v)))) p = some (.lst (nums (s.counts.set s.side v))) := fun v => by rw [mup_same, nums_set]
        have hmd : (s.side + 1) % g.sides < g.sides := Nat.mod_lt _ o1
        have hgt : ∀ v : Int, (nums (s.counts.set s.side v))[(s.side + 1) % g.sides]? = some (.int ((s.counts.set s.side v).getD ((s.side + 1) % g.sides) 0)) := fun v => nums_get (by rw [List.length_set, U.ft.l]; exact hmd)
        refine ⟨_, _, hp4, atI_nat (nums_get hs), _, t.d, hq4, a0, _, rfl, ?_⟩
        generalize hleft : s.counts.getD s.side 0 - t.worth = left at eP
        conv => whnf
        simp only [hleft]
        refine ⟨?_⟩
        conv => whnf
        refine br_p (fun h1 => ⟨_, t.d, hq4, a0, _, rfl, br_by (fun h2 => ?_) fun h2 => ?_⟩) fun h1 => ?_
        · refine ⟨_, _, _, _, rfl, rfl, hp4, hix, (g.play s t).1, some (.int (j : Int)), some (.ref p2), some (.int left), s13, ?_, ?_, leF _, hN, hj1⟩
          · rw [eP, Down.playL, if_pos ⟨h1, h2⟩]; rfl
          · rw [hgp, eP, Down.playL, if_pos ⟨h1, h2⟩]
        all_goals
          have hn : ¬ (left = 0 ∧ t.ends = true) := fun z => by
            first
              | exact h1 z.1
              | (rw [h2] at z; exact absurd z.2 Bool.false_ne_true)
          conv => whnf
          refine br_p (fun h3 => ⟨_, _, _, _, rfl, rfl, hp4, hix, ?_⟩) fun h3 => ⟨_, _, _, _, rfl, rfl, hp4, hix, ?_⟩
          · refine br_n (by omega) ⟨br_p (fun h4 => ?_) fun h4 => ?_⟩
            · refine ⟨by omega, ?_⟩
              rw [sideMod]
              refine ⟨_, _, hgp _, atI_nat (hgt _), (g.play s t).1, some (.int (j : Int)), some (.ref p2), some (.int left), s13, ?_, ?_, leF _, hN, hj1⟩
              · rw [eP, Down.playL, if_neg hn, if_neg (by omega), if_pos h4]; rfl
              · rw [hgp, eP, Down.playL, if_neg hn, if_neg (by omega), if_pos h4]; rfl
            · refine ⟨(g.play s t).1, some (.int (j : Int)), some (.ref p2), some (.int left), s13, ?_, ?_, leF _, hN, hj1⟩
              · rw [eP, Down.playL, if_neg hn, if_neg (by omega), if_neg h4]; rfl
              · rw [hgp, eP, Down.playL, if_neg hn, if_neg (by omega), if_neg h4]
          · refine br_y (by omega) ?_
            refine ⟨by omega, ?_⟩
            rw [sideMod]
            refine ⟨_, _, hgp _, atI_nat (hgt _), (g.play s t).1, some (.int (j : Int)), some (.ref p2), some (.int left), s13, ?_, ?_, leF _, hN, hj1⟩
            · rw [eP, Down.playL, if_neg hn, if_pos (by omega)]; rfl
            · rw [hgp, eP, Down.playL, if_neg hn, if_pos (by omega)]; rfl
  · rintro δ M2 ⟨s, s10, s11, s12, s13, rfl, hp, le2, U, hjk⟩
    have e : ((xs.length : Int)).toNat = xs.length := by omega
    rw [e] at U
    have eR := dnAt_stop U (Nat.le_refl _) (.inl rfl)
    rw [eR] at q
    unfold stD at q
    refine ⟨_, le2 _ _ hrow, _, hp, .inl ⟨0, s.counts, rfl, .inr ⟨p, rfl, hp⟩, ?_⟩⟩
    refine br_p (fun c => ?_) (fun c => ?_)
    · rw [if_pos c] at q
      exact drE q le2 rfl
    · rw [if_neg c] at q
      exact drE q le2 rfl⟩
end
end Tal
set_option maxHeartbeats 400000
/-! the law's reading -/
namespace Tal
open PySem PySem.Spec PyProof.Rows L2
theorem sidesOf_take : ∀ (xs : List D) (ss : List Bool), xs.take ss.length = ss.map sdD → (ss.length = xs.length ∨ ∃ x, xs[ss.length]? = some x ∧ sideOf x = none) → sidesOf xs = ss
  | [], [], _, _ => rfl
  | [], s :: ss, h, _ => by cases h
  | x :: xs, [], _, h => by
    rcases h with h | ⟨y, h1, h2⟩
    · cases h
    · cases h1; exact sidesOf_none h2
  | x :: xs, s :: ss, h, k => by
    rw [List.length_cons, List.take_succ_cons, List.map_cons] at h
    injection h with h1 h2
    have e : sideOf x = some s := by rw [h1]; cases s <;> rfl
    rw [sidesOf_some e, sidesOf_take xs ss h2 (k.imp (fun z => by simpa using z) fun ⟨y, z1, z2⟩ => ⟨y, by simpa using z1, z2⟩)]
section
variable {P : Program} {w : World} {K : PySem.W.Frag} {mg : Str → Option Value} {base : Heap}
def sp_lrally : DSp := fun ds M Q _ => ∃ (r : Rule) (row : Addr) (xs : List D), ds = [r.d, .ref row] ∧ r.W 4 ∧ M row = some (.lst xs) ∧ xs.length ≤ 900 ∧ (∀ x ∈ xs, Known M x) ∧ ∀ M', Le M M' → Q (readD (rd (.rally r) (Game.rally r).first xs)) M'
theorem ok__law_rally (T : Tx K mg)  : Ok P w K mg base .no (7) "_law_rally" ["_law_rule_here", "_law_row"] (sp_lrally) :=
  ok_no T.d__law_rally T.g__law_rally sc__law_rally (fun _ _ _ _ _ _ us hl => match us, hl with | [_, _], _ => rfl) (fun ds M Q E h => by first | (obtain ⟨_, rfl, _⟩ := h; rfl) | (obtain ⟨_, _, rfl, _⟩ := h; rfl) | (obtain ⟨_, _, _, rfl, _⟩ := h; rfl) | (obtain ⟨_, _, _, _, rfl, _⟩ := h; rfl) | (obtain ⟨_, _, _, _, _, rfl, _⟩ := h; rfl) | (obtain ⟨_, _, _, _, _, _, rfl, _⟩ := h; rfl) | (obtain ⟨_, _, _, _, _, _, _, rfl, _⟩ := h; rfl) | (obtain ⟨_, _, _, _, _, _, _, _, rfl, _⟩ := h; rfl) | (obtain ⟨_, _, _, _, _, _, _, _, _, rfl, _⟩ := h; rfl) | (obtain ⟨_, _, _, _, _, _, _, _, _, _, rfl, _⟩ := h; rfl) | (obtain ⟨_, _, _, _, _, _, _, _, _, _, _, rfl, _⟩ := h; rfl)) fun f cdv A outer s H E hr => ⟨_, w__law_rally T (hu_of hr) (ok__law_whole T) (hr.mono (by first | decide | omega)) (ok_lplayed T 4) (hr.mono (by first | decide | omega)), fun ds M Q E h => by
  obtain ⟨r, row, xs, rfl, o, hrow, hx, hk, q⟩ := h
  rw [show startD N__law_rally [r.d, .ref row] = [some (r.d), some (.ref row), none, none, none, none] from rfl]
  refine ⟨fun m δ M2 => M2 = M ∧ ∃ ss : List Bool, ss.length + m = xs.length ∧ xs.take ss.length = ss.map sdD ∧ δ = [some r.d, some (.ref row), some (.int (ss.length : Int)), none, none, none], ⟨xs.length, rfl, [], by simp, rfl, rfl⟩, ?_⟩
  rintro m δ M2 ⟨rfl, ss, hm, hs, rfl⟩
  have stop : sidesOf xs = ss → ∀ {P : DEnds}, P.rt = Dr Q → (rSeq (rAsg (rCall .no (sp_lplayed 4) (rCons (rVar 0) (rCons (rSlD (rVar 1) rNoPart (rPart (rVar 2))) (rCons (rC (.int 0)) (rCons (rLst rNil) rNil))))) (gtD 3 (gsCons (gnD 3) (gsCons (gnD 4) (gsCons (gnD 5) gsNil)))))
    (rRet (rTup (rCons (rVar 5) (rCons (rVar 4) (rCons (rIfE (rB (rOp gIsNot (rVar 3) (rC .non))) (rTup (rCons (rVar 3) rNil)) (rC .non)) rNil)))))) P [some r.d, some (.ref row), some (.int (ss.length : Int)), none, none, none] M2 := fun hss P hP => by
    refine ⟨_, hrow, fun p1 n1 p2 n2 => ?_⟩
    rw [cut_lo (by omega), hs] at n2 ⊢
    have np : p1 ≠ p2 := fun z => by rw [← z, mup_same] at n2; cases n2
    refine ⟨r, p1, p2, ss, 0, [], rfl, by omega, o, Nat.zero_le _, by omega, mup_new mup_same n2, mup_same, np, by simp; omega, fun M' h1 h2 => ⟨rfl, ?_⟩⟩
    simp only [List.set_cons_zero, List.set_cons_succ]
    have le : Le M2 M' := fun a u e => by
      refine h2 a u (fun z => ?_) (mup_new (mup_new e n1) n2)
      rw [z] at e
      rw [mup_new e n1] at n2; cases n2
    have q := q M' le
    rw [show (Game.rally r).first = ⟨.rs r.beg, none⟩ from rfl, rd_rally, hss] at q
    rw [List.drop_zero]
    generalize goR r r.beg ss = y at q
    obtain ⟨ys, yst, yr⟩ := y
    cases ys with
    | none =>
      show P.rt _ _
      rw [hP]; exact drQ q rfl
    | some sd =>
      show P.rt _ _
      rw [hP]; exact drQ q rfl
  refine ⟨_, hrow, ?_⟩
  refine br_p (fun h1 => ?_) (fun h1 => stop (sidesOf_take xs ss hs (.inl (by omega))) rfl)
  have hj : ss.length < xs.length := by omega
  have hxj : xs[ss.length]? = some xs[ss.length] := List.getElem?_eq_getElem hj
  have hkn := hk _ (List.getElem_mem hj)
  generalize xs[ss.length] = x at hxj hkn
  refine ⟨_, _, hrow, atI_nat hxj, x, rfl, hkn, ?_⟩
  cases x with
  | int v =>
    refine ⟨_, _, hrow, atI_nat hxj, .inl ⟨v, [0, 1], rfl, .inl rfl, ?_⟩⟩
    refine br_p (fun h2 => ?_) (fun h2 => stop (sidesOf_take xs ss hs (.inr ⟨_, hxj, ?_⟩)) rfl)
    · obtain ⟨sd, hsd⟩ : ∃ sd, D.int v = sdD sd := by
        simp at h2
        rcases h2 with rfl | rfl
        · exact ⟨false, rfl⟩
        · exact ⟨true, rfl⟩
      refine ⟨m - 1, by omega, rfl, ss ++ [sd], by rw [List.length_append, List.length_singleton]; omega, ?_, ?_⟩
      · rw [List.length_append, List.length_singleton, List.take_succ, hxj, hs, List.map_append, hsd]; rfl
      · rw [List.length_append]; rfl
    · simp at h2
      show (if v = 0 then some false else if v = 1 then some true else none : Option Bool) = none
      rw [if_neg h2.1, if_neg h2.2]
  | _ => exact stop (sidesOf_take xs ss hs (.inr ⟨_, hxj, rfl⟩)) rfl⟩
def sp_lread : DSp := fun ds M Q _ => ∃ (g : Game) (row : Addr) (xs : List D), ds = [g.d, .ref row] ∧ g.Ok ∧ M row = some (.lst xs) ∧ xs.length ≤ 900 ∧ (∀ x ∈ xs, Deed M x) ∧ ∀ M', Le M M' → Q (readD (rd g g.first xs)) M'
theorem ok__law_read (T : Tx K mg)  : Ok P w K mg base .no (8) "_law_read" ["_law_game_here", "_law_row"] (sp_lread) :=
  ok_no T.d__law_read T.g__law_read sc__law_read (fun _ _ _ _ _ _ us hl => match us, hl with | [_, _], _ => rfl) (fun ds M Q E h => by first | (obtain ⟨_, rfl, _⟩ := h; rfl) | (obtain ⟨_, _, rfl, _⟩ := h; rfl) | (obtain ⟨_, _, _, rfl, _⟩ := h; rfl) | (obtain ⟨_, _, _, _, rfl, _⟩ := h; rfl) | (obtain ⟨_, _, _, _, _, rfl, _⟩ := h; rfl) | (obtain ⟨_, _, _, _, _, _, rfl, _⟩ := h; rfl) | (obtain ⟨_, _, _, _, _, _, _, rfl, _⟩ := h; rfl) | (obtain ⟨_, _, _, _, _, _, _, _, rfl, _⟩ := h; rfl) | (obtain ⟨_, _, _, _, _, _, _, _, _, rfl, _⟩ := h; rfl) | (obtain ⟨_, _, _, _, _, _, _, _, _, _, rfl, _⟩ := h; rfl) | (obtain ⟨_, _, _, _, _, _, _, _, _, _, _, rfl, _⟩ := h; rfl)) fun f cdv A outer s H E hr => ⟨_, w__law_read T (hu_of hr) (ok__law_rally T) (hr.mono (by first | decide | omega)) (ok__law_down T) (hr.mono (by first | decide | omega)) (ok__law_lane T) (hr.mono (by first | decide | omega)), fun ds M Q E h => by
  obtain ⟨g, row, xs, rfl, o, hrow, hx, hk, q⟩ := h
  rw [show startD N__law_read [g.d, .ref row] = [some (g.d), some (.ref row)] from rfl]
  have hk' : ∀ x ∈ xs, Known M x := fun x hx => (hk x hx).k
  cases g with
  | rally r => exact ⟨_, rfl, ⟨_, rfl, r, row, xs, rfl, o.1, hrow, hx, hk', fun M' l => dr (q M' l)⟩⟩
  | down g => exact ⟨_, rfl, ⟨_, rfl, ⟨_, rfl, g, row, xs, rfl, o, hrow, hx, hk, dr (q M (.refl M))⟩⟩⟩
  | lane g => exact ⟨_, rfl, ⟨_, rfl, ⟨_, rfl, g, row, xs, rfl, o, hrow, hx, hk', dr (q M (.refl M))⟩⟩⟩⟩
end
end Tal
set_option maxHeartbeats 400000
/-! what is alike -/
namespace Tal
open PySem PySem.Spec PyProof.Rows L2
inductive Same (M : Mp) : Nat → D → D → Prop
  | non (n : Nat) : Same M n .non .non
  | int (n : Nat) (i : Int) : Same M n (.int i) (.int i)
  | str (n : Nat) (z : Str) : PyData.strOk z = true → Same M n (.str z) (.str z)
  | tup (n : Nat) (xs ys : List D) : xs.length = ys.length → ys.length ≤ 1000 → (∀ (i : Nat) x y, xs[i]? = some x → ys[i]? = some y → Same M n x y) → Same M (n + 1) (.tup xs) (.tup ys)
  | lst (n : Nat) (a b : Addr) (xs ys : List D) : M a = some (.lst xs) → M b = some (.lst ys) → xs.length = ys.length → ys.length ≤ 1000 → (∀ (i : Nat) x y, xs[i]? = some x → ys[i]? = some y → Same M n x y) → Same M (n + 1) (.ref a) (.ref b)
theorem Same.le {M M' : Mp} (l : Le M M') {n : Nat} {x y : D} (h : Same M n x y) : Same M' n x y := by
  induction h with
  | non n => exact .non n
  | int n i => exact .int n i
  | str n z h => exact .str n z h
  | tup n xs ys h1 h2 _ ih => exact .tup n xs ys h1 h2 ih
  | lst n a b xs ys e1 e2 h1 h2 _ ih => exact .lst n a b xs ys (l _ _ e1) (l _ _ e2) h1 h2 ih
section
variable {P : Program} {w : World} {K : PySem.W.Frag} {mg : Str → Option Value} {base : Heap}
def sp_alike (n : Nat) : DSp := fun ds M Q _ => ∃ x y, ds = [x, y] ∧ Same M n x y ∧ ∀ M', Le M M' → Q (.bl true) M'
theorem step_alike (T : Tx K mg) {n k : Nat} {sp : DSp} (F : Ok P w K mg base .no (k+1) "_law_alike" ["_law_found", "_law_due_here"] sp) (hsp : ∀ m, n = m + 1 → sp = sp_alike m) : Ok P w K mg base .no (k+2) "_law_alike" ["_law_found", "_law_due_here"] (sp_alike n) :=
  ok_no T.d__law_alike T.g__law_alike sc__law_alike (fun _ _ _ _ _ _ us hl => match us, hl with | [_, _], _ => rfl) (fun ds M Q E h => by first | (obtain ⟨_, rfl, _⟩ := h; rfl) | (obtain ⟨_, _, rfl, _⟩ := h; rfl) | (obtain ⟨_, _, _, rfl, _⟩ := h; rfl) | (obtain ⟨_, _, _, _, rfl, _⟩ := h; rfl) | (obtain ⟨_, _, _, _, _, rfl, _⟩ := h; rfl) | (obtain ⟨_, _, _, _, _, _, rfl, _⟩ := h; rfl) | (obtain ⟨_, _, _, _, _, _, _, rfl, _⟩ := h; rfl) | (obtain ⟨_, _, _, _, _, _, _, _, rfl, _⟩ := h; rfl) | (obtain ⟨_, _, _, _, _, _, _, _, _, rfl, _⟩ := h; rfl) | (obtain ⟨_, _, _, _, _, _, _, _, _, _, rfl, _⟩ := h; rfl) | (obtain ⟨_, _, _, _, _, _, _, _, _, _, _, rfl, _⟩ := h; rfl)) fun f cdv A outer s H E hr => ⟨_, w__law_alike T (hu_of hr) F (hr.mono (by first | decide | omega)) (ok__law_whole T) (hr.mono (by first | decide | omega)), fun ds M Q E h => by
  obtain ⟨x, y, rfl, hs, q⟩ := h
  rw [show startD N__law_alike [x, y] = [some (x), some (y), none] from rfl]
  cases hs with
  | non n => exact ⟨_, .non, dr (q M (.refl M))⟩
  | int n i =>
    refine ⟨_, .int, _, rfl, True.intro, ⟨?_⟩⟩
    show Dr Q (.bl (decide (i = i))) M
    rw [decide_eq_true rfl]
    exact dr (q M (.refl M))
  | str n z hz =>
    refine ⟨_, .str, ⟨?_⟩⟩
    show Dr Q (.bl (decide (z = z))) M
    rw [decide_eq_true rfl]
    exact dr (q M (.refl M))
  | tup m xs ys h1 h2 h3 =>
    rw [hsp m rfl]
    refine ⟨_, .tup, _, .tup, ⟨⟨?_⟩⟩⟩
    rw [h1]
    show br (!decide ((ys.length : Int) = (ys.length : Int))) _ _
    rw [decide_eq_true rfl]
    refine ⟨ys.length, rfl, by omega, lcD (List.replicate ys.length (.bl true)) (by simp) (fun p acc k d y R np hi hy hR => ?_) fun p np => .inr (.inl ⟨false, List.replicate ys.length true, rfl, .inr ⟨p, rfl, by rw [List.map_replicate]; exact mup_same⟩, ?_⟩)⟩
    · have hi : d = .int k := hi
      subst hi
      have hk : k < ys.length := by
        by_cases hk : k < ys.length
        · exact hk
        · rw [List.getElem?_eq_none (by simp; omega)] at hy; cases hy
      have ey : y = .bl true := by
        rw [List.getElem?_replicate, if_pos hk] at hy; cases hy; rfl
      subst ey
      have g1 : xs[k]? = some xs[k] := List.getElem?_eq_getElem (by omega)
      have g2 : ys[k]? = some ys[k] := List.getElem?_eq_getElem hk
      exact ⟨_, atI_nat g1, _, atI_nat g2, _, _, rfl, (h3 k _ _ g1 g2).le (.new np), fun M' l => hR M' l⟩
    · have e : (if true = true then !decide (false ∈ List.replicate ys.length true) else decide (false ∈ List.replicate ys.length true)) = true := by
        rw [if_pos rfl, decide_eq_false (fun z => by cases List.eq_of_mem_replicate z)]; rfl
      rw [e]
      exact dr (q _ (.new np))
  | lst m a b xs ys e1 e2 h1 h2 h3 =>
    rw [hsp m rfl]
    refine ⟨_, .lst e2, _, .lst e1, _, e1, _, e2, ⟨_, e1, _, e2, ⟨?_⟩⟩⟩
    rw [h1]
    show br (!decide ((ys.length : Int) = (ys.length : Int))) _ _
    rw [decide_eq_true rfl]
    refine ⟨_, e2, ys.length, rfl, by omega, lcD (List.replicate ys.length (.bl true)) (by simp) (fun p acc k d y R np hi hy hR => ?_) fun p np => .inr (.inl ⟨false, List.replicate ys.length true, rfl, .inr ⟨p, rfl, by rw [List.map_replicate]; exact mup_same⟩, ?_⟩)⟩
    · have hi : d = .int k := hi
      subst hi
      have hk : k < ys.length := by
        by_cases hk : k < ys.length
        · exact hk
        · rw [List.getElem?_eq_none (by simp; omega)] at hy; cases hy
      have ey : y = .bl true := by
        rw [List.getElem?_replicate, if_pos hk] at hy; cases hy; rfl
      subst ey
      have g1 : xs[k]? = some xs[k] := List.getElem?_eq_getElem (by omega)
      have g2 : ys[k]? = some ys[k] := List.getElem?_eq_getElem hk
      exact ⟨_, _, mup_new e1 np, atI_nat g1, _, _, mup_new e2 np, atI_nat g2, _, _, rfl, (h3 k _ _ g1 g2).le (.new np), fun M' l => hR M' l⟩
    · have e : (if true = true then !decide (false ∈ List.replicate ys.length true) else decide (false ∈ List.replicate ys.length true)) = true := by
        rw [if_pos rfl, decide_eq_false (fun z => by cases List.eq_of_mem_replicate z)]; rfl
      rw [e]
      exact dr (q _ (.new np))⟩
theorem ok_alike (T : Tx K mg) : ∀ n, Ok P w K mg base .no (n + 2) "_law_alike" ["_law_found", "_law_due_here"] (sp_alike n)
  | 0 => step_alike (k := 0) (sp := spNo) T (okF T.d__law_alike T.g__law_alike sc__law_alike (fun _ _ _ _ _ _ us hl => match us, hl with | [_, _], _ => rfl)) fun m z => by cases z
  | n + 1 => step_alike (k := n + 1) T (ok_alike T n) fun m z => by cases z; rfl
end
end Tal
set_option maxHeartbeats 400000
/-! what is due -/
namespace Tal
open PySem PySem.Spec PyProof.Rows L2
inductive Way where
  | add | back | right | ins | out
def Way.s : Way → Str
  | .add => "add"
  | .back => "back"
  | .right => "right"
  | .ins => "in"
  | .out => "out"
inductive Out where
  | told (d : D) | refused (n : Nat) | falls (n : Nat)
def Out.d : Out → D
  | .told d => .tup [.str "told", d]
  | .refused n => .tup [.str "refused", .int n]
  | .falls n => .tup [.str "falls", .int n]
def kindN : Game → Nat
  | .rally _ => 1
  | .down _ => 2
  | .lane _ => 3
def clsN : Nat → Str
  | 0 => "Over"
  | 1 => "NoSide"
  | 2 => "NoThrow"
  | 3 => "NoPins"
  | _ => "NoDeed"
def freshRow (w : Way) (n : Int) (xs : List D) (d : D) : List D := match w with
  | .right => xs.take (n.toNat - 1) ++ [d] ++ xs.drop n.toNat
  | .ins => xs.take (n.toNat - 1) ++ [d] ++ xs.drop (n.toNat - 1)
  | _ => xs.take (n.toNat - 1) ++ xs.drop n.toNat
def dueAt (g : Game) (xs ys : List D) (m n : Int) : Out × List D :=
  if 1 ≤ n ∧ n ≤ m then (if (rd g g.first ys).1 < ys.length then (.falls ((rd g g.first ys).1 + 1), xs) else (.told .non, ys)) else (.refused 4, xs)
def dueAdd (g : Game) (xs : List D) (d : D) : Out × List D := match (rd g g.first xs).2.win with
  | some _ => (.refused 0, xs)
  | none => match step g (rd g g.first xs).2 d with
    | some _ => (.told (.int (xs.length + 1 : Nat)), xs ++ [d])
    | none => (.refused (kindN g), xs)
def dueBack (xs : List D) : Out × List D := match xs[xs.length - 1]? with
  | some x => (.told x, xs.dropLast)
  | none => (.refused 4, xs)
def due (g : Game) (xs : List D) (w : Way) (n : Int) (d : D) : Out × List D := match w with
  | .add => dueAdd g xs d
  | .back => dueBack xs
  | .right => dueAt g xs (freshRow .right n xs d) xs.length n
  | .ins => dueAt g xs (freshRow .ins n xs d) (xs.length + 1) n
  | .out => dueAt g xs (freshRow .out n xs d) xs.length n
theorem refuse_cls {g : Game} {S : Sta} : refuse g S = clsN (match S.win with
  | some _ => 0
  | none => kindN g) := by
  obtain ⟨s, w⟩ := S
  cases w <;> cases g <;> rfl
theorem step_over {g : Game} {S S' : Sta} {x : D} (h : step g S x = some S') : S.win = none := by
  obtain ⟨s, w⟩ := S
  cases w with
  | none => rfl
  | some l => cases g <;> cases s <;> cases h
section
variable {P : Program} {w : World} {K : PySem.W.Frag} {mg : Str → Option Value} {base : Heap}
def sp_done (K : PySem.W.Frag) : DSp := fun ds M Q E => ∃ (p : Addr) (wy : Way) (n : Int) (d : D) (g : Game) (xs : List D) (L : List Addr), ds = [.ref p, .str wy.s, .int n, d] ∧ Bk K M p g xs L ∧ Deed M d ∧ xs.length ≤ 800 ∧
  (∀ v ys, due g xs wy n d = (.told v, ys) → ∀ M' L', Bk K M' p g ys L' → Fr L M M' L' → Q v M') ∧ (∀ k ys, due g xs wy n d = (.refused k, ys) → E ⟨He.ga K (clsN k), none⟩ M) ∧ ∀ k ys, due g xs wy n d = (.falls k, ys) → E ⟨He.ga K "Falls", some (k : Int)⟩ M
theorem new_due {M : Mp} {p : Addr} {g : Game} {xs ys : List D} {L : List Addr} {m n : Int} {Q : DQ} {E : Exn → Mp → Prop} (hn : 1 ≤ n ∧ n ≤ m) (q : ∀ v zs, dueAt g xs ys m n = (.told v, zs) → ∀ M' L', Bk K M' p g zs L' → Fr L M M' L' → Q v M') (e : ∀ k zs, dueAt g xs ys m n = (.falls k, zs) → E ⟨He.ga K "Falls", some (k : Int)⟩ M) : newRow K M p g L ys (Dr Q) (fun x M1 => E x M1) := by
  unfold dueAt at q e
  rw [if_pos hn] at q e
  refine ⟨fun hf M' L' B F => ?_, fun hf => ?_⟩
  · rw [if_neg (by omega)] at q
    exact dr (q _ _ rfl M' L' B F)
  · rw [if_pos hf] at e
    exact e _ _ rfl
theorem ok__law_done (T : Tx K mg)  : Ok P w K mg base .any (15) "_law_done" ["_law_book", "_law_way", "_law_at", "_law_deed_here"] (sp_done K) :=
  ok_any T.d__law_done T.g__law_done sc__law_done (fun _ _ _ _ _ _ us hl => match us, hl with | [_, _, _, _], _ => rfl) (fun ds M Q E h => by first | (obtain ⟨_, rfl, _⟩ := h; rfl) | (obtain ⟨_, _, rfl, _⟩ := h; rfl) | (obtain ⟨_, _, _, rfl, _⟩ := h; rfl) | (obtain ⟨_, _, _, _, rfl, _⟩ := h; rfl) | (obtain ⟨_, _, _, _, _, rfl, _⟩ := h; rfl) | (obtain ⟨_, _, _, _, _, _, rfl, _⟩ := h; rfl) | (obtain ⟨_, _, _, _, _, _, _, rfl, _⟩ := h; rfl) | (obtain ⟨_, _, _, _, _, _, _, _, rfl, _⟩ := h; rfl) | (obtain ⟨_, _, _, _, _, _, _, _, _, rfl, _⟩ := h; rfl) | (obtain ⟨_, _, _, _, _, _, _, _, _, _, rfl, _⟩ := h; rfl) | (obtain ⟨_, _, _, _, _, _, _, _, _, _, _, rfl, _⟩ := h; rfl)) fun f cdv A outer s H E hr => ⟨_, w__law_done T (hu_of hr) (ok_Book_add T) (hr.mono (by first | decide | omega)) (ok_Book_back T) (hr.mono (by first | decide | omega)) (ok_Book_put_right T) (hr.mono (by first | decide | omega)) (ok_Book_put_in T) (hr.mono (by first | decide | omega)) (ok_Book_leave_out T) (hr.mono (by first | decide | omega)), fun ds M Q E h => by
  obtain ⟨p, wy, n, d, g, xs, L, rfl, B, hd, hl, q, e1, e2⟩ := h
  rw [show startD N__law_done [.ref p, .str wy.s, .int n, d] = [some (.ref p), some (.str wy.s), some (.int n), some (d)] from rfl]
  obtain ⟨dx, a, b, hL, h1, h2, h3, h4⟩ := B.ex
  cases wy with
  | add =>
    refine ⟨p, _, _, rfl, h1, nin3 (by decide), p, d, g, xs, L, rfl, B, hd, by omega, fun S' hS M' L' B' F' => ?_, fun hn => ?_⟩
    · refine dr (q _ _ ?_ M' L' B' F')
      show dueAdd g xs d = _
      unfold dueAdd
      rw [step_over hS, hS]
    · refine ⟨.inl rfl, M, .refl M, ?_⟩
      rw [refuse_cls]
      refine e1 _ xs ?_
      show dueAdd g xs d = _
      unfold dueAdd
      cases (rd g g.first xs).2.win with
      | some l => rfl
      | none => rw [hn]
  | back =>
    refine ⟨p, _, _, rfl, h1, nin3 (by decide), p, g, xs, L, rfl, B, by omega, fun x hx M' L' B' F' => ?_, fun hn => ?_⟩
    · refine dr (q _ _ ?_ M' L' B' F')
      show dueBack xs = _
      unfold dueBack
      rw [hx]
    · refine ⟨.inl rfl, M, .refl M, e1 4 xs ?_⟩
      show dueBack xs = _
      rw [hn]; rfl
  | right =>
    refine ⟨p, _, _, rfl, h1, nin3 (by decide), p, n, d, g, xs, L, rfl, B, hd, hl, fun hn => ?_, fun hn => ?_⟩
    · refine ⟨.inl rfl, M, .refl M, e1 4 xs ?_⟩
      show dueAt _ _ _ _ _ = _
      unfold dueAt
      rw [if_neg hn]
    · have z := new_due (K := K) hn q e2
      exact ⟨z.1, fun hf => ⟨.inl rfl, M, .refl M, z.2 hf⟩⟩
  | ins =>
    refine ⟨p, _, _, rfl, h1, nin3 (by decide), p, n, d, g, xs, L, rfl, B, hd, hl, fun hn => ?_, fun hn => ?_⟩
    · refine ⟨.inl rfl, M, .refl M, e1 4 xs ?_⟩
      show dueAt _ _ _ _ _ = _
      unfold dueAt
      rw [if_neg hn]
    · have z := new_due (K := K) hn q e2
      exact ⟨z.1, fun hf => ⟨.inl rfl, M, .refl M, z.2 hf⟩⟩
  | out =>
    refine ⟨p, _, _, rfl, h1, nin3 (by decide), p, n, g, xs, L, rfl, B, hl, fun hn => ?_, fun hn => ?_⟩
    · refine ⟨.inl rfl, M, .refl M, e1 4 xs ?_⟩
      show dueAt _ _ _ _ _ = _
      unfold dueAt
      rw [if_neg hn]
    · have z := new_due (K := K) hn q e2
      exact ⟨z.1, fun hf => ⟨.inl rfl, M, .refl M, z.2 hf⟩⟩⟩
end
end Tal
set_option maxHeartbeats 400000
/-! what is done is what is due -/
namespace Tal
open PySem PySem.Spec PyProof.Rows L2
theorem Fr.le {L : List Addr} {M M' : Mp} (l : Le M M') : Fr L M M' L := ⟨fun c _ o h => l c o h, fun c h => .inl h⟩
section
variable {P : Program} {w : World} {K : PySem.W.Frag} {mg : Str → Option Value} {base : Heap}
def restTried (K : PySem.W.Frag) : RS := (rSeq (rIfS (rB (rOp gIs (rVar 5) (rC .non))) (rRet (rTup (rCons (rC (.str "told")) (rCons (rVar 4) rNil)))) rNext)
    (rSeq (rSet 7 (rLst (rCons (rCB (fIsXA K) (rCons (rVar 5) (rCons (rC (.ref (He.ga K "Over"))) rNil))) (rCons (rCB (fIsXA K) (rCons (rVar 5) (rCons (rC (.ref (He.ga K "NoSide"))) rNil))) (rCons (rCB (fIsXA K) (rCons (rVar 5) (rCons (rC (.ref (He.ga K "NoThrow"))) rNil))) rNil)))))
    (rSeq (rDrop (rBM "list" fExtend (rVar 7) (rCons (rLst (rCons (rCB (fIsXA K) (rCons (rVar 5) (rCons (rC (.ref (He.ga K "NoPins"))) rNil))) (rCons (rCB (fIsXA K) (rCons (rVar 5) (rCons (rC (.ref (He.ga K "NoDeed"))) rNil))) (rCons (rCB (fIsXA K) (rCons (rVar 5) (rCons (rC (.ref (He.ga K "Falls"))) rNil))) rNil)))) rNil)))
    (rSeq (rIfS (rOr (rB (rOp GNe (rBM "list" fCountB (rVar 7) (rCons (rC (.bl true)) rNil)) (rC (.int 1)))) (rNot (rB (rCB (fIsXA K) (rCons (rVar 5) (rCons (rC (.ty "ValueError")) rNil)))))) (rRet (rTup (rCons (rC (.str "several")) (rCons (rC .non) rNil)))) rNext)
    (rSeq (rIfS (rB (rCB (fIsXA K) (rCons (rVar 5) (rCons (rC (.ref (He.ga K "Falls"))) rNil)))) (rRet (rTup (rCons (rC (.str "falls")) (rCons (rAt K (rVar 5)) rNil)))) rNext)
    (rRet (rTup (rCons (rC (.str "refused")) (rCons (rBM "list" fIndexB (rVar 7) (rCons (rC (.bl true)) rNil)) rNil)))))))))
theorem restTried_no {x0 x1 x2 x3 x6 x7 : Option D} {v : D} {Q : DQ} {E : Exn → Mp → Prop} {M : Mp} (q : Q (.tup [.str "told", v]) M) : restTried K (endsD .no Q E) [x0, x1, x2, x3, some v, some .non, x6, x7] M := dr q
/-- the kinds of an exception -/
structure Kinds (K : PySem.W.Frag) (C : Addr) (b0 b1 b2 b3 b4 b5 : Bool) : Prop where
  c : ExcC K C
  v : PySem.W.kitOne K (.ref C) (.type "ValueError") = some true
  k0 : PySem.W.kitOne K (.ref C) (.ref (He.ga K "Over")) = some b0
  k1 : PySem.W.kitOne K (.ref C) (.ref (He.ga K "NoSide")) = some b1
  k2 : PySem.W.kitOne K (.ref C) (.ref (He.ga K "NoThrow")) = some b2
  k3 : PySem.W.kitOne K (.ref C) (.ref (He.ga K "NoPins")) = some b3
  k4 : PySem.W.kitOne K (.ref C) (.ref (He.ga K "NoDeed")) = some b4
  k5 : PySem.W.kitOne K (.ref C) (.ref (He.ga K "Falls")) = some b5
theorem restTried_x {x0 x1 x2 x3 x4 x6 x7 : Option D} {a C : Addr} {num : Option Int} {b0 b1 b2 b3 b4 b5 : Bool} {Q : DQ} {E : Exn → Mp → Prop} {M : Mp} (h : Kinds K C b0 b1 b2 b3 b4 b5) (ha : M a = some (.exc C num)) (h1 : [b0, b1, b2, b3, b4, b5].count true = 1)
    (q5 : b5 = true → XfC K C ∧ PySem.W.findIn K (.ref C) "at" = some none ∧ ∃ i, num = some i ∧ ∀ M', Le M M' → Q (.tup [.str "falls", .int i]) M') (q : b5 = false → ∀ j : Nat, [b0, b1, b2, b3, b4, b5][j]? = some true → (∀ m : Nat, m < j → [b0, b1, b2, b3, b4, b5][m]? ≠ some true) → ∀ M', Le M M' → Q (.tup [.str "refused", .int j]) M') (hex : ∃ j : Nat, [b0, b1, b2, b3, b4, b5][j]? = some true ∧ ∀ m : Nat, m < j → [b0, b1, b2, b3, b4, b5][m]? ≠ some true) :
    restTried K (endsD .no Q E) [x0, x1, x2, x3, x4, some (.ref a), x6, x7] M := by
  refine .inl ⟨a, C, _, num, b0, rfl, ha, h.c, h.k0, .inl ⟨a, C, _, num, b1, rfl, ha, h.c, h.k1, .inl ⟨a, C, _, num, b2, rfl, ha, h.c, h.k2, fun p1 n1 => ?_⟩⟩⟩
  simp only [List.set_cons_zero, List.set_cons_succ]
  have ha1 := mup_new (o := .lst [.bl b0, .bl b1, .bl b2]) ha n1
  refine ⟨rcv_lst mup_same, .inl ⟨a, C, _, num, b3, rfl, ha1, h.c, h.k3, .inl ⟨a, C, _, num, b4, rfl, ha1, h.c, h.k4, .inl ⟨a, C, _, num, b5, rfl, ha1, h.c, h.k5, fun p2 n2 => ?_⟩⟩⟩⟩
  have p12 : p1 ≠ p2 := fun z => by rw [← z, mup_same] at n2; cases n2
  refine ⟨p1, p2, _, _, rfl, rfl, mup_new mup_same n2, mup_same, sz (by show 6 ≤ 100000; omega), ?_⟩
  have n1' : a ≠ p1 := fun z => by rw [z, n1] at ha; cases ha
  have ha3 : ∀ o, (mup (mup (mup M p1 (.lst [.bl b0, .bl b1, .bl b2])) p2 (.lst [.bl b3, .bl b4, .bl b5])) p1 o) a = some (.exc C num) := fun o => by
    rw [mup_ne n1']; exact mup_new ha1 n2
  have le3 : ∀ o, Le M (mup (mup (mup M p1 (.lst [.bl b0, .bl b1, .bl b2])) p2 (.lst [.bl b3, .bl b4, .bl b5])) p1 o) := fun o c u e => by
    rw [mup_ne (fun z => by rw [z, n1] at e; cases e)]
    exact mup_new (mup_new e n1) n2
  refine ⟨rcv_lst mup_same, p1, [b0, b1, b2, b3, b4, b5], true, rfl, rfl, mup_same, ⟨?_⟩⟩
  rw [h1]
  refine .inr ⟨a, C, num, _, true, rfl, ha3 _, h.c, h.v, ?_⟩
  refine .inl ⟨a, C, _, num, b5, rfl, ha3 _, h.c, h.k5, ?_⟩
  cases b5 with
  | true =>
    obtain ⟨q1, q2, i, rfl, q3⟩ := q5 rfl
    exact ⟨a, C, i, rfl, ha3 _, q1, q2, dr (q3 _ (le3 _))⟩
  | false =>
    obtain ⟨j, hj, hm⟩ := hex
    exact ⟨rcv_lst mup_same, p1, _, true, j, rfl, rfl, mup_same, hj, hm, dr (q rfl j hj hm _ (le3 _))⟩
def sp_tried (K : PySem.W.Frag) : DSp := fun ds M Q E => ∃ (p : Addr) (wy : Way) (n : Int) (d : D) (g : Game) (xs : List D) (L : List Addr), ds = [.ref p, .str wy.s, .int n, d] ∧ Bk K M p g xs L ∧ Deed M d ∧ xs.length ≤ 800 ∧
  ∀ o ys, due g xs wy n d = (o, ys) → ∀ M' L', Bk K M' p g ys L' → Fr L M M' L' → Q o.d M'
theorem due_same {g : Game} {xs ys : List D} {w : Way} {n : Int} {d : D} {o : Out} (h : due g xs w n d = (o, ys)) (ho : ∀ v, o ≠ .told v) : ys = xs := by
  cases w with
  | add =>
    have h : dueAdd g xs d = (o, ys) := h
    unfold dueAdd at h
    split at h
    · cases h; rfl
    · split at h
      · cases h; exact absurd rfl (ho _)
      · cases h; rfl
  | back =>
    have h : dueBack xs = (o, ys) := h
    unfold dueBack at h
    split at h
    · cases h; exact absurd rfl (ho _)
    · cases h; rfl
  | _ =>
    have h : dueAt _ _ _ _ _ = (o, ys) := h
    unfold dueAt at h
    split at h
    · split at h
      · cases h; rfl
      · cases h; exact absurd rfl (ho _)
    · cases h; rfl
theorem due_cls {g : Game} {xs ys : List D} {w : Way} {n : Int} {d : D} {k : Nat} (h : due g xs w n d = (.refused k, ys)) : k = 0 ∨ k = 1 ∨ k = 2 ∨ k = 3 ∨ k = 4 := by
  cases w with
  | add =>
    have h : dueAdd g xs d = (.refused k, ys) := h
    unfold dueAdd at h
    split at h
    · cases h; simp
    · split at h
      · cases h
      · cases h; cases g <;> simp [kindN]
  | back =>
    have h : dueBack xs = (.refused k, ys) := h
    unfold dueBack at h
    split at h <;> cases h
    simp
  | _ =>
    have h : dueAt _ _ _ _ _ = (.refused k, ys) := h
    unfold dueAt at h
    split at h
    · split at h <;> cases h
    · cases h; simp
theorem ok__law_tried (T : Tx K mg)  : Ok P w K mg base .no (16) "_law_tried" ["_law_book", "_law_way", "_law_at", "_law_deed_here"] (sp_tried K) :=
  ok_no T.d__law_tried T.g__law_tried sc__law_tried (fun _ _ _ _ _ _ us hl => match us, hl with | [_, _, _, _], _ => rfl) (fun ds M Q E h => by first | (obtain ⟨_, rfl, _⟩ := h; rfl) | (obtain ⟨_, _, rfl, _⟩ := h; rfl) | (obtain ⟨_, _, _, rfl, _⟩ := h; rfl) | (obtain ⟨_, _, _, _, rfl, _⟩ := h; rfl) | (obtain ⟨_, _, _, _, _, rfl, _⟩ := h; rfl) | (obtain ⟨_, _, _, _, _, _, rfl, _⟩ := h; rfl) | (obtain ⟨_, _, _, _, _, _, _, rfl, _⟩ := h; rfl) | (obtain ⟨_, _, _, _, _, _, _, _, rfl, _⟩ := h; rfl) | (obtain ⟨_, _, _, _, _, _, _, _, _, rfl, _⟩ := h; rfl) | (obtain ⟨_, _, _, _, _, _, _, _, _, _, rfl, _⟩ := h; rfl) | (obtain ⟨_, _, _, _, _, _, _, _, _, _, _, rfl, _⟩ := h; rfl)) fun f cdv A outer s H E hr => ⟨_, w__law_tried T (hu_of hr) (ok__law_done T) (hr.mono (by first | decide | omega)), fun ds M Q E h => by
  obtain ⟨p, wy, n, d, g, xs, L, rfl, B, hd, hl, q⟩ := h
  rw [show startD N__law_tried [.ref p, .str wy.s, .int n, d] = [some (.ref p), some (.str wy.s), some (.int n), some (d), none, none, none, none] from rfl]
  refine ⟨p, wy, n, d, g, xs, L, rfl, B, hd, hl, fun v ys hv M' L' B' F' => ?_, fun k ys hv => ?_, fun k ys hv => ?_⟩
  · exact dr (q _ _ hv M' L' B' F')
  · obtain rfl := due_same hv (fun v z => by cases z)
    have fin : ∀ (C a : Addr) (b0 b1 b2 b3 b4 : Bool), Kinds K C b0 b1 b2 b3 b4 false → M a = none → [b0, b1, b2, b3, b4, false].count true = 1 → ([b0, b1, b2, b3, b4, false][k]? = some true ∧ ∀ m : Nat, m < k → [b0, b1, b2, b3, b4, false][m]? ≠ some true) → restTried K (endsD .no Q E) [some (.ref p), some (.str wy.s), some (.int n), some d, some .non, some (.ref a), none, none] (mup M a (.exc C none)) := fun C a b0 b1 b2 b3 b4 hK na h1 hj =>
      restTried_x hK mup_same h1 (fun z => by cases z) (fun _ j g1 g2 M' l => by
        have : j = k := by
          rcases Nat.lt_trichotomy j k with z | z | z
          · exact absurd g1 (hj.2 j z)
          · exact z
          · exact absurd hj.1 (g2 k z)
        subst this
        exact q _ _ hv M' L (B.le ((Le.new na).trans l)) (.le ((Le.new na).trans l))) ⟨k, hj⟩
    rcases due_cls hv with rfl | rfl | rfl | rfl | rfl
    · exact ⟨T.e_Over, fun a na => fin _ a true false false false false ⟨T.q_Over, T.v_Over, T.u_Over_Over, T.u_Over_NoSide, T.u_Over_NoThrow, T.u_Over_NoPins, T.u_Over_NoDeed, T.u_Over_Falls⟩ na rfl ⟨rfl, by decide⟩⟩
    · exact ⟨T.e_NoSide, fun a na => fin _ a false true false false false ⟨T.q_NoSide, T.v_NoSide, T.u_NoSide_Over, T.u_NoSide_NoSide, T.u_NoSide_NoThrow, T.u_NoSide_NoPins, T.u_NoSide_NoDeed, T.u_NoSide_Falls⟩ na rfl ⟨rfl, by decide⟩⟩
    · exact ⟨T.e_NoThrow, fun a na => fin _ a false false true false false ⟨T.q_NoThrow, T.v_NoThrow, T.u_NoThrow_Over, T.u_NoThrow_NoSide, T.u_NoThrow_NoThrow, T.u_NoThrow_NoPins, T.u_NoThrow_NoDeed, T.u_NoThrow_Falls⟩ na rfl ⟨rfl, by decide⟩⟩
    · exact ⟨T.e_NoPins, fun a na => fin _ a false false false true false ⟨T.q_NoPins, T.v_NoPins, T.u_NoPins_Over, T.u_NoPins_NoSide, T.u_NoPins_NoThrow, T.u_NoPins_NoPins, T.u_NoPins_NoDeed, T.u_NoPins_Falls⟩ na rfl ⟨rfl, by decide⟩⟩
    · exact ⟨T.e_NoDeed, fun a na => fin _ a false false false false true ⟨T.q_NoDeed, T.v_NoDeed, T.u_NoDeed_Over, T.u_NoDeed_NoSide, T.u_NoDeed_NoThrow, T.u_NoDeed_NoPins, T.u_NoDeed_NoDeed, T.u_NoDeed_Falls⟩ na rfl ⟨rfl, by decide⟩⟩
  · obtain rfl := due_same hv (fun v z => by cases z)
    refine ⟨T.e_Falls, fun a na => ?_⟩
    exact restTried_x (K := K) (C := He.ga K "Falls") (num := some (k : Int)) (b0 := false) (b1 := false) (b2 := false) (b3 := false) (b4 := false) (b5 := true) ⟨T.q_Falls, T.v_Falls, T.u_Falls_Over, T.u_Falls_NoSide, T.u_Falls_NoThrow, T.u_Falls_NoPins, T.u_Falls_NoDeed, T.u_Falls_Falls⟩ mup_same rfl
      (fun _ => ⟨T.a_Falls, T.n_at, k, rfl, fun M' l => q _ _ hv M' L (B.le ((Le.new na).trans l)) (.le ((Le.new na).trans l))⟩) (fun z => by cases z) ⟨5, rfl, by decide⟩⟩
end
end Tal
set_option maxHeartbeats 400000
/-! what the law says is due -/
namespace Tal
open PySem PySem.Spec PyProof.Rows L2
theorem flat_all {M : Mp} {xs : List D} (h : ∀ x ∈ xs, Flat x) : ∀ x ∈ xs, Deed M x := fun x hx => (h x hx).deed
theorem deeds_snoc {M : Mp} {xs : List D} {d : D} (h : ∀ x ∈ xs, Flat x) (hd : Deed M d) : ∀ x ∈ xs ++ [d], Deed M x := fun x hx => by
  rcases List.mem_append.mp hx with z | z
  · exact (h x z).deed
  · rw [List.mem_singleton.mp z]; exact hd
theorem cut_last {xs : List D} (h : 0 < xs.length) : cutD xs none (some (-1)) = xs.dropLast := by
  unfold cutD HT.sIx
  simp only [List.drop_zero, Nat.sub_zero]
  rw [if_pos (by omega), List.dropLast_eq_take]
  congr 1
  omega
section
variable {P : Program} {w : World} {K : PySem.W.Frag} {mg : Str → Option Value} {base : Heap}
def sp_due : DSp := fun ds M Q _ => ∃ (g : Game) (r : Addr) (xs : List D) (wy : Way) (n : Int) (d : D), ds = [g.d, .ref r, .str wy.s, .int n, d] ∧ g.Ok ∧ M r = some (.lst xs) ∧ (rd g g.first xs).1 = xs.length ∧ xs.length ≤ 800 ∧ (∀ x ∈ xs, Flat x) ∧ Deed M d ∧
  ∀ M' r', Le M M' → (r' = r ∨ M r' = none) → M' r' = some (.lst (due g xs wy n d).2) → Q (.tup [(due g xs wy n d).1.d, .ref r']) M'
def restDue : RS := rSeq
                      (rSet 5 (rOp gIx (rCall Md.no sp_lread (rCons (rVar 0) (rCons (rVar 8) rNil))) (rC (D.int 0))))
                      (rSeq
                        (rIfS (rB (rOp gLt (rVar 5) (rCB gLen (rCons (rVar 8) rNil))))
                          (rRet
                            (rTup
                              (rCons
                                (rTup
                                  (rCons (rC (D.str (Str.ofString "falls")))
                                    (rCons (rOp gAdd (rVar 5) (rC (D.int 1))) rNil)))
                                (rCons (rVar 1) rNil))))
                          rNext)
                        (rRet
                          (rTup
                            (rCons (rTup (rCons (rC (D.str (Str.ofString "told"))) (rCons (rC D.non) rNil)))
                              (rCons (rVar 8) rNil)))))
theorem restDue_ok {g : Game} {r r8 : Addr} {xs ys : List D} {m n : Int} {x2 x3 x4 x5 x6 x7 : Option D} {M M8 : Mp} {Q : DQ} {E : Exn → Mp → Prop} (o : g.Ok) (le8 : Le M M8) (hn : 1 ≤ n ∧ n ≤ m) (hr : M r = some (.lst xs)) (n8 : M r8 = none) (h8 : M8 r8 = some (.lst ys)) (hl : ys.length ≤ 900) (hd : ∀ x ∈ ys, Deed M8 x)
    (q : ∀ M' r', Le M M' → (r' = r ∨ M r' = none) → M' r' = some (.lst (dueAt g xs ys m n).2) → Q (.tup [(dueAt g xs ys m n).1.d, .ref r']) M') : restDue (endsD .no Q E) [some g.d, some (.ref r), x2, x3, x4, x5, x6, x7, some (.ref r8)] M8 := by
  unfold dueAt at q
  rw [if_pos hn] at q
  refine ⟨g, r8, ys, rfl, o, h8, hl, hd, fun M1 l1 => ⟨_, rfl, ?_⟩⟩
  simp only [List.set_cons_zero, List.set_cons_succ]
  refine ⟨_, l1 _ _ h8, ?_⟩
  refine br_p (fun h => ?_) (fun h => ?_)
  · rw [if_pos (by omega)] at q
    exact dr (q _ r (le8.trans l1) (.inl rfl) (l1 _ _ (le8 _ _ hr)))
  · rw [if_neg (by omega)] at q
    exact dr (q _ r8 (le8.trans l1) (.inr n8) (l1 _ _ h8))
theorem nil_back {A B : Mp} {a : Addr} (l : Le A B) (h : B a = none) : A a = none := by
  cases z : A a with
  | none => rfl
  | some u => rw [l _ _ z] at h; cases h
theorem deeds_sub {M : Mp} {xs : List D} {d : D} {ys : List D} (h : ∀ x ∈ xs, Flat x) (hd : Deed M d) (hs : ∀ y ∈ ys, y ∈ xs ∨ y = d) : ∀ x ∈ ys, Deed M x := fun x hx => by
  rcases hs x hx with z | z
  · exact (h x z).deed
  · rw [z]; exact hd
theorem ok__law_due (T : Tx K mg)  : Ok P w K mg base .no (9) "_law_due" ["_law_game_here", "_law_row", "_law_way", "_law_at", "_law_deed_here"] (sp_due) :=
  ok_no T.d__law_due T.g__law_due sc__law_due (fun _ _ _ _ _ _ us hl => match us, hl with | [_, _, _, _, _], _ => rfl) (fun ds M Q E h => by first | (obtain ⟨_, rfl, _⟩ := h; rfl) | (obtain ⟨_, _, rfl, _⟩ := h; rfl) | (obtain ⟨_, _, _, rfl, _⟩ := h; rfl) | (obtain ⟨_, _, _, _, rfl, _⟩ := h; rfl) | (obtain ⟨_, _, _, _, _, rfl, _⟩ := h; rfl) | (obtain ⟨_, _, _, _, _, _, rfl, _⟩ := h; rfl) | (obtain ⟨_, _, _, _, _, _, _, rfl, _⟩ := h; rfl) | (obtain ⟨_, _, _, _, _, _, _, _, rfl, _⟩ := h; rfl) | (obtain ⟨_, _, _, _, _, _, _, _, _, rfl, _⟩ := h; rfl) | (obtain ⟨_, _, _, _, _, _, _, _, _, _, rfl, _⟩ := h; rfl) | (obtain ⟨_, _, _, _, _, _, _, _, _, _, _, rfl, _⟩ := h; rfl)) fun f cdv A outer s H E hr => ⟨_, w__law_due T (hu_of hr) (ok__law_read T) (hr.mono (by first | decide | omega)), fun ds M Q E h => by
  obtain ⟨g, r, xs, wy, n, d, rfl, o, hr1, hf, hl, hx, hd, q⟩ := h
  rw [show startD N__law_due [g.d, .ref r, .str wy.s, .int n, d] = [some (g.d), some (.ref r), some (.str wy.s), some (.int n), some (d), none, none, none, none] from rfl]
  cases wy with
  | add =>
    refine ⟨g, r, xs, rfl, o, hr1, by omega, flat_all hx, fun M1 l1 => ⟨rfl, ?_⟩⟩
    simp only [List.set_cons_zero, List.set_cons_succ]
    have q : ∀ M' r', Le M M' → (r' = r ∨ M r' = none) → M' r' = some (.lst (dueAdd g xs d).2) → Q (.tup [(dueAdd g xs d).1.d, .ref r']) M' := q
    unfold dueAdd at q
    have hs := @rd_push g xs g.first
    have hs2 := @rd_stop g xs [] g.first d hf
    generalize hS : rd g g.first xs = S at *
    obtain ⟨m, st, wn⟩ := S
    cases wn with
    | some l => exact dr (q M1 r l1 (.inl rfl) (l1 _ _ hr1))
    | none =>
      have hr2 := l1 _ _ hr1
      have hf : m = xs.length := hf
      refine fun p1 n1 => ⟨xs, [d], mup_new hr2 n1, mup_same, sz (by rw [List.length_singleton]; omega), fun p2 n2 => ⟨g, p2, xs ++ [d], rfl, o, mup_same, by rw [List.length_append, List.length_singleton]; omega, deeds_snoc hx (((hd.le l1).le (.new n1)).le (.new n2)), fun M2 l2 => ⟨_, rfl, _, l2 _ _ (mup_new (mup_new hr2 n1) n2), ⟨?_⟩⟩⟩⟩
      have lM : Le M M2 := ((l1.trans (.new n1)).trans (.new n2)).trans l2
      have hr3 := lM _ _ hr1
      show br (decide (((rd g g.first (xs ++ [d])).1 : Int) = (xs.length : Int))) _ _
      cases hst : step g ⟨st, none⟩ d with
      | none =>
        rw [hs2 hst]
        rw [decide_eq_true rfl]
        simp only [hst] at q
        refine fun p3 n3 => ⟨rcv_lst mup_same, ?_⟩
        have fin := fun M' (l : Le M2 M') => q M' r (lM.trans l) (.inl rfl) (l _ _ hr3)
        cases g with
        | rally ru => exact ⟨_, rfl, p3, ["rally", "down", "lane"], _, 0, rfl, rfl, mup_same, rfl, by decide, dr (fin _ (.new n3))⟩
        | down ru => exact ⟨_, rfl, p3, ["rally", "down", "lane"], _, 1, rfl, rfl, mup_same, rfl, by decide, dr (fin _ (.new n3))⟩
        | lane ru => exact ⟨_, rfl, p3, ["rally", "down", "lane"], _, 2, rfl, rfl, mup_same, rfl, by decide, dr (fin _ (.new n3))⟩
      | some S' =>
        rw [hs hf hst]
        rw [decide_eq_false (by omega)]
        simp only [hst] at q
        refine ⟨_, hr3, fun p3 n3 => ⟨xs, [d], mup_new hr3 n3, mup_same, sz (by rw [List.length_singleton]; omega), fun p4 n4 => ?_⟩⟩
        have np4 : M p4 = none := by
          cases z : M p4 with
          | none => rfl
          | some u => rw [mup_new (lM _ _ z) n3] at n4; cases n4
        exact dr (q _ p4 ((lM.trans (.new n3)).trans (.new n4)) (.inr np4) mup_same)
  | back =>
    have q : ∀ M' r', Le M M' → (r' = r ∨ M r' = none) → M' r' = some (.lst (dueBack xs).2) → Q (.tup [(dueBack xs).1.d, .ref r']) M' := q
    unfold dueBack at q
    refine ⟨⟨fun p1 n1 => gEq_nil (mup_new hr1 n1) (fun x h => flat_plain (hx x h)) mup_same ?_⟩⟩
    cases hxl : xs[xs.length - 1]? with
    | none =>
      have e : xs = [] := by
        cases xs with
        | nil => rfl
        | cons x xs => rw [List.getElem?_eq_getElem (by simp)] at hxl; cases hxl
      subst e
      exact dr (q _ r (.new n1) (.inl rfl) (mup_new hr1 n1))
    | some x =>
      have e : xs.isEmpty = false := by
        cases xs with
        | nil => cases hxl
        | cons x xs => rfl
      rw [e]
      rw [hxl] at q
      have h0 : 0 < xs.length := by
        cases xs with
        | nil => cases hxl
        | cons x xs => simp
      refine ⟨_, _, mup_new hr1 n1, atI_last hxl, _, mup_new hr1 n1, fun p2 n2 => ?_⟩
      rw [cut_last h0]
      have np2 : M p2 = none := by
        cases z : M p2 with
        | none => rfl
        | some u => rw [mup_new z n1] at n2; cases n2
      exact dr (q _ p2 ((Le.new n1).trans (.new n2)) (.inr np2) mup_same)
  | right =>
    have q : ∀ M' r', Le M M' → (r' = r ∨ M r' = none) → M' r' = some (.lst (dueAt g xs (freshRow .right n xs d) (xs.length) n).2) → Q (.tup [(dueAt g xs (freshRow .right n xs d) (xs.length) n).1.d, .ref r']) M' := q
    have no : ¬ (1 ≤ n ∧ n ≤ xs.length) → Q (.tup [(Out.refused 4).d, .ref r]) M := fun z => by
      unfold dueAt at q
      rw [if_neg z] at q
      exact q M r (.refl M) (.inl rfl) hr1
    have e0 : (if decide (Way.right.s = ("in" : Str)) = true then (1 : Int) else 0) = 0 := by decide +kernel
    refine ⟨⟨?_⟩⟩
    refine br_p (fun h1 => dr (no (by omega))) (fun h1 => ⟨_, hr1, ⟨?_⟩⟩)
    refine br_p (fun h2 => dr (no (by rw [e0] at h2; omega))) (fun h2 => ⟨_, hr1, fun p1 n1 p2 n2 => ?_⟩)
    rw [e0] at h2
    obtain ⟨k, rfl⟩ : ∃ k : Nat, n = (k : Int) + 1 := ⟨n.toNat - 1, by omega⟩
    have c1 : cutD xs none (some ((k : Int) + 1 - 1)) = xs.take k := by rw [show (k : Int) + 1 - 1 = (k : Int) by omega]; exact cut_lo (by omega)
    rw [c1] at n2 ⊢
    refine ⟨_, _, mup_new mup_same n2, mup_same, sz (by rw [List.length_take, List.length_singleton]; omega), fun p3 n3 => ?_⟩
    refine ⟨?_⟩
    have c2 : cutD xs (some ((k : Int) + 1 - (if decide (Way.right.s = ("in" : Str)) = true then (1 : Int) else 0))) none = xs.drop (k + 1) := by
      rw [e0]
      rw [show (k : Int) + 1 - 0 = ((k + 1 : Nat) : Int) by omega]; exact cut_hi (by omega)
    refine ⟨_, mup_new (mup_new (mup_new hr1 n1) n2) n3, fun p4 n4 => ?_⟩
    rw [c2]
    refine ⟨_, _, mup_new mup_same n4, mup_same, sz (by simp; omega), fun p5 n5 => ?_⟩
    simp only [List.set_cons_zero, List.set_cons_succ]
    have le5 := ((((Le.new n1).trans (.new n2)).trans (.new n3)).trans (.new n4)).trans (Le.new (o := .lst (xs.take k ++ [d] ++ xs.drop (k + 1))) n5)
    have n5' := nil_back ((((Le.new n1).trans (.new n2)).trans (.new n3)).trans (.new n4)) n5
    refine ⟨?_⟩
    exact restDue_ok (ys := xs.take k ++ [d] ++ xs.drop (k + 1)) (m := xs.length) (n := (k : Int) + 1) o le5 (by omega) hr1 n5' mup_same (by simp; omega) (deeds_sub hx (hd.le le5) fun y hy => by
      rcases List.mem_append.mp hy with z | z
      · rcases List.mem_append.mp z with z | z
        · exact .inl (List.mem_of_mem_take z)
        · exact .inr (List.mem_singleton.mp z)
      · exact .inl (List.mem_of_mem_drop z)) q
  | ins =>
    have q : ∀ M' r', Le M M' → (r' = r ∨ M r' = none) → M' r' = some (.lst (dueAt g xs (freshRow .ins n xs d) (xs.length + 1) n).2) → Q (.tup [(dueAt g xs (freshRow .ins n xs d) (xs.length + 1) n).1.d, .ref r']) M' := q
    have no : ¬ (1 ≤ n ∧ n ≤ xs.length + 1) → Q (.tup [(Out.refused 4).d, .ref r]) M := fun z => by
      unfold dueAt at q
      rw [if_neg z] at q
      exact q M r (.refl M) (.inl rfl) hr1
    have e0 : (if decide (Way.ins.s = ("in" : Str)) = true then (1 : Int) else 0) = 1 := by decide +kernel
    refine ⟨⟨?_⟩⟩
    refine br_p (fun h1 => dr (no (by omega))) (fun h1 => ⟨_, hr1, ⟨?_⟩⟩)
    refine br_p (fun h2 => dr (no (by rw [e0] at h2; omega))) (fun h2 => ⟨_, hr1, fun p1 n1 p2 n2 => ?_⟩)
    rw [e0] at h2
    obtain ⟨k, rfl⟩ : ∃ k : Nat, n = (k : Int) + 1 := ⟨n.toNat - 1, by omega⟩
    have c1 : cutD xs none (some ((k : Int) + 1 - 1)) = xs.take k := by rw [show (k : Int) + 1 - 1 = (k : Int) by omega]; exact cut_lo (by omega)
    rw [c1] at n2 ⊢
    refine ⟨_, _, mup_new mup_same n2, mup_same, sz (by rw [List.length_take, List.length_singleton]; omega), fun p3 n3 => ?_⟩
    refine ⟨?_⟩
    have c2 : cutD xs (some ((k : Int) + 1 - (if decide (Way.ins.s = ("in" : Str)) = true then (1 : Int) else 0))) none = xs.drop k := by
      rw [e0]
      rw [show (k : Int) + 1 - 1 = (k : Int) by omega]; exact cut_hi (by omega)
    refine ⟨_, mup_new (mup_new (mup_new hr1 n1) n2) n3, fun p4 n4 => ?_⟩
    rw [c2]
    refine ⟨_, _, mup_new mup_same n4, mup_same, sz (by simp; omega), fun p5 n5 => ?_⟩
    simp only [List.set_cons_zero, List.set_cons_succ]
    have le5 := ((((Le.new n1).trans (.new n2)).trans (.new n3)).trans (.new n4)).trans (Le.new (o := .lst (xs.take k ++ [d] ++ xs.drop k)) n5)
    have n5' := nil_back ((((Le.new n1).trans (.new n2)).trans (.new n3)).trans (.new n4)) n5
    refine ⟨?_⟩
    exact restDue_ok (ys := xs.take k ++ [d] ++ xs.drop k) (m := xs.length + 1) (n := (k : Int) + 1) o le5 (by omega) hr1 n5' mup_same (by simp; omega) (deeds_sub hx (hd.le le5) fun y hy => by
      rcases List.mem_append.mp hy with z | z
      · rcases List.mem_append.mp z with z | z
        · exact .inl (List.mem_of_mem_take z)
        · exact .inr (List.mem_singleton.mp z)
      · exact .inl (List.mem_of_mem_drop z)) q
  | out =>
    have q : ∀ M' r', Le M M' → (r' = r ∨ M r' = none) → M' r' = some (.lst (dueAt g xs (freshRow .out n xs d) (xs.length) n).2) → Q (.tup [(dueAt g xs (freshRow .out n xs d) (xs.length) n).1.d, .ref r']) M' := q
    have no : ¬ (1 ≤ n ∧ n ≤ xs.length) → Q (.tup [(Out.refused 4).d, .ref r]) M := fun z => by
      unfold dueAt at q
      rw [if_neg z] at q
      exact q M r (.refl M) (.inl rfl) hr1
    have e0 : (if decide (Way.out.s = ("in" : Str)) = true then (1 : Int) else 0) = 0 := by decide +kernel
    refine ⟨⟨?_⟩⟩
    refine br_p (fun h1 => dr (no (by omega))) (fun h1 => ⟨_, hr1, ⟨?_⟩⟩)
    refine br_p (fun h2 => dr (no (by rw [e0] at h2; omega))) (fun h2 => ⟨_, hr1, fun p1 n1 p2 n2 => ?_⟩)
    rw [e0] at h2
    obtain ⟨k, rfl⟩ : ∃ k : Nat, n = (k : Int) + 1 := ⟨n.toNat - 1, by omega⟩
    have c1 : cutD xs none (some ((k : Int) + 1 - 1)) = xs.take k := by rw [show (k : Int) + 1 - 1 = (k : Int) by omega]; exact cut_lo (by omega)
    rw [c1] at n2 ⊢
    refine ⟨_, _, mup_new mup_same n2, mup_same, sz (by rw [List.length_take, List.length_singleton]; omega), fun p3 n3 => ?_⟩
    refine ⟨?_⟩
    have c2 : cutD xs (some ((k : Int) + 1 - (if decide (Way.out.s = ("in" : Str)) = true then (1 : Int) else 0))) none = xs.drop (k + 1) := by
      rw [e0]
      rw [show (k : Int) + 1 - 0 = ((k + 1 : Nat) : Int) by omega]; exact cut_hi (by omega)
    refine ⟨_, mup_new (mup_new (mup_new hr1 n1) n2) n3, fun p4 n4 => ?_⟩
    rw [c2]
    refine ⟨_, _, mup_new mup_same n4, mup_same, sz (by simp; omega), fun p5 n5 => ?_⟩
    simp only [List.set_cons_zero, List.set_cons_succ]
    refine ⟨?_⟩
    have lA := ((((Le.new n1).trans (.new n2)).trans (.new n3)).trans (.new n4)).trans (Le.new (o := .lst (xs.take k ++ [d] ++ xs.drop (k + 1))) n5)
    have hr5 := lA _ _ hr1
    have c3 : cutD xs (some ((k : Int) + 1)) none = xs.drop (k + 1) := cut_hi (k := k + 1) (by omega)
    refine ⟨_, hr5, fun p6 n6 => ?_⟩
    rw [c1]
    refine ⟨_, mup_new hr5 n6, fun p7 n7 => ?_⟩
    rw [c3]
    refine ⟨_, _, mup_new mup_same n7, mup_same, sz (by simp; omega), fun p8 n8 => ?_⟩
    simp only [List.set_cons_zero, List.set_cons_succ]
    have le8 := ((lA.trans (.new n6)).trans (.new n7)).trans (Le.new (o := .lst (xs.take k ++ xs.drop (k + 1))) n8)
    have n8' := nil_back ((lA.trans (.new n6)).trans (.new n7)) n8
    exact restDue_ok (ys := xs.take k ++ xs.drop (k + 1)) (m := xs.length) (n := (k : Int) + 1) o le8 (by omega) hr1 n8' mup_same (by simp; omega) (deeds_sub hx (hd.le le8) fun y hy => by
      rcases List.mem_append.mp hy with z | z
      · exact .inl (List.mem_of_mem_take z)
      · exact .inl (List.mem_of_mem_drop z)) q⟩
end
end Tal
set_option maxHeartbeats 400000
/-! the law's units -/
namespace Tal
open PySem PySem.Spec PyProof.Rows L2
theorem sides_le : ∀ xs : List D, (sidesOf xs).length ≤ xs.length
  | [] => Nat.le_refl _
  | x :: xs => by
    cases h : sideOf x with
    | none => rw [sidesOf_none h]; exact Nat.zero_le _
    | some sd => rw [sidesOf_some h]; exact Nat.succ_le_succ (sides_le xs)
theorem sides_full : ∀ xs : List D, (sidesOf xs).length = xs.length → xs = (sidesOf xs).map sdD
  | [], _ => rfl
  | x :: xs, h => by
    cases e : sideOf x with
    | none => rw [sidesOf_none e] at h; cases h
    | some sd =>
      rw [sidesOf_some e] at h ⊢
      rw [List.map_cons, ← sides_full xs (by simpa using h), side_d e]
theorem rally_full {r : Rule} {xs : List D} (h : (rd (.rally r) (Game.rally r).first xs).1 = xs.length) : xs = (sidesOf xs).map sdD := by
  rw [show (Game.rally r).first = ⟨.rs r.beg, none⟩ from rfl, rd_rally] at h
  have h : (sidesOf xs).length - _ = xs.length := h
  have := sides_le xs
  exact sides_full xs (by omega)
theorem count_stk {r : Rule} {xs : List D} (h : (rd (.rally r) (Game.rally r).first xs).1 = xs.length) {k : Nat} (hk : k < xs.length) : (enR r r.beg (sidesOf xs) 0).count ((k : Int) + 1) = stkAt (.rally r) xs k := by
  have := count_en r xs r.beg 0 k h hk
  rw [show (((0 + 1 + k : Nat)) : Int) = (k : Int) + 1 by omega] at this
  rw [this]
  unfold stkAt
  rw [show (Game.rally r).first = ⟨.rs r.beg, none⟩ from rfl]
  generalize (rd (Game.rally r) ⟨.rs r.beg, none⟩ (xs.take k)).2.st = st
  generalize (xs[k]?).bind sideOf = b
  cases st <;> cases b <;> rfl
section
variable {P : Program} {w : World} {K : PySem.W.Frag} {mg : Str → Option Value} {base : Heap}
def sp_lunits : DSp := fun ds M Q _ => ∃ (g : Game) (r : Addr) (xs : List D), ds = [g.d, .ref r] ∧ g.Ok ∧ M r = some (.lst xs) ∧ (rd g g.first xs).1 = xs.length ∧ xs.length ≤ 800 ∧ ∀ M' p, Le M M' → M p = none → M' p = some (.lst (unitsOf g xs)) → Q (.ref p) M'
theorem ok__law_units (T : Tx K mg)  : Ok P w K mg base .no (7) "_law_units" ["_law_game_here", "_law_row"] (sp_lunits) :=
  ok_no T.d__law_units T.g__law_units sc__law_units (fun _ _ _ _ _ _ us hl => match us, hl with | [_, _], _ => rfl) (fun ds M Q E h => by first | (obtain ⟨_, rfl, _⟩ := h; rfl) | (obtain ⟨_, _, rfl, _⟩ := h; rfl) | (obtain ⟨_, _, _, rfl, _⟩ := h; rfl) | (obtain ⟨_, _, _, _, rfl, _⟩ := h; rfl) | (obtain ⟨_, _, _, _, _, rfl, _⟩ := h; rfl) | (obtain ⟨_, _, _, _, _, _, rfl, _⟩ := h; rfl) | (obtain ⟨_, _, _, _, _, _, _, rfl, _⟩ := h; rfl) | (obtain ⟨_, _, _, _, _, _, _, _, rfl, _⟩ := h; rfl) | (obtain ⟨_, _, _, _, _, _, _, _, _, rfl, _⟩ := h; rfl) | (obtain ⟨_, _, _, _, _, _, _, _, _, _, rfl, _⟩ := h; rfl) | (obtain ⟨_, _, _, _, _, _, _, _, _, _, _, rfl, _⟩ := h; rfl)) fun f cdv A outer s H E hr => ⟨_, w__law_units T (hu_of hr) (ok_lplayed T 4) (hr.mono (by first | decide | omega)), fun ds M Q E h => by
  obtain ⟨g, r, xs, rfl, o, hr1, hf, hl, q⟩ := h
  rw [show startD N__law_units [g.d, .ref r] = [some (g.d), some (.ref r), none, none] from rfl]
  cases g with
  | down g => exact ⟨_, rfl, ⟨fun p np => dr (q _ p (.new np) np mup_same)⟩⟩
  | lane g => exact ⟨_, rfl, ⟨fun p np => dr (q _ p (.new np) np mup_same)⟩⟩
  | rally ru =>
    have ef := rally_full hf
    refine ⟨_, rfl, ⟨fun p1 n1 => ⟨_, rfl, ru, r, p1, sidesOf xs, 0, [], rfl, by omega, o.1, Nat.zero_le _, by have := sides_le xs; omega, by rw [← ef]; exact mup_new hr1 n1, mup_same, (fun z => by rw [z, n1] at hr1; cases hr1), by have := sides_le xs; simp; omega, fun M1 h1 l1 => ?_⟩⟩⟩
    rw [List.drop_zero, List.nil_append] at h1
    have rp1 : r ≠ p1 := fun z => by rw [z, n1] at hr1; cases hr1
    have lM : Le M M1 := fun a u e => l1 a u (fun z => by rw [z, n1] at e; cases e) (mup_new e n1)
    have hr2 := lM _ _ hr1
    simp only [List.set_cons_zero, List.set_cons_succ]
    refine ⟨_, hr2, xs.length, rfl, by omega, lcDT (unitAt (.rally ru) xs) (fun p2 acc k d R n2 hi hk hR => ?_) (fun p2 acc k d y R n2 hi hk hy hR => ?_) fun p2 n2 => dr (q _ p2 (lM.trans (.new n2)) (nil_back lM n2) mup_same)⟩
    · have hi : d = .int k := hi
      subst hi
      have z := hR _ (.refl _)
      refine .inl ⟨_, _, rfl, .inr ⟨p1, rfl, mup_new h1 n2⟩, ?_⟩
      have e : decide (((k : Int) + 1) ∈ enR ru ru.beg (sidesOf xs) 0) = (unitAt (.rally ru) xs k).isSome := by
        unfold unitAt
        rw [← count_stk hf hk]
        by_cases c : ((k : Int) + 1) ∈ enR ru ru.beg (sidesOf xs) 0
        · rw [decide_eq_true c, if_pos (List.count_pos_iff.mpr c)]; rfl
        · rw [decide_eq_false c, if_neg (fun z => c (List.count_pos_iff.mp z))]; rfl
      rw [← e] at z
      exact z
    · have hi : d = .int k := hi
      subst hi
      have hxk : xs[k]? = some xs[k] := List.getElem?_eq_getElem hk
      refine ⟨_, _, mup_new hr2 n2, atI_nat hxk, rcv_lst (mup_new h1 n2), p1, _, _, rfl, rfl, mup_new h1 n2, ?_⟩
      unfold unitAt at hy
      split at hy
      · cases hy
        have z := hR _ (.refl _)
        rw [count_stk hf hk]
        rw [List.getD_eq_getElem?_getD, hxk] at z
        exact z
      · cases hy⟩
end
end Tal
set_option maxHeartbeats 400000
/-! stands are alike to themselves -/
namespace Tal
open PySem PySem.Spec PyProof.Rows L2
inductive Tame : Nat → D → Prop
  | non (n : Nat) : Tame n .non
  | int (n : Nat) (i : Int) : Tame n (.int i)
  | str (n : Nat) (z : Str) : PyData.strOk z = true → Tame n (.str z)
  | tup (n : Nat) (xs : List D) : xs.length ≤ 1000 → (∀ x ∈ xs, Tame n x) → Tame (n + 1) (.tup xs)
theorem Tame.same {M : Mp} {n : Nat} {x : D} (h : Tame n x) : Same M n x x := by
  induction h with
  | non n => exact .non n
  | int n i => exact .int n i
  | str n z h => exact .str n z h
  | tup n xs h1 _ ih =>
    refine .tup n xs xs rfl h1 fun i x y e1 e2 => ?_
    rw [e1] at e2
    cases e2
    exact ih x (List.mem_of_getElem? e1)
theorem Tame.up {n m : Nat} {x : D} (h : Tame n x) (l : n ≤ m) : Tame m x := by
  induction h generalizing m with
  | non n => exact .non m
  | int n i => exact .int m i
  | str n z h => exact .str m z h
  | tup n xs h1 _ ih =>
    obtain ⟨m, rfl⟩ : ∃ m', m = m' + 1 := ⟨m - 1, by omega⟩
    exact .tup m xs h1 fun x hx => ih x hx (by omega)
theorem flat_tame {x : D} (h : Flat x) : Tame 0 x := by
  rcases h with ⟨i, rfl⟩ | ⟨z, rfl, hz⟩
  · exact .int _ _
  · exact .str _ _ hz
def RSt.dp : RSt → Nat
  | .e => 0
  | .s _ _ w => w.dp + 1
theorem RSt.tame : ∀ s : RSt, Tame (s.dp + 1) s.d
  | .e => .tup _ _ (by decide) fun x hx => by cases hx
  | .s a b w => .tup _ _ (by show 3 ≤ 1000; omega) fun x hx => by
    rcases List.mem_cons.mp hx with rfl | hx
    · exact .int _ _
    · rcases List.mem_cons.mp hx with rfl | hx
      · exact .int _ _
      · rw [List.mem_singleton.mp hx]; exact w.tame
theorem beg_dp : ∀ (n : Nat) (r : Rule), r.W n → r.beg.dp ≤ n
  | n, .no, h => by cases n <;> exact h.elim
  | n, .pt, _ => Nat.zero_le _
  | n + 1, .un t l c i e, h => by
    have hw := inner_W h 0 0
    have := beg_dp n _ hw
    rw [Rule.beg, ← beg_inner]
    exact Nat.succ_le_succ this
theorem ral_dp : ∀ (n : Nat) (r : Rule) (s : RSt) (sd : Bool), r.W n → s.dp ≤ n → (ral r s sd).1.dp ≤ n
  | n, .no, _, _, h, _ => by cases n <;> exact h.elim
  | n, .pt, s, _, _, _ => by cases s <;> exact Nat.zero_le _
  | n + 1, .un t l c i e, .e, _, _, _ => Nat.zero_le _
  | n + 1, .un t l c i e, .s a b w, sd, h, hd => by
    have hi := inner_W h a b
    have := ral_dp n _ w sd hi (Nat.le_of_succ_le_succ hd)
    rw [ral_un]
    split
    · cases hv : wonR t l c (if sd = true then b + 1 else a + 1) (if sd = true then a else b) with
      | true => rw [up_y sd hv]; exact Nat.succ_le_succ (Nat.zero_le _)
      | false =>
        rw [up_n sd hv, ← beg_inner]
        exact Nat.succ_le_succ (beg_dp n _ (inner_W h _ _))
    · exact Nat.succ_le_succ this
theorem go_dp {n : Nat} {r : Rule} (h : r.W n) : ∀ (xs : List Bool) (s : RSt), s.dp ≤ n → (goR r s xs).st.dp ≤ n
  | [], s, hs => hs
  | x :: xs, s, hs => by
    rw [goR]
    split
    · exact ral_dp n r s x h hs
    · exact go_dp h xs _ (ral_dp n r s x h hs)
theorem nums_tame {l : List Int} (h : l.length ≤ 1000) : Tame 1 (.tup (nums l)) := .tup _ _ (by rw [nums_len]; exact h) fun x hx => by
  obtain ⟨i, _, rfl⟩ := List.mem_map.mp hx
  exact .int _ _
theorem row_tame (r : Row) : Tame 1 r.d := .tup _ _ (by show 7 ≤ 1000; omega) fun x hx => by
  simp only [List.mem_cons, List.not_mem_nil, or_false] at hx
  rcases hx with rfl | rfl | rfl | rfl | rfl | rfl | rfl <;> exact .int _ _
theorem st_tame {g : Game} {xs : List D} (o : g.Ok) : Tame 5 (rd g g.first xs).2.st.d := by
  have ft := rd_fit o xs _ (first_fit o)
  cases g with
  | rally r =>
    rw [show (Game.rally r).first = ⟨.rs r.beg, none⟩ from rfl, rd_rally]
    exact (RSt.tame _).up (Nat.succ_le_succ (go_dp o.1 _ _ (beg_dp 4 r o.1)))
  | down g =>
    generalize (rd (.down g) (Game.down g).first xs).2 = S at ft
    obtain ⟨s, wn⟩ := S
    cases s with
    | dn s =>
      have o3 : g.sides ≤ 3 := Down.Ok.s3 o
      have hl := ft.1.l
      refine (Tame.tup 1 _ (by show 4 ≤ 1000; omega) fun x hx => ?_ : Tame 2 s.d).up (by omega)
      simp only [List.mem_cons, List.not_mem_nil, or_false] at hx
      rcases hx with rfl | rfl | rfl | rfl
      · exact nums_tame (by omega)
      · exact .int _ _
      · exact .int _ _
      · exact .int _ _
    | _ => exact ft.elim
  | lane g =>
    generalize (rd (.lane g) (Game.lane g).first xs).2 = S at ft
    obtain ⟨s, wn⟩ := S
    cases s with
    | ln s =>
      have o3 : g.sides ≤ 3 := Lane.Ok.s3 o
      have hl := ft.1.l
      refine (Tame.tup 2 _ (by show 2 ≤ 1000; omega) fun x hx => ?_ : Tame 3 s.d).up (by omega)
      simp only [List.mem_cons, List.not_mem_nil, or_false] at hx
      rcases hx with rfl | rfl
      · refine .tup _ _ (by rw [rows_len]; omega) fun x hx => ?_
        obtain ⟨r, _, rfl⟩ := List.mem_map.mp hx
        exact row_tame r
      · exact .int _ _
    | _ => exact ft.elim
theorem best_len {l : List Row} : (bestOf l).length ≤ l.length := by
  unfold bestOf
  have := List.length_filterMap_le (bestF l) (List.range l.length)
  rw [List.length_range] at this
  exact this
theorem step_win {g : Game} {S S' : Sta} {x : D} (o : g.Ok) (ft : FitS g S) (h : step g S x = some S') : ∀ l, S'.win = some l → l.length ≤ 10 := by
  obtain ⟨s, w⟩ := S
  intro l hl
  cases w with
  | some l => cases g <;> cases s <;> cases h
  | none =>
    cases g with
    | rally r =>
      cases s with
      | rs s =>
        rw [step_r] at h
        cases e : sideOf x with
        | none => rw [e] at h; cases h
        | some sd =>
          rw [e] at h; cases h
          unfold rallyTo at hl
          by_cases c : (ral r s sd).2 = true
          · simp only [c, if_true] at hl; cases hl; simp
          · simp only [c, if_false] at hl; cases hl
      | _ => exact ft.elim
    | down g =>
      cases s with
      | dn s =>
        rw [step_d] at h
        cases e : g.find x with
        | none => rw [e] at h; cases h
        | some t =>
          rw [e] at h; cases h
          unfold downTo at hl
          by_cases c : (g.play s t).2 = true
          · simp only [c, if_true] at hl; cases hl; simp
          · simp only [c, if_false] at hl; cases hl
      | _ => exact ft.elim
    | lane g =>
      cases s with
      | ln s =>
        rw [step_l] at h
        cases e : pinsOf (s.rows.getD s.side row0).up x with
        | none => rw [e] at h; cases h
        | some p =>
          rw [e] at h; cases h
          have o3 : g.sides ≤ 3 := Lane.Ok.s3 o
          have fl := ft.1.l
          unfold laneTo at hl
          by_cases c : (g.bowl s p).2 = true
          · simp only [c, if_true] at hl
            cases hl
            rw [List.length_map]
            refine Nat.le_trans best_len ?_
            show (g.rows s p).length ≤ 10
            unfold Lane.rows
            rw [List.length_set]; omega
          · simp only [c, if_false] at hl; cases hl
      | _ => exact ft.elim
theorem rd_win {g : Game} (o : g.Ok) : ∀ (xs : List D) (S : Sta), FitS g S → (∀ l, S.win = some l → l.length ≤ 10) → ∀ l, (rd g S xs).2.win = some l → l.length ≤ 10
  | [], S, _, h => h
  | x :: xs, S, f, h => by
    cases e : step g S x with
    | none => rw [rd_none e]; exact h
    | some S' => rw [rd_some e]; exact rd_win o xs S' (step_fit o f e) (step_win o f e)
theorem win_tame {g : Game} {xs : List D} (o : g.Ok) : Tame 1 (winD (rd g g.first xs).2.win) := by
  have := rd_win o xs _ (first_fit o) (fun l h => by cases g <;> cases h)
  cases h : (rd g g.first xs).2.win with
  | none => exact .non _
  | some l => exact nums_tame (by have := this l h; omega)
theorem sta_tame {g : Game} {xs : List D} (o : g.Ok) : Tame 6 (rd g g.first xs).2.d := .tup _ _ (by show 2 ≤ 1000; omega) fun x hx => by
  simp only [List.mem_cons, List.not_mem_nil, or_false] at hx
  rcases hx with rfl | rfl
  · exact st_tame o
  · exact (win_tame o).up (by omega)
theorem unit_tame {g : Game} {xs : List D} (h : ∀ x ∈ xs, Flat x) {x : D} (hx : x ∈ unitsOf g xs) : Tame 1 x := by
  cases g with
  | rally r =>
    obtain ⟨k, hk, e⟩ := List.mem_filterMap.mp hx
    have hk := List.mem_range.mp hk
    unfold unitAt at e
    split at e
    · cases e
      refine .tup _ _ (by show 3 ≤ 1000; omega) fun x hx => ?_
      simp only [List.mem_cons, List.not_mem_nil, or_false] at hx
      rcases hx with rfl | rfl | rfl
      · exact .int _ _
      · rw [List.getD_eq_getElem?_getD, List.getElem?_eq_getElem hk]
        exact flat_tame (h _ (List.getElem_mem hk))
      · exact .int _ _
    · cases e
  | _ => cases hx
theorem units_len {g : Game} {xs : List D} : (unitsOf g xs).length ≤ xs.length := by
  cases g with
  | rally r =>
    have := List.length_filterMap_le (unitAt (.rally r) xs) (List.range xs.length)
    rw [List.length_range] at this
    exact this
  | _ => exact Nat.zero_le _
theorem same_list {M : Mp} {n : Nat} {a b : Addr} {xs : List D} (ha : M a = some (.lst xs)) (hb : M b = some (.lst xs)) (hl : xs.length ≤ 1000) (h : ∀ x ∈ xs, Tame n x) : Same M (n + 1) (.ref a) (.ref b) :=
  .lst n a b xs xs ha hb rfl hl fun i x y e1 e2 => by
    rw [e1] at e2
    cases e2
    exact (h x (List.mem_of_getElem? e1)).same
end Tal
set_option maxHeartbeats 400000
/-! the book shows what it should -/
namespace Tal
open PySem PySem.Spec PyProof.Rows L2
section
variable {P : Program} {w : World} {K : PySem.W.Frag} {mg : Str → Option Value} {base : Heap}
def sp_shown (K : PySem.W.Frag) : DSp := fun ds M Q _ => ∃ (t p r : Addr) (g : Game) (xs : List D) (L : List Addr), ds = [.ref t, .ref p, g.d, .ref r] ∧ M t = some .tape ∧ Bk K M p g xs L ∧ M r = some (.lst xs) ∧ xs.length ≤ 800 ∧ (∀ x ∈ xs, Flat x) ∧ ∀ M', Le M M' → Q (.bl true) M'
theorem ok__law_shown_right (T : Tx K mg)  : Ok P w K mg base .no (15) "_law_shown_right" ["_law_tape_here", "_law_book", "_law_game_here", "_law_row"] (sp_shown K) :=
  ok_no T.d__law_shown_right T.g__law_shown_right sc__law_shown_right (fun _ _ _ _ _ _ us hl => match us, hl with | [_, _, _, _], _ => rfl) (fun ds M Q E h => by first | (obtain ⟨_, rfl, _⟩ := h; rfl) | (obtain ⟨_, _, rfl, _⟩ := h; rfl) | (obtain ⟨_, _, _, rfl, _⟩ := h; rfl) | (obtain ⟨_, _, _, _, rfl, _⟩ := h; rfl) | (obtain ⟨_, _, _, _, _, rfl, _⟩ := h; rfl) | (obtain ⟨_, _, _, _, _, _, rfl, _⟩ := h; rfl) | (obtain ⟨_, _, _, _, _, _, _, rfl, _⟩ := h; rfl) | (obtain ⟨_, _, _, _, _, _, _, _, rfl, _⟩ := h; rfl) | (obtain ⟨_, _, _, _, _, _, _, _, _, rfl, _⟩ := h; rfl) | (obtain ⟨_, _, _, _, _, _, _, _, _, _, rfl, _⟩ := h; rfl) | (obtain ⟨_, _, _, _, _, _, _, _, _, _, _, rfl, _⟩ := h; rfl)) fun f cdv A outer s H E hr => ⟨_, w__law_shown_right T (hu_of hr) (ok__law_read T) (hr.mono (by first | decide | omega)) (ok_alike T 10) (hr.mono (by first | decide | omega)) (ok_Book_deeds T) (hr.mono (by first | decide | omega)) (ok_stand0 T) (hr.mono (by first | decide | omega)) (ok_Book_units T) (hr.mono (by first | decide | omega)) (ok__law_units T) (hr.mono (by first | decide | omega)) (ok__law_draw T) (hr.mono (by first | decide | omega)) (ok_Book_stand T) (hr.mono (by first | decide | omega)), fun ds M Q E h => by
  obtain ⟨t, p, r, g, xs, L, rfl, ht, B, hr1, hl, hx, q⟩ := h
  rw [show startD N__law_shown_right [.ref t, .ref p, g.d, .ref r] = [some (.ref t), some (.ref p), some (g.d), some (.ref r), none, none, none, none, none] from rfl]
  obtain ⟨dx, a, b, hL, h1, h2, h3, h4⟩ := B.ex
  have o := B.ok
  refine ⟨g, r, xs, rfl, o, hr1, by omega, flat_all hx, fun M1 l1 => ⟨rfl, ?_⟩⟩
  simp only [List.set_cons_zero, List.set_cons_succ]
  refine ⟨p, _, _, rfl, l1 _ _ h1, nin3 (by decide), p, g, xs, L, rfl, B.le l1, fun p1 n1 => ?_⟩
  have l2 := l1.trans (Le.new (o := .lst xs) n1)
  refine ⟨p, _, _, rfl, l2 _ _ h1, nin3 (by decide), p, g, xs, L, rfl, B.le l2, ?_⟩
  refine ⟨p, _, _, rfl, l2 _ _ h1, nin3 (by decide), p, g, xs, L, rfl, B.le l2, by omega, fun p2 n2 p3 n3 => ?_⟩
  have l3 := l2.trans (Le.new (o := .lst (unitsOf g xs)) n2)
  have l4 := l3.trans (Le.new (o := .lst [.ref p1, (rd g g.first xs).2.d, .ref p2]) n3)
  refine ⟨g, r, xs, rfl, o, l4 _ _ hr1, B.full, hl, fun M5 p4 l5 n4 h5 p5 n5 => ?_⟩
  have e1 : M5 p1 = some (.lst xs) := l5 _ _ (mup_new (mup_new mup_same n2) n3)
  have e2 : M5 p2 = some (.lst (unitsOf g xs)) := l5 _ _ (mup_new mup_same n3)
  have e3 : M5 p3 = some (.lst [.ref p1, (rd g g.first xs).2.d, .ref p2]) := l5 _ _ mup_same
  have lM := l4.trans l5
  have er := lM _ _ hr1
  have ul := units_len (g := g) (xs := xs)
  refine ⟨.ref p3, .ref p5, rfl, ?_, fun M6 l6 => ?_⟩
  · refine .lst 9 p3 p5 _ _ (mup_new e3 n5) mup_same rfl (by show 3 ≤ 1000; omega) fun i x y g1 g2 => ?_
    match i, g1, g2 with
    | 0, g1, g2 =>
      cases g1; cases g2
      exact same_list (n := 8) (mup_new e1 n5) (mup_new er n5) (by omega) fun x h => (flat_tame (hx x h)).up (by omega)
    | 1, g1, g2 =>
      cases g1; cases g2
      exact ((sta_tame o).up (by omega)).same
    | 2, g1, g2 =>
      cases g1; cases g2
      exact same_list (n := 8) (mup_new e2 n5) (mup_new h5 n5) (by omega) fun x h => (unit_tame hx h).up (by omega)
  have lA := (lM.trans (Le.new n5)).trans l6
  clear e1 e2 e3 er n5 l6 h5 n4 l5 l4 n3 l3 n2 lM l2 n1 l1
  conv => whnf
  refine ⟨_, lA _ _ hr1, ?_⟩
  refine ⟨t, _, rfl, lA _ _ ht, ⟨by omega, by omega⟩, fun kk k0 k1 => ?_⟩
  obtain ⟨k, rfl⟩ : ∃ k : Nat, kk = k := ⟨kk.toNat, by omega⟩
  simp only [List.set_cons_zero, List.set_cons_succ]
  have ck : cutD xs none (some (k : Int)) = xs.take k := cut_lo (by omega)
  refine ⟨_, lA _ _ hr1, fun p6 n6 => ?_⟩
  rw [ck]
  refine ⟨g, p6, xs.take k, rfl, o, mup_same, by rw [List.length_take]; omega, flat_all (fun x h => hx x (List.mem_of_mem_take h)), fun M7 l7 => ⟨rfl, ?_⟩⟩
  simp only [List.set_cons_zero, List.set_cons_succ]
  have lB := (lA.trans (Le.new (o := .lst (xs.take k)) n6)).trans l7
  refine ⟨p, _, _, rfl, lB _ _ h1, nin3 (by decide), p, k, g, xs, L, rfl, B.le lB, by omega, ?_⟩
  refine ⟨_, _, rfl, ((sta_tame o).up (by omega)).same, fun M8 l8 => ?_⟩
  have lC := lB.trans l8
  conv => whnf
  refine ⟨p, _, _, rfl, lC _ _ h1, nin3 (by decide), p, g, xs, L, rfl, B.le lC, fun p7 n7 => ?_⟩
  simp only [List.set_cons_zero, List.set_cons_succ]
  refine ⟨rcv_lst mup_same, p7, _, _, rfl, rfl, mup_same, Nat.lt_of_le_of_lt hl (by decide : 800 < sizeLine), ?_⟩
  rw [mup_mup]
  have lD := lC.trans (Le.new (o := .lst (xs ++ [.int 0])) n7)
  refine ⟨p, _, _, rfl, lD _ _ h1, nin3 (by decide), p, g, xs, L, rfl, B.le lD, fun p8 n8 => ?_⟩
  exact ⟨_, _, rfl, same_list (n := 9) mup_same (mup_new (lD _ _ hr1) n8) (by omega) (fun x h => (flat_tame (hx x h)).up (by omega)), fun M9 l9 => dr (q _ ((lD.trans (Le.new n8)).trans l9))⟩⟩
end
end Tal
set_option maxHeartbeats 400000
/-! deeds drawn -/
namespace Tal
open PySem PySem.Spec PyProof.Rows L2
/-- the deeds the law would take -/
def GoodDeed (g : Game) (s : St0) (x : D) : Prop := match g, s with
  | .rally _, _ => ∃ sd : Bool, x = sdD sd
  | .down g, _ => ∃ t ∈ g.throws, x = .str t.name
  | .lane g, .ln s => ∃ v : Int, x = .int v ∧ 0 ≤ v ∧ v ≤ (s.rows.getD s.side row0).up
  | _, _ => False
theorem good_flat {g : Game} {s : St0} {x : D} (o : g.Ok) (h : GoodDeed g s x) : Flat x := by
  cases g with
  | rally r => obtain ⟨sd, rfl⟩ := h; exact .inl ⟨_, rfl⟩
  | down g => obtain ⟨t, ht, rfl⟩ := h; exact .inr ⟨_, rfl, (Down.Ok.nm o t ht).ok⟩
  | lane g =>
    cases s with
    | ln s => obtain ⟨v, rfl, _⟩ := h; exact .inl ⟨_, rfl⟩
    | _ => exact h.elim
section
variable {P : Program} {w : World} {K : PySem.W.Frag} {mg : Str → Option Value} {base : Heap}
def sp_deed : DSp := fun ds M Q _ => ∃ (t : Addr) (g : Game) (S : Sta), ds = [.ref t, g.d, S.st.d] ∧ M t = some .tape ∧ g.Ok ∧ FitS g S ∧ ∀ M' x, Le M M' → GoodDeed g S.st x → Q x M'
theorem ok__law_deed (T : Tx K mg)  : Ok P w K mg base .no (2) "_law_deed" ["_law_tape_here", "_law_game_here", "_law_stand"] (sp_deed) :=
  ok_no T.d__law_deed T.g__law_deed sc__law_deed (fun _ _ _ _ _ _ us hl => match us, hl with | [_, _, _], _ => rfl) (fun ds M Q E h => by first | (obtain ⟨_, rfl, _⟩ := h; rfl) | (obtain ⟨_, _, rfl, _⟩ := h; rfl) | (obtain ⟨_, _, _, rfl, _⟩ := h; rfl) | (obtain ⟨_, _, _, _, rfl, _⟩ := h; rfl) | (obtain ⟨_, _, _, _, _, rfl, _⟩ := h; rfl) | (obtain ⟨_, _, _, _, _, _, rfl, _⟩ := h; rfl) | (obtain ⟨_, _, _, _, _, _, _, rfl, _⟩ := h; rfl) | (obtain ⟨_, _, _, _, _, _, _, _, rfl, _⟩ := h; rfl) | (obtain ⟨_, _, _, _, _, _, _, _, _, rfl, _⟩ := h; rfl) | (obtain ⟨_, _, _, _, _, _, _, _, _, _, rfl, _⟩ := h; rfl) | (obtain ⟨_, _, _, _, _, _, _, _, _, _, _, rfl, _⟩ := h; rfl)) fun f cdv A outer s H E hr => ⟨_, w__law_deed T (hu_of hr) (ok__law_draw T) (hr.mono (by first | decide | omega)), fun ds M Q E h => by
  obtain ⟨t, g, S, rfl, ht, o, ft, q⟩ := h
  rw [show startD N__law_deed [.ref t, g.d, S.st.d] = [some (.ref t), some (g.d), some (S.st.d), none] from rfl]
  cases g with
  | rally r =>
    refine ⟨_, rfl, ⟨t, 2, rfl, ht, by decide, fun v h0 h1 => dr (q M _ (.refl M) ?_)⟩⟩
    by_cases z : v = 0
    · exact ⟨false, by rw [z]; rfl⟩
    · exact ⟨true, by rw [show v = 1 by omega]; rfl⟩
  | down g =>
    have n1 := Down.Ok.n1 o
    have n5 := Down.Ok.n5 o
    refine ⟨_, rfl, ⟨_, rfl, ⟨_, rfl, _, rfl, _, rfl, _, rfl, t, _, rfl, ht, ?_, fun v h0 h1 => ?_⟩⟩⟩
    · rw [List.length_map]; omega
    · obtain ⟨d, hd, e⟩ := ixL (xs := g.throws.map Throw.d) h0 h1
      obtain ⟨t', ht', rfl⟩ := List.mem_map.mp hd
      exact ⟨_, e, _, rfl, dr (q M _ (.refl M) ⟨t', ht', rfl⟩)⟩
  | lane g =>
    obtain ⟨st, wn⟩ := S
    cases st with
    | ln s =>
      obtain ⟨f1, f2, f3⟩ := ft
      have hs : s.side < s.rows.length := by rw [f1.l]; exact f1.k
      have fu := f1.u _ (rows_mem hs)
      refine ⟨_, rfl, ⟨_, rfl, ⟨_, rfl, _, rfl, _, atI_nat (rows_get hs), _, rfl, ?_⟩⟩⟩
      simp only [List.set_cons_zero, List.set_cons_succ]
      refine ⟨t, _, rfl, ht, ⟨by omega, by omega⟩, fun v h0 h1 p np => ⟨t, 4, rfl, mup_new ht np, by decide, fun i i0 i1 => ?_⟩⟩
      obtain ⟨z, hz, e⟩ := ixI (ns := [(s.rows.getD s.side row0).up, v, (s.rows.getD s.side row0).up, max 0 ((s.rows.getD s.side row0).up - 1)]) i0 i1
      refine ⟨_, _, mup_same, e, dr (q _ _ (.new np) ⟨z, rfl, ?_⟩)⟩
      simp only [List.mem_cons, List.not_mem_nil, or_false] at hz
      rcases hz with rfl | rfl | rfl | rfl <;> omega
    | _ => exact ft.elim⟩
end
end Tal
set_option maxHeartbeats 400000
/-! rows drawn -/
namespace Tal
open PySem PySem.Spec PyProof.Rows L2
theorem good_step {g : Game} {S : Sta} {x : D} (ft : FitS g S) (hw : S.win = none) (h : GoodDeed g S.st x) : ∃ S', step g S x = some S' := by
  obtain ⟨s, w⟩ := S
  cases hw
  cases g with
  | rally r =>
    cases s with
    | rs s =>
      obtain ⟨sd, rfl⟩ := h
      exact ⟨_, by rw [step_r, show sideOf (sdD sd) = some sd from by cases sd <;> rfl]; rfl⟩
    | _ => exact ft.elim
  | down g =>
    cases s with
    | dn s =>
      obtain ⟨t, ht, rfl⟩ := h
      cases e : g.find (.str t.name) with
      | none =>
        have := List.find?_eq_none.mp e t ht
        exact absurd (decide_eq_true rfl) this
      | some u => exact ⟨_, by rw [step_d, e]; rfl⟩
    | _ => exact ft.elim
  | lane g =>
    cases s with
    | ln s =>
      obtain ⟨v, rfl, hv⟩ := h
      exact ⟨_, by rw [step_l, show pinsOf (s.rows.getD s.side row0).up (.int v) = some v from if_pos hv]; rfl⟩
    | _ => exact ft.elim
section
variable {P : Program} {w : World} {K : PySem.W.Frag} {mg : Str → Option Value} {base : Heap}
def sp_run : DSp := fun ds M Q _ => ∃ (t : Addr) (g : Game) (m : Nat), ds = [.ref t, g.d, .int m] ∧ M t = some .tape ∧ g.Ok ∧ m ≤ 30 ∧ ∀ M' p ys, Le M M' → M p = none → M' p = some (.lst ys) → (rd g g.first ys).1 = ys.length → ys.length ≤ 30 → (∀ x ∈ ys, Flat x) → Q (.ref p) M'
theorem ok__law_run (T : Tx K mg)  : Ok P w K mg base .no (9) "_law_run" ["_law_tape_here", "_law_game_here", "_law_most"] (sp_run) :=
  ok_no T.d__law_run T.g__law_run sc__law_run (fun _ _ _ _ _ _ us hl => match us, hl with | [_, _, _], _ => rfl) (fun ds M Q E h => by first | (obtain ⟨_, rfl, _⟩ := h; rfl) | (obtain ⟨_, _, rfl, _⟩ := h; rfl) | (obtain ⟨_, _, _, rfl, _⟩ := h; rfl) | (obtain ⟨_, _, _, _, rfl, _⟩ := h; rfl) | (obtain ⟨_, _, _, _, _, rfl, _⟩ := h; rfl) | (obtain ⟨_, _, _, _, _, _, rfl, _⟩ := h; rfl) | (obtain ⟨_, _, _, _, _, _, _, rfl, _⟩ := h; rfl) | (obtain ⟨_, _, _, _, _, _, _, _, rfl, _⟩ := h; rfl) | (obtain ⟨_, _, _, _, _, _, _, _, _, rfl, _⟩ := h; rfl) | (obtain ⟨_, _, _, _, _, _, _, _, _, _, rfl, _⟩ := h; rfl) | (obtain ⟨_, _, _, _, _, _, _, _, _, _, _, rfl, _⟩ := h; rfl)) fun f cdv A outer s H E hr => ⟨_, w__law_run T (hu_of hr) (ok__law_draw T) (hr.mono (by first | decide | omega)) (ok__law_read T) (hr.mono (by first | decide | omega)) (ok__law_deed T) (hr.mono (by first | decide | omega)), fun ds M Q E h => by
  obtain ⟨t, g, m, rfl, ht, o, hm, q⟩ := h
  rw [show startD N__law_run [.ref t, g.d, .int (m : Int)] = [some (.ref t), some (g.d), some (.int (m : Int)), none, none, none, none, none, none, none] from rfl]
  refine fun p np => ⟨t, 3, rfl, mup_new ht np, by decide, fun sd s0 s1 => ?_⟩
  simp only [List.set_cons_zero, List.set_cons_succ]
  refine ⟨_, rfl, by omega, by omega, fun j δ M2 => ∃ (ys : List D) (o5 o6 o7 o8 o9 : Option D), δ = [some (.ref t), some g.d, some (.int (m : Int)), some (.ref p), some (.int sd), o5, o6, o7, o8, o9] ∧ M2 p = some (.lst ys) ∧ Le M M2 ∧ (rd g g.first ys).1 = ys.length ∧ ys.length ≤ j ∧ (∀ x ∈ ys, Flat x), ?_, ?_, ?_⟩
  · exact ⟨[], none, none, none, none, none, rfl, mup_same, .new np, rfl, Nat.zero_le _, fun x h => by cases h⟩
  · rintro j δ M2 hj ⟨ys, o5, o6, o7, o8, o9, rfl, hp, le2, hf, hl, hx⟩
    refine ⟨g, p, ys, rfl, o, hp, by omega, flat_all hx, fun M3 l3 => ⟨rfl, ?_⟩⟩
    simp only [List.set_cons_zero, List.set_cons_succ]
    have le3 := le2.trans l3
    have hp3 := l3 _ _ hp
    have ft := rd_fit o ys _ (first_fit o)
    have hs := @rd_push g ys g.first
    generalize hS : (rd g g.first ys).2 = S at ft hs
    cases hw : S.win with
    | some l =>
      conv => whnf
      exact dr (q M3 p ys le3 np hp3 hf (by omega) hx)
    | none =>
      conv => whnf
      refine ⟨t, g, S, rfl, le3 _ _ (by first | exact ht), o, ft, fun M5 x l5 hg => ?_⟩
      have le5 := le3.trans l5
      have hp5 := l5 _ _ hp3
      simp only [List.set_cons_zero, List.set_cons_succ]
      have fin : ∀ (y : D), GoodDeed g S.st y → (mup M5 p (.lst (ys ++ [y]))) p = some (.lst (ys ++ [y])) ∧ Le M (mup M5 p (.lst (ys ++ [y]))) ∧ (rd g g.first (ys ++ [y])).1 = (ys ++ [y]).length ∧ (ys ++ [y]).length ≤ j + 1 ∧ ∀ z ∈ ys ++ [y], Flat z := fun y hy => by
        obtain ⟨S', e⟩ := good_step ft hw hy
        refine ⟨mup_same, fun a u e => ?_, ?_, ?_, fun z hz => ?_⟩
        · rw [mup_ne (fun z => by rw [z, np] at e; cases e)]; exact le5 _ _ e
        · rw [hs hf e, List.length_append]; rfl
        · rw [List.length_append, List.length_singleton]; omega
        · rcases List.mem_append.mp hz with z1 | z1
          · exact hx z z1
          · rw [List.mem_singleton.mp z1]; exact good_flat o hy
      have hln : ys.length < sizeLine := Nat.lt_of_lt_of_le (by omega : ys.length < 900) (by decide)
      cases g with
      | rally ru =>
        refine ⟨_, rfl, ⟨?_⟩⟩
        refine br_p (fun c1 => ⟨t, 3, rfl, le5 _ _ ht, by decide, fun v v0 v1 => ?_⟩) (fun c1 => ?_)
        · refine br_p (fun c2 => ?_) (fun c2 => ?_)
          · refine ⟨rcv_lst hp5, p, _, _, rfl, rfl, hp5, hln, ys ++ [.int sd], _, _, _, _, _, rfl, fin _ ?_⟩
            by_cases z : sd = 0
            · exact ⟨false, by rw [z]; rfl⟩
            · exact ⟨true, by rw [show sd = 1 by omega]; rfl⟩
          · exact ⟨rcv_lst hp5, p, _, _, rfl, rfl, hp5, hln, ys ++ [x], _, _, _, _, _, rfl, fin _ hg⟩
        · exact ⟨rcv_lst hp5, p, _, _, rfl, rfl, hp5, hln, ys ++ [x], _, _, _, _, _, rfl, fin _ hg⟩
      | down g => exact ⟨_, rfl, ⟨rcv_lst hp5, p, _, _, rfl, rfl, hp5, hln, ys ++ [x], _, _, _, _, _, rfl, fin _ hg⟩⟩
      | lane g => exact ⟨_, rfl, ⟨rcv_lst hp5, p, _, _, rfl, rfl, hp5, hln, ys ++ [x], _, _, _, _, _, rfl, fin _ hg⟩⟩
  · rintro δ M2 ⟨ys, o5, o6, o7, o8, o9, rfl, hp, le2, hf, hl, hx⟩
    exact dr (q M2 p ys le2 np hp hf (by omega) hx)⟩
end
end Tal
set_option maxHeartbeats 400000
/-! any deeds -/
namespace Tal
open PySem PySem.Spec PyProof.Rows L2
section
variable {P : Program} {w : World} {K : PySem.W.Frag} {mg : Str → Option Value} {base : Heap}
def sp_any_deed : DSp := fun ds M Q _ => ∃ (t r : Addr) (g : Game) (xs : List D), ds = [.ref t, g.d, .ref r] ∧ M t = some .tape ∧ g.Ok ∧ M r = some (.lst xs) ∧ (rd g g.first xs).1 = xs.length ∧ xs.length ≤ 800 ∧ (∀ x ∈ xs, Flat x) ∧ ∀ M' x, Le M M' → Deed M' x → Q x M'
theorem ok__law_any_deed (T : Tx K mg)  : Ok P w K mg base .no (9) "_law_any_deed" ["_law_tape_here", "_law_game_here", "_law_row"] (sp_any_deed) :=
  ok_no T.d__law_any_deed T.g__law_any_deed sc__law_any_deed (fun _ _ _ _ _ _ us hl => match us, hl with | [_, _, _], _ => rfl) (fun ds M Q E h => by first | (obtain ⟨_, rfl, _⟩ := h; rfl) | (obtain ⟨_, _, rfl, _⟩ := h; rfl) | (obtain ⟨_, _, _, rfl, _⟩ := h; rfl) | (obtain ⟨_, _, _, _, rfl, _⟩ := h; rfl) | (obtain ⟨_, _, _, _, _, rfl, _⟩ := h; rfl) | (obtain ⟨_, _, _, _, _, _, rfl, _⟩ := h; rfl) | (obtain ⟨_, _, _, _, _, _, _, rfl, _⟩ := h; rfl) | (obtain ⟨_, _, _, _, _, _, _, _, rfl, _⟩ := h; rfl) | (obtain ⟨_, _, _, _, _, _, _, _, _, rfl, _⟩ := h; rfl) | (obtain ⟨_, _, _, _, _, _, _, _, _, _, rfl, _⟩ := h; rfl) | (obtain ⟨_, _, _, _, _, _, _, _, _, _, _, rfl, _⟩ := h; rfl)) fun f cdv A outer s H E hr => ⟨_, w__law_any_deed T (hu_of hr) (ok__law_read T) (hr.mono (by first | decide | omega)) (ok__law_draw T) (hr.mono (by first | decide | omega)) (ok__law_deed T) (hr.mono (by first | decide | omega)), fun ds M Q E h => by
  obtain ⟨t, r, g, xs, rfl, ht, o, hr1, hf, hl, hx, q⟩ := h
  rw [show startD N__law_any_deed [.ref t, g.d, .ref r] = [some (.ref t), some (g.d), some (.ref r), none, none, none, none] from rfl]
  refine ⟨g, r, xs, rfl, o, hr1, by omega, flat_all hx, fun M1 l1 => ⟨rfl, ?_⟩⟩
  simp only [List.set_cons_zero, List.set_cons_succ]
  refine ⟨t, 6, rfl, l1 _ _ ht, by decide, fun v v0 v1 => ⟨?_⟩⟩
  simp only [List.set_cons_zero, List.set_cons_succ]
  refine br_p (fun c1 => ?_) (fun c1 => ⟨?_⟩)
  · refine fun p1 n1 => ?_
    have l2 := l1.trans (Le.new (o := .lst [.int 0]) n1)
    refine ⟨⟨by decide, by decide, by decide⟩, fun p2 n2 => ⟨t, 11, rfl, mup_new (l2 _ _ ht) n2, by decide, fun i i0 i1 => ?_⟩⟩
    obtain ⟨d, hd, e⟩ := ixL (xs := [D.non, .bl true, .int (-1), .int 2, .str "", .str "point", .ref p1, .tup [.int 1], .int (10 ^ (30 : Int).toNat), .bl false, .int 21]) i0 i1
    refine ⟨_, d, mup_same, e, dr (q _ d (l2.trans (.new n2)) ?_)⟩
    simp only [List.mem_cons, List.not_mem_nil, or_false] at hd
    rcases hd with rfl | rfl | rfl | rfl | rfl | rfl | rfl | rfl | rfl | rfl | rfl
    · exact ⟨True.intro, _, .non, rfl⟩
    · exact ⟨True.intro, _, .bl _, rfl⟩
    · exact ⟨True.intro, _, .int _, rfl⟩
    · exact ⟨True.intro, _, .int _, rfl⟩
    · exact ⟨True.intro, _, .str _, by decide +kernel⟩
    · exact ⟨True.intro, _, .str _, by decide +kernel⟩
    · exact ⟨⟨_, mup_new mup_same n2⟩, _, .lst (mup_new mup_same n2) (.cons (.int 0) .nil), by decide +kernel⟩
    · exact ⟨True.intro, _, .tup (.cons (.int 1) .nil), by decide +kernel⟩
    · exact ⟨True.intro, _, .int _, rfl⟩
    · exact ⟨True.intro, _, .bl _, rfl⟩
    · exact ⟨True.intro, _, .int _, rfl⟩
  · have ft := rd_fit o xs _ (first_fit o)
    have fin : ∀ M5, Le M M5 → (rRet (rCall .no sp_deed (rCons (rVar 0) (rCons (rVar 1) (rCons (rVar 4) rNil))))) (endsD .no Q E) [some (.ref t), some g.d, some (.ref r), some (.int ((rd g g.first xs).1 : Nat)), some (rd g g.first xs).2.st.d, some (winD (rd g g.first xs).2.win), some (.int v)] M5 := fun M5 l5 =>
      ⟨t, g, _, rfl, l5 _ _ ht, o, ft, fun M6 x l6 hg => dr (q M6 x (l5.trans l6) (good_flat o hg).deed)⟩
    refine br_p (fun c2 => fun p2 n2 => ?_) (fun c2 => fin _ l1)
    have l2 := l1.trans (Le.new (o := .lst []) n2)
    refine gNe_nil (l2 _ _ hr1) (fun x h => flat_plain (hx x h)) mup_same ?_
    cases he : xs.isEmpty with
    | true => exact fin _ l2
    | false =>
      have h0 : 0 < xs.length := by
        cases xs with
        | nil => cases he
        | cons y ys => simp
      refine ⟨_, l2 _ _ hr1, t, _, rfl, l2 _ _ ht, ⟨by omega, by omega⟩, fun i i0 i1 => ?_⟩
      obtain ⟨d, hd, e⟩ := ixL (xs := xs) i0 i1
      exact ⟨_, d, l2 _ _ hr1, e, dr (q _ d l2 (hx d hd).deed)⟩⟩
end
end Tal
set_option maxHeartbeats 400000
/-! names drawn -/
namespace Tal
open PySem PySem.Spec PyProof.Rows L2
def alnum : Str := "abcdefghijklmnopqrstuvwxyz0123456789"
theorem an_len : alnum.cps.toList.length = 36 := by decide +kernel
theorem an_split : ∀ c ∈ alnum.cps.toList, c ∈ letters.cps.toList ∨ c ∈ figures.cps.toList := by decide +kernel
theorem an_low : ∀ i, i < 26 → alnum.cps.toList.getD i 0 ∈ letters.cps.toList := by decide +kernel
theorem an_inj : ∀ i, i < 36 → ∀ j, j < 36 → alnum.cps.toList.getD i 0 = alnum.cps.toList.getD j 0 → i = j := by decide +kernel
def sign (c : Nat) : Str := ⟨#[c]⟩
theorem join_sign : ∀ cs : List Nat, (Str.join Str.empty (cs.map sign)).cps.toList = cs
  | [] => rfl
  | [c] => rfl
  | c :: d :: cs => by
    have h := join_sign (d :: cs)
    show ((sign c ++ Str.empty ++ Str.join Str.empty ((d :: cs).map sign)) : Str).cps.toList = _
    show ((#[c] ++ #[]) ++ (Str.join Str.empty ((d :: cs).map sign)).cps).toList = _
    rw [Array.toList_append, h]; rfl
theorem join_txt (cs : List Nat) : (Txt.join "" (cs.map sign)).cps.toList = cs := by
  unfold Txt.join
  rw [StrLaws.glued_eq_join, show ("" : Str) = Str.empty from by decide +kernel]
  exact join_sign cs
theorem str_ext {a b : Str} (h : a.cps.toList = b.cps.toList) : a = b := by
  obtain ⟨⟨a⟩⟩ := a
  obtain ⟨⟨b⟩⟩ := b
  cases h; rfl
theorem name_of {z : Str} {c : Nat} {cs : List Nat} (h : z.cps.toList = c :: cs) (hc : c ∈ letters.cps.toList) (hs : ∀ x ∈ cs, x ∈ alnum.cps.toList) (l : cs.length ≤ 7) : Name z := by
  have hl : z.length = cs.length + 1 := by
    show z.cps.size = _
    rw [← Array.length_toList, h]; rfl
  refine ⟨by omega, by omega, ⟨c, ?_, hc⟩, fun x hx => ?_⟩
  · rw [← Array.getElem?_toList, h]; rfl
  · rw [h] at hx
    rcases List.mem_cons.mp hx with rfl | hx
    · exact .inl hc
    · exact an_split x (hs x hx)
/-- the word of eight signs -/
structure Wd (z : Str) (w : List Nat) : Prop where
  e : z.cps.toList = w
  l : w.length = 8
  hd : ∃ c cs, w = c :: cs ∧ c ∈ letters.cps.toList ∧ ∀ x ∈ cs, x ∈ alnum.cps.toList
theorem Wd.len {z : Str} {w : List Nat} (h : Wd z w) : z.length = 8 := by
  show z.cps.size = 8
  rw [← Array.length_toList, h.e]; exact h.l
theorem Wd.lo {z : Str} {w : List Nat} (h : Wd z w) {k : Nat} (hk : k ≤ 8) : (cutS z none (some (k : Int))).cps.toList = w.take k := by
  unfold cutS
  rw [HT.sIx_nat, HT.sIx_none, h.len, h.e, Nat.min_eq_left hk]; simp
theorem Wd.mid {z : Str} {w : List Nat} (h : Wd z w) {a b : Nat} (ha : a ≤ 8) (hb : b ≤ 8) : (cutS z (some (a : Int)) (some (b : Int))).cps.toList = (w.drop a).take (b - a) := by
  unfold cutS
  rw [HT.sIx_nat, HT.sIx_nat, h.len, h.e, Nat.min_eq_left ha, Nat.min_eq_left hb]
def preN (z : Str) (k : Nat) : Str := cutS z none (some ((k : Int) + 1))
theorem preN_list {z : Str} {w : List Nat} (h : Wd z w) {k : Nat} (hk : k < 8) : (preN z k).cps.toList = w.take (k + 1) := h.lo (k := k + 1) hk
theorem preN_name {z : Str} {w : List Nat} (h : Wd z w) {k : Nat} (hk : k < 8) : Name (preN z k) := by
  obtain ⟨c, cs, e, hc, hs⟩ := h.hd
  have l := h.l
  have e2 := preN_list h hk
  rw [e] at e2 l
  refine name_of (cs := cs.take k) e2 hc (fun x hx => hs x (List.mem_of_mem_take hx)) ?_
  rw [List.length_take]; omega
def sgN (z : Str) (pl sz : Nat) (tn : Int) (k : Nat) : Str := cutS z none (some (pl : Int)) ++ sign (alnum.cps.toList.getD ((tn.toNat + 5 * k) % 36) 0) ++ cutS z (some ((pl + 1 : Nat) : Int)) (some (sz : Int))
theorem an_get {i : Nat} (h : i < 36) : alnum.cps.toList[i]? = some (alnum.cps.toList.getD i 0) := by
  have l := an_len
  rw [List.getD_eq_getElem?_getD, List.getElem?_eq_getElem (by omega)]; rfl
theorem an_mem {i : Nat} (h : i < 36) : alnum.cps.toList.getD i 0 ∈ alnum.cps.toList := List.mem_of_getElem? (an_get h)
theorem an_at {r : Int} (h0 : 0 ≤ r) (h1 : r < 36) : atI alnum.cps.toList r = some (alnum.cps.toList.getD r.toNat 0) := by
  obtain ⟨j, rfl⟩ : ∃ j : Nat, r = j := ⟨r.toNat, by omega⟩
  exact atI_nat (an_get (by omega))
theorem sum_sign : ∀ cs : List Nat, ((cs.map sign).map (·.length)).sum = cs.length
  | [] => rfl
  | c :: cs => by
    rw [List.map_cons, List.map_cons, List.sum_cons, sum_sign cs, List.length_cons, show (sign c).length = 1 from rfl]; omega
theorem wd_of {c : Nat} {cs : List Nat} (hc : c ∈ letters.cps.toList) (l : cs.length = 7) (h : ∀ x ∈ cs, x ∈ alnum.cps.toList) : Wd (sign c ++ Txt.join "" (cs.map sign)) (c :: cs) := by
  refine ⟨?_, by rw [List.length_cons, l], c, cs, rfl, hc, h⟩
  show (#[c] ++ (Txt.join "" (cs.map sign)).cps).toList = c :: cs
  rw [Array.toList_append, join_txt]; rfl
theorem sgN_list {z : Str} {w : List Nat} (h : Wd z w) {pl sz k : Nat} {tn : Int} (hp : pl < 8) (hs : sz ≤ 8) : (sgN z pl sz tn k).cps.toList = w.take pl ++ [alnum.cps.toList.getD ((tn.toNat + 5 * k) % 36) 0] ++ (w.drop (pl + 1)).take (sz - (pl + 1)) := by
  show ((cutS z none (some (pl : Int))).cps ++ #[_] ++ (cutS z (some ((pl + 1 : Nat) : Int)) (some (sz : Int))).cps).toList = _
  rw [Array.toList_append, Array.toList_append, h.lo (by omega), h.mid (by omega) hs]
theorem sgN_name {z : Str} {w : List Nat} (h : Wd z w) {pl sz k : Nat} {tn : Int} (h1 : 1 ≤ pl) (hp : pl < 8) (hs : sz ≤ 8) : Name (sgN z pl sz tn k) := by
  obtain ⟨c, cs, e, hc, hcs⟩ := h.hd
  have l := h.l
  have e2 := sgN_list (k := k) (tn := tn) h hp hs
  obtain ⟨p, rfl⟩ : ∃ p, pl = p + 1 := ⟨pl - 1, by omega⟩
  rw [e] at e2 l
  have l : cs.length + 1 = 8 := l
  refine name_of (cs := cs.take p ++ [alnum.cps.toList.getD ((tn.toNat + 5 * k) % 36) 0] ++ (cs.drop (p + 1)).take (sz - (p + 2))) e2 hc (fun x hx => ?_) ?_
  · rcases List.mem_append.mp hx with hx | hx
    · rcases List.mem_append.mp hx with hx | hx
      · exact hcs x (List.mem_of_mem_take hx)
      · rw [List.mem_singleton.mp hx]; exact an_mem (Nat.mod_lt _ (by decide))
    · exact hcs x (List.mem_of_mem_drop (List.mem_of_mem_take hx))
  · rw [List.length_append, List.length_append, List.length_take, List.length_take, List.length_drop, List.length_singleton]; omega
theorem nd_map {α β : Type} {f : α → β} {l : List α} (nd : l.Nodup) (h : ∀ a ∈ l, ∀ b ∈ l, f a = f b → a = b) : (l.map f).Nodup := by
  unfold List.Nodup at *
  rw [List.pairwise_map]
  exact nd.imp_of_mem fun ha hb ne e => ne (h _ ha _ hb e)
theorem pre_nodup {z : Str} {w : List Nat} (h : Wd z w) {m : Nat} (hm : m ≤ 5) : ((List.range m).map (preN z)).Nodup := by
  refine nd_map List.nodup_range fun a ha b hb e => ?_
  have ha := List.mem_range.mp ha
  have hb := List.mem_range.mp hb
  have l := h.l
  have e2 := congrArg (fun z : Str => z.cps.toList.length) e
  simp only [preN_list h (show a < 8 by omega), preN_list h (show b < 8 by omega), List.length_take] at e2
  omega
theorem sg_nodup {z : Str} {w : List Nat} (h : Wd z w) {m pl sz : Nat} {tn : Int} (hm : m ≤ 5) (h1 : 1 ≤ pl) (hp : pl < 8) (hs : sz ≤ 8) : ((List.range m).map (sgN z pl sz tn)).Nodup := by
  refine nd_map List.nodup_range fun a ha b hb e => ?_
  have ha := List.mem_range.mp ha
  have hb := List.mem_range.mp hb
  have l := h.l
  have e2 := congrArg (fun z : Str => z.cps.toList[pl]?) e
  simp only [sgN_list h hp hs] at e2
  have lt : (w.take pl).length = pl := by rw [List.length_take]; omega
  rw [List.append_assoc, List.append_assoc, List.getElem?_append_right (Nat.le_of_eq lt), List.getElem?_append_right (Nat.le_of_eq lt), lt, Nat.sub_self] at e2
  have e3 : alnum.cps.toList.getD ((tn.toNat + 5 * a) % 36) 0 = alnum.cps.toList.getD ((tn.toNat + 5 * b) % 36) 0 := Option.some.inj e2
  have e4 := an_inj _ (Nat.mod_lt _ (by decide)) _ (Nat.mod_lt _ (by decide)) e3
  omega
theorem gAdd_i {i j k : Int} {M : Mp} {Q : DQ} (h : i + j = k) (q : Q (.int k) M) : gAdd (.int i) (.int j) M Q := by subst h; exact q
section
variable {P : Program} {w : World} {K : PySem.W.Frag} {mg : Str → Option Value} {base : Heap}
def sp_names : DSp := fun ds M Q _ => ∃ (t : Addr) (m : Nat), ds = [.ref t, .int m] ∧ M t = some .tape ∧ m ≤ 5 ∧ ∀ (M' : Mp) (p : Addr) (zs : List Str), Le M M' → M' p = some (.lst (zs.map D.str)) → zs.length = m → (∀ z ∈ zs, Name z) → zs.Nodup → Q (.ref p) M'
theorem ok__law_names (T : Tx K mg)  : Ok P w K mg base .no (2) "_law_names" ["_law_tape_here", "_law_many"] (sp_names) :=
  ok_no T.d__law_names T.g__law_names sc__law_names (fun _ _ _ _ _ _ us hl => match us, hl with | [_, _], _ => rfl) (fun ds M Q E h => by first | (obtain ⟨_, rfl, _⟩ := h; rfl) | (obtain ⟨_, _, rfl, _⟩ := h; rfl) | (obtain ⟨_, _, _, rfl, _⟩ := h; rfl) | (obtain ⟨_, _, _, _, rfl, _⟩ := h; rfl) | (obtain ⟨_, _, _, _, _, rfl, _⟩ := h; rfl) | (obtain ⟨_, _, _, _, _, _, rfl, _⟩ := h; rfl) | (obtain ⟨_, _, _, _, _, _, _, rfl, _⟩ := h; rfl) | (obtain ⟨_, _, _, _, _, _, _, _, rfl, _⟩ := h; rfl) | (obtain ⟨_, _, _, _, _, _, _, _, _, rfl, _⟩ := h; rfl) | (obtain ⟨_, _, _, _, _, _, _, _, _, _, rfl, _⟩ := h; rfl) | (obtain ⟨_, _, _, _, _, _, _, _, _, _, _, rfl, _⟩ := h; rfl)) fun f cdv A outer s H E hr => ⟨_, w__law_names T (hu_of hr) (ok__law_draw T) (hr.mono (by first | decide | omega)), fun ds M Q E h => by
  obtain ⟨t, m, rfl, ht, hm, q⟩ := h
  rw [show startD N__law_names [.ref t, .int (m : Int)] = [some (.ref t), some (.int (m : Int)), none, none, none, none, none, none, none, none, none] from rfl]
  have la : alnum.length ≤ sizeLine := sz (by decide +kernel)
  refine ⟨7, rfl, by omega, fun p1 n1 => ⟨fun k acc => ∃ cs : List Nat, acc = (cs.map sign).map D.str ∧ cs.length = k ∧ ∀ c ∈ cs, c ∈ alnum.cps.toList, ⟨[], rfl, rfl, fun c h => by cases h⟩, ?_, ?_⟩⟩
  · rintro k d acc hk hi ⟨cs, rfl, hl, hc⟩
    refine ⟨t, 36, rfl, mup_new ht n1, by decide, fun r r0 r1 => ⟨la, _, an_at r0 r1, .refl _, cs ++ [alnum.cps.toList.getD r.toNat 0], by simp [sign], by simp [hl], fun c hx => ?_⟩⟩
    rcases List.mem_append.mp hx with hx | hx
    · exact hc c hx
    · rw [List.mem_singleton.mp hx]; exact an_mem (by omega)
  · rintro acc ⟨cs, rfl, hl, hc⟩
    simp only [List.set_cons_zero, List.set_cons_succ]
    have ht1 := mup_new (o := .lst ((cs.map sign).map D.str)) ht n1
    have le1 := Le.new (M := M) (o := .lst ((cs.map sign).map D.str)) n1
    refine ⟨t, 26, rfl, ht1, by decide, fun r r0 r1 => ⟨la, _, an_at r0 (by omega), rcv_str, "", p1, cs.map sign, rfl, rfl, mup_same, ?_, ?_⟩⟩
    · rw [sum_sign, List.length_map, hl]; decide +kernel
    have hc0 := an_low r.toNat (by omega)
    generalize alnum.cps.toList.getD r.toNat 0 = c0 at hc0
    have W : Wd ((⟨#[c0]⟩ : Str) ++ Txt.join "" (cs.map sign)) (c0 :: cs) := wd_of hc0 hl hc
    have wl := W.len
    have e8 : (⟨#[c0]⟩ : Str).length + (Txt.join "" (cs.map sign)).length = 8 := by rw [← wl]; exact (Str.length_append _ _).symm
    refine ⟨sz (show (⟨#[c0]⟩ : Str).length + (Txt.join "" (cs.map sign)).length ≤ 100000 by omega), ?_⟩
    simp only [List.set_cons_zero, List.set_cons_succ]
    generalize (⟨#[c0]⟩ : Str) ++ Txt.join "" (cs.map sign) = z at W wl ⊢
    generalize mup M p1 (.lst ((cs.map sign).map D.str)) = M1 at ht1 le1 ⊢
    have lz : z.length ≤ sizeLine := sz (by omega)
    refine ⟨t, 2, rfl, ht1, by decide, fun b b0 b1 => ⟨?_⟩⟩
    refine br_p (fun h1 => ?_) (fun h1 => ?_)
    · refine ⟨m, rfl, by omega, lcD (((List.range m).map (preN z)).map D.str) (by simp) (fun p acc k d y R np hi hy hR => ?_) fun p np => dr (q _ p _ (le1.trans (.new np)) mup_same (by simp) (fun x hx => ?_) (pre_nodup W hm))⟩
      · have hi : d = .int k := hi
        subst hi
        have hk : k < m := by
          have := (List.getElem?_eq_some_iff.mp hy).1
          simpa using this
        rw [List.getElem?_map, List.getElem?_map, List.getElem?_range hk] at hy
        cases hy
        exact ⟨lz, hR _ (.refl _)⟩
      · obtain ⟨k, hk, rfl⟩ := List.mem_map.mp hx
        have hk := List.mem_range.mp hk
        exact preN_name W (by omega)
    · refine ⟨t, 7, rfl, ht1, by decide, fun pl0 q0 q1 => ?_⟩
      obtain ⟨a, rfl⟩ : ∃ a : Nat, pl0 = a := ⟨pl0.toNat, by omega⟩
      have ea : (1 : Int) + (a : Int) = ((1 + a : Nat) : Int) := by omega
      have h1p : 1 ≤ 1 + a := by omega
      have h7 : 1 + a < 8 := by omega
      refine gAdd_i ea ?_
      simp only [List.set_cons_zero, List.set_cons_succ]
      generalize 1 + a = pl at h1p h7 ⊢
      refine ⟨t, 36, rfl, ht1, by decide, fun tn t0 t1 => ?_⟩
      simp only [List.set_cons_zero, List.set_cons_succ]
      refine ⟨t, _, rfl, ht1, ⟨by omega, by omega⟩, fun s0 s1 s2 => ?_⟩
      obtain ⟨sz0, es, hs⟩ : ∃ n : Nat, (pl : Int) + 1 + s0 = n ∧ n ≤ 8 := ⟨(pl + 1 + s0).toNat, by omega, by omega⟩
      refine gAdd_i es ?_
      simp only [List.set_cons_zero, List.set_cons_succ]
      refine fun p2 n2 => ⟨_, rfl, by omega, by omega, fun j δ M2 => ∃ (o9 o10 : Option D), δ = [some (.ref t), some (.int m), some (.str alnum), some (.ref p1), some (.str z), some (.int pl), some (.int tn), some (.int sz0), some (.ref p2), o9, o10] ∧ M2 = mup M1 p2 (.lst (((List.range j).map (sgN z pl sz0 tn)).map D.str)), ⟨none, none, rfl, rfl⟩, ?_, ?_⟩
      · rintro j δ M2 hj ⟨o9, o10, rfl, rfl⟩
        have hj : j < m := by omega
        refine ⟨.inl ⟨by omega, by omega⟩, by decide, la, alnum.cps.toList.getD ((tn.toNat + 5 * j) % 36) 0, ?_, ?_⟩
        · rw [show (tn + 5 * (j : Int)) % 36 = (((tn.toNat + 5 * j) % 36 : Nat) : Int) by omega]
          exact atI_nat (an_get (Nat.mod_lt _ (by decide)))
        simp only [List.set_cons_zero, List.set_cons_succ]
        have l1 := cutS_length z none (some (pl : Int))
        have l2 := cutS_length z (some ((pl + 1 : Nat) : Int)) (some (sz0 : Int))
        have l3 : (sign (alnum.cps.toList.getD ((tn.toNat + 5 * j) % 36) 0)).length = 1 := rfl
        refine ⟨rcv_lst mup_same, lz, sz (show (cutS z none (some (pl : Int))).length + (sign (alnum.cps.toList.getD ((tn.toNat + 5 * j) % 36) 0)).length ≤ 100000 by omega), lz, sz ?_, p2, _, _, rfl, rfl, mup_same, ?_, _, _, rfl, ?_⟩
        · show (cutS z none (some (pl : Int)) ++ sign (alnum.cps.toList.getD ((tn.toNat + 5 * j) % 36) 0)).length + (cutS z (some ((pl + 1 : Nat) : Int)) (some (sz0 : Int))).length ≤ 100000
          rw [Str.length_append]; omega
        · exact Nat.lt_of_le_of_lt (by simp; omega : _ ≤ 5) (by decide : 5 < sizeLine)
        · rw [mup_mup, List.range_succ, List.map_append, List.map_append]; rfl
      · rintro δ M2 ⟨o9, o10, rfl, rfl⟩
        refine dr (q _ p2 _ (le1.trans (.new n2)) mup_same (by simp) (fun x hx => ?_) (sg_nodup W hm h1p h7 hs))
        obtain ⟨k, hk, rfl⟩ := List.mem_map.mp hx
        exact sgN_name W h1p h7 hs⟩
end
end Tal
set_option maxHeartbeats 400000
/-! games drawn -/
namespace Tal
open PySem PySem.Spec PyProof.Rows L2
section
variable {P : Program} {w : World} {K : PySem.W.Frag} {mg : Str → Option Value} {base : Heap}
def sp_a_down : DSp := fun ds M Q _ => ∃ (t : Addr) (gr : Int), ds = [.ref t, .int gr] ∧ M t = some .tape ∧ (1 ≤ gr ∧ gr ≤ 999999) ∧ ∀ M' (g : Down), Le M M' → g.Ok → Q g.d M'
theorem ok__law_a_down (T : Tx K mg)  : Ok P w K mg base .no (3) "_law_a_down" ["_law_tape_here", "_law_great"] (sp_a_down) :=
  ok_no T.d__law_a_down T.g__law_a_down sc__law_a_down (fun _ _ _ _ _ _ us hl => match us, hl with | [_, _], _ => rfl) (fun ds M Q E h => by first | (obtain ⟨_, rfl, _⟩ := h; rfl) | (obtain ⟨_, _, rfl, _⟩ := h; rfl) | (obtain ⟨_, _, _, rfl, _⟩ := h; rfl) | (obtain ⟨_, _, _, _, rfl, _⟩ := h; rfl) | (obtain ⟨_, _, _, _, _, rfl, _⟩ := h; rfl) | (obtain ⟨_, _, _, _, _, _, rfl, _⟩ := h; rfl) | (obtain ⟨_, _, _, _, _, _, _, rfl, _⟩ := h; rfl) | (obtain ⟨_, _, _, _, _, _, _, _, rfl, _⟩ := h; rfl) | (obtain ⟨_, _, _, _, _, _, _, _, _, rfl, _⟩ := h; rfl) | (obtain ⟨_, _, _, _, _, _, _, _, _, _, rfl, _⟩ := h; rfl) | (obtain ⟨_, _, _, _, _, _, _, _, _, _, _, rfl, _⟩ := h; rfl)) fun f cdv A outer s H E hr => ⟨_, w__law_a_down T (hu_of hr) (ok__law_draw T) (hr.mono (by first | decide | omega)) (ok__law_names T) (hr.mono (by first | decide | omega)), fun ds M Q E h => by
  obtain ⟨t, gr, rfl, ht, hgr, q⟩ := h
  rw [show startD N__law_a_down [.ref t, .int gr] = [some (.ref t), some (.int gr), none, none, none, none, none, none, none] from rfl]
  refine ⟨t, 3, rfl, ht, by decide, fun sd0 a0 a1 => ?_⟩
  obtain ⟨sd, es, hs1, hs3⟩ : ∃ n : Nat, (1 : Int) + sd0 = n ∧ 1 ≤ n ∧ n ≤ 3 := ⟨(1 + sd0).toNat, by omega, by omega, by omega⟩
  refine gAdd_i es ?_
  simp only [List.set_cons_zero, List.set_cons_succ]
  refine fun p1 n1 => ⟨t, 3, rfl, mup_new ht n1, by decide, fun i i0 i1 => ?_⟩
  obtain ⟨v, hv, e⟩ := ixI (ns := [6, 20, gr]) i0 i1
  have hv : 1 ≤ v ∧ v ≤ 999999 := by
    simp only [List.mem_cons, List.not_mem_nil, or_false] at hv
    rcases hv with rfl | rfl | rfl <;> omega
  refine ⟨_, _, mup_same, e, t, v, rfl, mup_new ht n1, ⟨by omega, by omega⟩, fun bg0 c0 c1 => ?_⟩
  have lM := Le.new (o := .lst [.int 6, .int 20, .int gr]) n1
  generalize mup M p1 (.lst [.int 6, .int 20, .int gr]) = M1 at lM ⊢
  obtain ⟨bg, eb, hb1, hb2⟩ : ∃ z : Int, (1 : Int) + bg0 = z ∧ 1 ≤ z ∧ z ≤ 999999 := ⟨1 + bg0, rfl, by omega, by omega⟩
  refine gAdd_i eb ?_
  simp only [List.set_cons_zero, List.set_cons_succ]
  refine ⟨t, 5, rfl, lM _ _ ht, by decide, fun mn0 d0 d1 => ?_⟩
  obtain ⟨mn, em, hm1, hm5⟩ : ∃ n : Nat, (1 : Int) + mn0 = n ∧ 1 ≤ n ∧ n ≤ 5 := ⟨(1 + mn0).toNat, by omega, by omega, by omega⟩
  refine gAdd_i em ?_
  simp only [List.set_cons_zero, List.set_cons_succ]
  refine ⟨t, mn, rfl, lM _ _ ht, hm5, fun M2 p2 zs l2 hz hl hn nd => ?_⟩
  simp only [List.set_cons_zero, List.set_cons_succ]
  have lM2 := lM.trans l2
  refine fun p3 n3 => ?_
  have np3 : M p3 = none := nil_back lM2 n3
  have z23 : p2 ≠ p3 := fun z => by rw [z, n3] at hz; cases hz
  refine ⟨_, rfl, by omega, by omega, fun j δ M3 => ∃ (o7 o8 : Option D) (ts : List Throw), δ = [some (.ref t), some (.int gr), some (.int sd), some (.int bg), some (.int mn), some (.ref p2), some (.ref p3), o7, o8] ∧ M3 p3 = some (.lst (ts.map Throw.d)) ∧ M3 p2 = some (.lst (zs.map D.str)) ∧ Le M M3 ∧ ts.map (·.name) = zs.take j ∧ ∀ t ∈ ts, 0 ≤ t.worth ∧ t.worth ≤ 1000000, ?_, ?_, ?_⟩
  · refine ⟨none, none, [], rfl, mup_same, mup_new hz n3, lM2.trans (.new n3), rfl, fun t h => by cases h⟩
  · rintro j δ M3 hj ⟨o7, o8, ts, rfl, hp3, hp2, l3, hts, hw⟩
    have hj : j < zs.length := by rw [hl]; omega
    simp only [List.set_cons_zero, List.set_cons_succ]
    refine fun p4 n4 => ⟨t, 3, rfl, mup_new (l3 _ _ ht) n4, by decide, fun i i0 i1 => ?_⟩
    obtain ⟨v, hv, e⟩ := ixI (ns := [5, 4, bg + 2]) i0 i1
    have hv : 1 ≤ v ∧ v ≤ 1000001 := by
      simp only [List.mem_cons, List.not_mem_nil, or_false] at hv
      rcases hv with rfl | rfl | rfl <;> omega
    refine ⟨_, _, mup_same, e, t, v, rfl, mup_new (l3 _ _ ht) n4, ⟨by omega, by omega⟩, fun wo w0 w1 => ?_⟩
    simp only [List.set_cons_zero, List.set_cons_succ]
    have l4 := Le.new (o := .lst [.int 5, .int 4, .int (bg + 2)]) n4
    generalize mup M3 p4 (.lst [.int 5, .int 4, .int (bg + 2)]) = M4 at l4 ⊢
    have hp3' := l4 _ _ hp3
    have hp2' := l4 _ _ hp2
    have lA := l3.trans l4
    refine ⟨rcv_lst hp3', _, _, hp2', atI_nat (by rw [List.getElem?_map, List.getElem?_eq_getElem hj]; rfl), t, 2, rfl, lA _ _ ht, by decide, fun b b0 b1 => ⟨?_⟩⟩
    have lt : ts.length = j := by
      have := congrArg List.length hts
      rw [List.length_map, List.length_take] at this
      omega
    refine ⟨p3, _, _, rfl, rfl, hp3', Nat.lt_of_le_of_lt (by rw [List.length_map]; omega : _ ≤ 5) (by decide : 5 < sizeLine), _, _, ts ++ [⟨zs[j], wo, decide (b = 0)⟩], rfl, ?_, ?_, ?_, ?_, ?_⟩
    · rw [mup_same, List.map_append]; rfl
    · rw [mup_ne z23]; exact hp2'
    · exact fun a u h => by
        rw [mup_ne (fun z => by rw [z, np3] at h; cases h)]; exact lA _ _ h
    · rw [List.map_append, hts, List.take_succ, List.getElem?_eq_getElem hj]; rfl
    · intro x hx
      rcases List.mem_append.mp hx with hx | hx
      · exact hw x hx
      · rw [List.mem_singleton.mp hx]; exact ⟨w0, by show wo ≤ 1000000; omega⟩
  · rintro δ M3 ⟨o7, o8, ts, rfl, hp3, hp2, l3, hts, hw⟩
    have hts : ts.map (·.name) = zs := by rw [hts, List.take_of_length_le (by rw [hl]; omega)]
    have ln : ts.length = mn := by rw [← hl, ← hts, List.length_map]
    refine ⟨t, 3, rfl, l3 _ _ ht, by decide, fun tu t0 t1 => ⟨_, hp3, dr (q M3 ⟨sd, bg, 1 + tu, ts⟩ l3 ⟨hs1, hs3, hb1, by show bg ≤ 1000000; omega, by show 1 ≤ 1 + tu; omega, by show 1 + tu ≤ 3; omega, by show 1 ≤ ts.length; omega, by show ts.length ≤ 5; omega, fun u hu => hn _ ?_, hw, by show (ts.map (·.name)).Nodup; rw [hts]; exact nd⟩)⟩⟩
    rw [← hts]
    exact List.mem_map.mpr ⟨u, hu, rfl⟩⟩
def sp_game : DSp := fun ds M Q _ => ∃ (t : Addr) (gr : Int), ds = [.ref t, .int gr] ∧ M t = some .tape ∧ (1 ≤ gr ∧ gr ≤ 999999) ∧ ∀ M' (g : Game), Le M M' → g.Ok → Q g.d M'
theorem ok__law_game (T : Tx K mg)  : Ok P w K mg base .no (13) "_law_game" ["_law_tape_here", "_law_great"] (sp_game) :=
  ok_no T.d__law_game T.g__law_game sc__law_game (fun _ _ _ _ _ _ us hl => match us, hl with | [_, _], _ => rfl) (fun ds M Q E h => by first | (obtain ⟨_, rfl, _⟩ := h; rfl) | (obtain ⟨_, _, rfl, _⟩ := h; rfl) | (obtain ⟨_, _, _, rfl, _⟩ := h; rfl) | (obtain ⟨_, _, _, _, rfl, _⟩ := h; rfl) | (obtain ⟨_, _, _, _, _, rfl, _⟩ := h; rfl) | (obtain ⟨_, _, _, _, _, _, rfl, _⟩ := h; rfl) | (obtain ⟨_, _, _, _, _, _, _, rfl, _⟩ := h; rfl) | (obtain ⟨_, _, _, _, _, _, _, _, rfl, _⟩ := h; rfl) | (obtain ⟨_, _, _, _, _, _, _, _, _, rfl, _⟩ := h; rfl) | (obtain ⟨_, _, _, _, _, _, _, _, _, _, rfl, _⟩ := h; rfl) | (obtain ⟨_, _, _, _, _, _, _, _, _, _, _, rfl, _⟩ := h; rfl)) fun f cdv A outer s H E hr => ⟨_, w__law_game T (hu_of hr) (ok__law_draw T) (hr.mono (by first | decide | omega)) (ok__law_any_rule T) (hr.mono (by first | decide | omega)) (ok__law_a_down T) (hr.mono (by first | decide | omega)), fun ds M Q E h => by
  obtain ⟨t, gr, rfl, ht, hgr, q⟩ := h
  rw [show startD N__law_game [.ref t, .int gr] = [some (.ref t), some (.int gr), none, none] from rfl]
  refine ⟨t, 3, rfl, ht, by decide, fun kd k0 k1 => ⟨?_⟩⟩
  simp only [List.set_cons_zero, List.set_cons_succ]
  refine br_p (fun h1 => ?_) (fun h1 => ⟨?_⟩)
  · exact ⟨t, rfl, ht, fun r wr ur => dr (q M (.rally r) (.refl M) ⟨wr, by omega⟩)⟩
  refine br_p (fun h2 => ?_) (fun h2 => ?_)
  · exact ⟨t, gr, rfl, ht, hgr, fun M' g l o => dr (q M' (.down g) l o)⟩
  refine fun p1 n1 => ⟨t, 3, rfl, mup_new ht n1, by decide, fun i i0 i1 => ?_⟩
  obtain ⟨v, hv, e⟩ := ixI (ns := [3, 10, 20]) i0 i1
  have hv := (by decide : ∀ v ∈ [(3 : Int), 10, 20], 1 ≤ v ∧ v ≤ 20) v hv
  refine ⟨_, _, mup_same, e, t, v, rfl, mup_new ht n1, ⟨by omega, by omega⟩, fun pn a0 a1 => ?_⟩
  simp only [List.set_cons_zero, List.set_cons_succ]
  have l1 := Le.new (o := .lst [.int 3, .int 10, .int 20]) n1
  generalize mup M p1 (.lst [.int 3, .int 10, .int 20]) = M1 at l1 ⊢
  refine ⟨t, 3, rfl, l1 _ _ ht, by decide, fun sd0 b0 b1 => ?_⟩
  refine fun p2 n2 => ⟨t, 3, rfl, mup_new (l1 _ _ ht) n2, by decide, fun i i0 i1 => ?_⟩
  obtain ⟨v', hv', e⟩ := ixI (ns := [2, 4, 12]) i0 i1
  have hv' := (by decide : ∀ v ∈ [(2 : Int), 4, 12], 1 ≤ v ∧ v ≤ 12) v' hv'
  refine ⟨_, _, mup_same, e, t, v', rfl, mup_new (l1 _ _ ht) n2, ⟨by omega, by omega⟩, fun fr c0 c1 => ?_⟩
  obtain ⟨sd, es, hs1, hs3⟩ : ∃ n : Nat, (1 : Int) + sd0 = n ∧ 1 ≤ n ∧ n ≤ 3 := ⟨(1 + sd0).toNat, by omega, by omega, by omega⟩
  refine drQ (q _ (.lane ⟨sd, 1 + pn, 1 + fr⟩) (l1.trans (.new n2)) ⟨hs1, hs3, by show 1 ≤ 1 + pn; omega, by show 1 + pn ≤ 20; omega, by show 1 ≤ 1 + fr; omega, by show 1 + fr ≤ 12; omega⟩) ?_
  show Game.d (.lane ⟨sd, 1 + pn, 1 + fr⟩) = .tup [.str "lane", .tup [.int (1 + sd0), .int (1 + pn), .int (1 + fr)]]
  rw [es]; rfl⟩
end
end Tal
set_option maxHeartbeats 400000
/-! the law -/
namespace Tal
open PySem PySem.Spec PyProof.Rows L2
theorem out_tame {o : Out} (h : ∀ v, o = .told v → Tame 0 v) : Tame 1 o.d := by
  cases o with
  | told v =>
    refine .tup 0 _ (by show 2 ≤ 1000; omega) fun x hx => ?_
    rcases List.mem_cons.mp hx with rfl | hx
    · exact .str _ _ (by decide +kernel)
    · rw [List.mem_singleton.mp hx]; exact h v rfl
  | refused n =>
    refine .tup 0 _ (by show 2 ≤ 1000; omega) fun x hx => ?_
    rcases List.mem_cons.mp hx with rfl | hx
    · exact .str _ _ (by decide +kernel)
    · rw [List.mem_singleton.mp hx]; exact .int _ _
  | falls n =>
    refine .tup 0 _ (by show 2 ≤ 1000; omega) fun x hx => ?_
    rcases List.mem_cons.mp hx with rfl | hx
    · exact .str _ _ (by decide +kernel)
    · rw [List.mem_singleton.mp hx]; exact .int _ _
theorem dueAt_said {g : Game} {xs ys : List D} {m n : Int} {v : D} (h : (dueAt g xs ys m n).1 = .told v) : v = .non := by
  unfold dueAt at h
  split at h
  · split at h
    · cases h
    · cases h; rfl
  · cases h
theorem due_tame {g : Game} {xs : List D} {wy : Way} {n : Int} {d : D} (hx : ∀ x ∈ xs, Flat x) : Tame 1 (due g xs wy n d).1.d := by
  refine out_tame fun v e => ?_
  cases wy with
  | add =>
    have e : (dueAdd g xs d).1 = .told v := e
    unfold dueAdd at e
    split at e
    · cases e
    · split at e
      · cases e; exact .int _ _
      · cases e
  | back =>
    have e : (dueBack xs).1 = .told v := e
    unfold dueBack at e
    split at e
    · rename_i x h
      cases e
      exact flat_tame (hx _ (List.mem_of_getElem? h))
    · cases e
  | _ => rw [dueAt_said e]; exact .non _
theorem dueAt_len {g : Game} {xs ys : List D} {m n : Int} (h : 1 ≤ n ∧ n ≤ m → ys.length ≤ xs.length + 1) : (dueAt g xs ys m n).2.length ≤ xs.length + 1 := by
  unfold dueAt
  split
  · rename_i c
    split
    · exact Nat.le_succ _
    · exact h c
  · exact Nat.le_succ _
theorem due_len {g : Game} {xs : List D} {wy : Way} {n : Int} {d : D} : (due g xs wy n d).2.length ≤ xs.length + 1 := by
  cases wy with
  | add =>
    show (dueAdd g xs d).2.length ≤ _
    unfold dueAdd
    split
    · exact Nat.le_succ _
    · split
      · show (xs ++ [d]).length ≤ _
        rw [List.length_append, List.length_singleton]; omega
      · exact Nat.le_succ _
  | back =>
    show (dueBack xs).2.length ≤ _
    unfold dueBack
    split
    · show xs.dropLast.length ≤ _
      rw [List.length_dropLast]; omega
    · exact Nat.le_succ _
  | right =>
    exact dueAt_len fun c => by
      show (xs.take (n.toNat - 1) ++ [d] ++ xs.drop n.toNat).length ≤ _
      rw [List.length_append, List.length_append, List.length_take, List.length_drop, List.length_singleton]; omega
  | ins =>
    exact dueAt_len fun c => by
      show (xs.take (n.toNat - 1) ++ [d] ++ xs.drop (n.toNat - 1)).length ≤ _
      rw [List.length_append, List.length_append, List.length_take, List.length_drop, List.length_singleton]; omega
  | out =>
    exact dueAt_len fun c => by
      show (xs.take (n.toNat - 1) ++ xs.drop n.toNat).length ≤ _
      rw [List.length_append, List.length_take, List.length_drop]; omega
theorem full_go {g : Game} {ys : List D} {j : Nat} {y : D} (h : (rd g g.first ys).1 = ys.length) (hy : ys[j]? = some y) (hn : step g (rd g g.first (ys.take j)).2 y = none) : False := by
  have hj := (List.getElem?_eq_some_iff.mp hy).1
  have ht : (rd g g.first (ys.take j)).1 = j := rd_take ys _ j (by omega)
  have hl : (ys.take j).length = j := by rw [List.length_take]; omega
  have e : ys = ys.take j ++ y :: ys.drop (j + 1) := by
    rw [← (List.getElem?_eq_some_iff.mp hy).2, ← List.drop_eq_getElem_cons hj, List.take_append_drop]
  have := rd_stop (ys := ys.drop (j + 1)) (ht.trans hl.symm) hn
  rw [← e] at this
  rw [this, hl] at h
  have h : j = ys.length := h
  omega
theorem way_at {i : Int} (h0 : 0 ≤ i) (h1 : i < 7) : ∃ wy : Way, atI [D.str "add", .str "back", .str "right", .str "in", .str "out", .str "right", .str "in"] i = some (.str wy.s) := by
  have hc : i = 0 ∨ i = 1 ∨ i = 2 ∨ i = 3 ∨ i = 4 ∨ i = 5 ∨ i = 6 := by omega
  rcases hc with rfl | rfl | rfl | rfl | rfl | rfl | rfl
  · exact ⟨.add, rfl⟩
  · exact ⟨.back, rfl⟩
  · exact ⟨.right, rfl⟩
  · exact ⟨.ins, rfl⟩
  · exact ⟨.out, rfl⟩
  · exact ⟨.right, rfl⟩
  · exact ⟨.ins, rfl⟩
section
variable {P : Program} {w : World} {K : PySem.W.Frag} {mg : Str → Option Value} {base : Heap}
theorem Bk.known {M : Mp} {p : Addr} {g : Game} {xs : List D} {L : List Addr} (B : Bk K M p g xs L) {c : Addr} (h : c ∈ L) : ∃ o, M c = some o := by
  cases q : M c with
  | none => exact absurd h (B.nin q)
  | some o => exact ⟨o, rfl⟩
theorem Fr.out {L L' : List Addr} {M M' : Mp} (F : Fr L M M' L') {c : Addr} {o : MO} (h : M c = some o) (n : c ∉ L) : c ∉ L' := fun z => by
  rcases F.n c z with z | z
  · exact n z
  · rw [h] at z; cases z
/-- a round of the law -/
structure Rnd (K : PySem.W.Frag) (M : Mp) (t p r : Addr) (g : Game) (xs : List D) (L : List Addr) : Prop where
  ht : M t = some .tape
  tL : t ∉ L
  hr : M r = some (.lst xs)
  rL : r ∉ L
  b : Bk K M p g xs L
theorem Rnd.le {M M' : Mp} {t p r : Addr} {g : Game} {xs : List D} {L : List Addr} (l : Le M M') (h : Rnd K M t p r g xs L) : Rnd K M' t p r g xs L := ⟨l _ _ h.ht, h.tL, l _ _ h.hr, h.rL, h.b.le l⟩
def restLaw (K : PySem.W.Frag) : RS :=
    (rSeq (rAsg (rCall .no sp_due (rCons (rVar 2) (rCons (rVar 4) (rCons (rVar 6) (rCons (rVar 8) (rCons (rVar 7) rNil)))))) (gtD 2 (gsCons (gnD 9) (gsCons (gnD 10) gsNil))))
    (rSeq (rIfS (rNot (rB (rCall .no (sp_alike 9) (rCons (rCall .no (sp_tried K) (rCons (rVar 3) (rCons (rVar 6) (rCons (rVar 8) (rCons (rVar 7) rNil))))) (rCons (rVar 9) rNil))))) (rRet (rC (.bl false))) rNext)
    (rSeq (rSet 4 (rVar 10))
    (rIfS (rNot (rB (rCall .no (sp_shown K) (rCons (rVar 1) (rCons (rVar 3) (rCons (rVar 2) (rCons (rVar 4) rNil))))))) (rRet (rC (.bl false))) rNext))))
theorem restLaw_ok {s t p r : Addr} {g : Game} {xs : List D} {L : List Addr} {M : Mp} {wy : Way} {n : Int} {d : D} {x5 x9 x10 : Option D} {Z : DEnds} (R : Rnd K M t p r g xs L) (hl : xs.length ≤ 700) (hd : Deed M d)
    (q : ∀ M' r' xs' L' y6 y9 y10, Rnd K M' t p r' g xs' L' → xs'.length ≤ xs.length + 1 → Z.nx [some (.ref s), some (.ref t), some g.d, some (.ref p), some (.ref r'), x5, y6, some d, some (.int n), y9, y10] M') :
    restLaw K Z [some (.ref s), some (.ref t), some g.d, some (.ref p), some (.ref r), x5, some (.str wy.s), some d, some (.int n), x9, x10] M := by
  unfold restLaw
  refine ⟨g, r, xs, wy, n, d, rfl, R.b.ok, R.hr, R.b.full, by omega, R.b.flat, hd, fun M4 r' l4 hr' h4 => ⟨rfl, ?_⟩⟩
  simp only [List.set_cons_zero, List.set_cons_succ]
  refine ⟨p, wy, n, d, g, xs, L, rfl, R.b.le l4, hd.le l4, by omega, fun o' ys' he M5 L5 B5 F5 => ⟨_, _, rfl, ?_, fun M6 l6 => ?_⟩⟩
  · rw [he]
    have := due_tame (g := g) (wy := wy) (n := n) (d := d) R.b.flat
    rw [he] at this
    exact (this.up (by omega)).same
  have ln := due_len (g := g) (xs := xs) (wy := wy) (n := n) (d := d)
  rw [he] at h4 ln
  have rL : r' ∉ L := by
    rcases hr' with rfl | hr'
    · exact R.rL
    · exact R.b.nin hr'
  have R5 : Rnd K M5 t p r' g ys' L5 := ⟨F5.k t R.tL _ (l4 _ _ R.ht), F5.out (l4 _ _ R.ht) R.tL, F5.k r' rL _ h4, F5.out h4 rL, B5⟩
  have R6 := R5.le l6
  have ln : ys'.length ≤ xs.length + 1 := ln
  conv => whnf
  simp only [List.set_cons_zero, List.set_cons_succ]
  refine ⟨t, p, r', g, ys', L5, rfl, R6.ht, R6.b, R6.hr, by omega, R6.b.flat, fun M7 l7 => ?_⟩
  conv => whnf
  exact q M7 r' ys' L5 _ _ _ (R6.le l7) ln
theorem law_tail {s t : Addr} {M : Mp} {Q : DQ} {E : Exn → Mp → Prop} (ht : M t = some .tape) (q : ∀ M', Q (.bl true) M') :
    t_law K sp_game (sp_init K) sp_run sp_draw (sp_shown K) (sp_alike 9) (sp_add K) sp_any_deed sp_due (sp_tried K) (endsD .no Q E) [some (.ref s), some (.ref t), none, none, none, none, none, none, none, none, none] M := by
  refine ⟨⟨by decide, by decide, by decide⟩, t, _, rfl, ht, ⟨by decide, by decide⟩, fun M1 g l1 o => ?_⟩
  simp only [List.set_cons_zero, List.set_cons_succ]
  have ht1 := l1 _ _ ht
  refine fun p dx np => ⟨p, dx, g, rfl, o, mup_same, fun M2 L B k1 k2 => ⟨rfl, ?_⟩⟩
  simp only [List.set_cons_zero, List.set_cons_succ]
  have tp : t ≠ p := fun z => by rw [z, np] at ht1; cases ht1
  have ht2 : M2 t = some .tape := k1 t tp _ (by rw [mup_ne tp]; exact ht1)
  have tL : t ∉ L := fun z => by
    rcases k2 t z with z | z
    · exact tp z
    · rw [mup_ne tp, ht1] at z; cases z
  refine fun p1 n1 => ⟨t, 2, rfl, mup_new ht2 n1, by decide, fun i i0 i1 => ?_⟩
  obtain ⟨v, hv, e⟩ := ixI (ns := [6, 30]) i0 i1
  obtain ⟨m, rfl, hm⟩ : ∃ m : Nat, v = m ∧ m ≤ 30 := by
    simp only [List.mem_cons, List.not_mem_nil, or_false] at hv
    rcases hv with rfl | rfl
    · exact ⟨6, rfl, by omega⟩
    · exact ⟨30, rfl, by omega⟩
  have l2 := Le.new (o := .lst [.int 6, .int 30]) n1
  refine ⟨_, _, mup_same, e, t, g, m, rfl, mup_new ht2 n1, o, hm, fun M3 r ys l3 nr hr hf hl hx => ?_⟩
  simp only [List.set_cons_zero, List.set_cons_succ]
  have lA := l2.trans l3
  have rL : r ∉ L := fun z => by
    obtain ⟨u, hu⟩ := (B.le l2).known z
    rw [nr] at hu; cases hu
  refine fun p2 n2 => ⟨t, p, p2, g, [], L, rfl, mup_new (lA _ _ ht2) n2, B.le (lA.trans (.new n2)), mup_same, by decide, (fun x h => by cases h), fun M4 l4 => ?_⟩
  have lB := (lA.trans (Le.new (o := .lst []) n2)).trans l4
  have hr4 : M4 r = some (.lst ys) := l4 _ _ (mup_new hr n2)
  conv => whnf
  refine ⟨ys, hr4, ⟨_, rfl, by omega, by omega, fun j δ M5 => ∃ (o5 : Option D) (L' : List Addr), δ = [some (.ref s), some (.ref t), some g.d, some (.ref p), some (.ref r), o5, none, none, none, none, none] ∧ M5 t = some .tape ∧ t ∉ L' ∧ M5 r = some (.lst ys) ∧ r ∉ L' ∧ Bk K M5 p g (ys.take j) L', ?_, ?_, ?_⟩⟩
  · exact ⟨none, L, rfl, lB _ _ ht2, tL, hr4, rL, B.le lB⟩
  · rintro j δ M5 hj ⟨o5, L', rfl, t5, tL5, r5, rL5, B5⟩
    have hj : j < ys.length := by omega
    obtain ⟨dx5, a5, b5, hL5, h1, _, _, _⟩ := B5.ex
    have hy : ys[j]? = some ys[j] := List.getElem?_eq_getElem hj
    have lt : (ys.take j).length = j := by rw [List.length_take]; omega
    refine ⟨p, _, _, rfl, h1, nin3 (by decide), _, _, r5, atI_nat hy, p, ys[j], g, ys.take j, L', rfl, B5, (hx _ (List.getElem_mem hj)).deed, by omega, fun S' hS M6 L6 B6 F6 => ?_, fun hn => (full_go hf hy hn).elim⟩
    refine ⟨_, _, rfl, by rw [lt]; exact .int _ _, fun M7 l7 => ?_⟩
    have et : ys.take (j + 1) = ys.take j ++ [ys[j]] := by rw [List.take_succ, hy]; rfl
    rw [← et] at B6
    conv => whnf
    exact ⟨_, L6, rfl, l7 _ _ (F6.k t tL5 _ t5), F6.out t5 tL5, l7 _ _ (F6.k r rL5 _ r5), F6.out r5 rL5, B6.le l7⟩
  · rintro δ M5 ⟨o5, L', rfl, t5, tL5, r5, rL5, B5⟩
    rw [show ys.take ((ys.length : Int)).toNat = ys by rw [Int.toNat_natCast, List.take_length]] at B5
    have R5 : Rnd K M5 t p r g ys L' := ⟨t5, tL5, r5, rL5, B5⟩
    refine ⟨t, 6, rfl, t5, by decide, fun v v0 v1 => ⟨_, rfl, by omega, by omega, fun j δ M6 => ∃ (r' : Addr) (xs : List D) (L' : List Addr) (o5 o6 o7 o8 o9 o10 : Option D), δ = [some (.ref s), some (.ref t), some g.d, some (.ref p), some (.ref r'), o5, o6, o7, o8, o9, o10] ∧ Rnd K M6 t p r' g xs L' ∧ xs.length ≤ 30 + j, ?_, ?_, ?_⟩⟩
    · exact ⟨r, ys, L', _, _, _, _, _, _, rfl, R5, by omega⟩
    · rintro j δ M6 hj ⟨r', xs, L6, o5, o6, o7, o8, o9, o10, rfl, R6, hl6⟩
      have hj : j < 9 := by omega
      simp only [List.set_cons_zero, List.set_cons_succ]
      refine fun p3 n3 => ⟨t, 7, rfl, mup_new R6.ht n3, by decide, fun i i0 i1 => ?_⟩
      obtain ⟨wy, e⟩ := way_at i0 i1
      refine ⟨_, _, mup_same, e, ?_⟩
      simp only [List.set_cons_zero, List.set_cons_succ]
      have R7 := R6.le (Le.new (o := .lst [D.str "add", .str "back", .str "right", .str "in", .str "out", .str "right", .str "in"]) n3)
      refine ⟨t, r', g, xs, rfl, R7.ht, o, R7.hr, R7.b.full, by omega, R7.b.flat, fun M8 d l8 hd => ?_⟩
      have R8 := R7.le l8
      simp only [List.set_cons_zero, List.set_cons_succ]
      refine ⟨_, R8.hr, t, _, rfl, R8.ht, ⟨by omega, by omega⟩, fun n m0 m1 => ?_⟩
      simp only [List.set_cons_zero, List.set_cons_succ]
      have fin : ∀ (n : Int) M9, Le M8 M9 → restLaw K { endsD .no Q E with nx := fun δ M => ∃ (r' : Addr) (xs : List D) (L' : List Addr) (o5 o6 o7 o8 o9 o10 : Option D), δ = [some (.ref s), some (.ref t), some g.d, some (.ref p), some (.ref r'), o5, o6, o7, o8, o9, o10] ∧ Rnd K M t p r' g xs L' ∧ xs.length ≤ 30 + (j + 1), ct := fun δ M => ∃ (r' : Addr) (xs : List D) (L' : List Addr) (o5 o6 o7 o8 o9 o10 : Option D), δ = [some (.ref s), some (.ref t), some g.d, some (.ref p), some (.ref r'), o5, o6, o7, o8, o9, o10] ∧ Rnd K M t p r' g xs L' ∧ xs.length ≤ 30 + (j + 1), bk := fun δ M => Dr Q (.bl true) M } [some (.ref s), some (.ref t), some g.d, some (.ref p), some (.ref r'), some (.int j), some (.str wy.s), some d, some (.int n), o9, o10] M9 := fun n M9 l9 =>
        restLaw_ok (R8.le l9) (by omega) (hd.le l9) fun M' r'' xs' L' y6 y9 y10 R' hl' => ⟨r'', xs', L', _, _, _, _, _, _, rfl, R', by omega⟩
      refine ⟨t, 12, rfl, R8.ht, by decide, fun b b0 b1 => ⟨?_⟩⟩
      refine br_p (fun h1 => ?_) (fun h1 => fin n M8 (.refl _))
      refine ⟨⟨by decide, by decide, by decide⟩, fun p4 n4 => ⟨t, 2, rfl, mup_new R8.ht n4, by decide, fun i i0 i1 => ?_⟩⟩
      obtain ⟨n', hn', e⟩ := ixI (ns := [-1, 10 ^ (9 : Int).toNat]) i0 i1
      exact ⟨_, _, mup_same, e, fin n' _ (.new n4)⟩
    · rintro δ M6 _
      exact dr (q M6)
end
end Tal
set_option maxHeartbeats 4000000
/-! the law is kept -/
namespace Tal
open PySem PySem.Spec PyProof.Rows L2
section
variable {P : Program} {w : World} {K : PySem.W.Frag} {mg : Str → Option Value} {base : Heap}
def spV_law (K : PySem.W.Frag) : Sp := fun vs H Q _ => ∃ s ns, vs = [.ref s] ∧ Scr K H s ns ∧ ns.length ≤ 63 ∧ ∀ H' : Hp, Q (.bl true) H'
theorem scr_of {H : Hp} {a : Addr} {ns : List Int} (h : SqL K H a (ns.map V.int)) (o : Only H) : Scr K H a ns := by
  rcases h with (h | ⟨ob, h⟩) | h
  · rcases o a with z | ⟨u, xs, z⟩ <;> rw [z] at h <;> cases h
  · exact .inl ⟨ob, h⟩
  · exact .inr h
theorem okV_law (T : Tx K mg) {fd : FuncData} (F : FunD K "law" "law" (defArgs (top 81)) (defBody (top 81)) (defScope (top 81)) [] [] (He.ga K "law") fd) : FnOk P w K mg base CX0 18 (He.ga K "law") fd ["_law_script"] (spV_law K) := by
  obtain ⟨ft, Ft⟩ := T.d__law_tape
  obtain ⟨fT, FT, BT⟩ := okV_tape (P := P) (w := w) (base := base) T
  refine F.ok sc_law (fun vs H Q E ⟨s, ns, h, _⟩ => by rw [h]; rfl) fun cdv A outer s H vs Q E hr ⟨a, ns, e, hs, hl, q⟩ => ?_
  subst e
  refine ⟨_, PSs.nox (pss_cons (ps_set (i := 1) sc_law.nd rfl (.inl rfl) (pe_call FT (hr.mono (by decide)) rfl T.g__law_tape Ft.kp BT .nil pass0 (pa_cons (pe_var (i := 0) rfl (.inl rfl)) pa_nil))) pb_wp), ?_⟩
  refine ⟨.ref a, rfl, a, ns, rfl, hs, fun p k np => ?_⟩
  have k1 : Keep H (upd H p (.lst [.ref a, .int 0, .int 0, .int k])) := .new np
  have rs : RepS K (upd H p (.lst [.ref a, .int 0, .int 0, .int k])) ((start N_law [.ref a]).set 1 (some (.ref p))) [some (.ref a), some (.ref p), none, none, none, none, none, none, none, none, none] := ((rep_start (N := N_law) (.cons (.ref a) .nil)).keep k1).set 1 (.ref p)
  have rm : RepM K (upd H p (.lst [.ref a, .int 0, .int 0, .int k])) (mup (fun _ => none) p .tape) := by
    intro b o h
    by_cases e : b = p
    · rw [e, mup_same] at h
      cases h
      rw [e]
      exact ⟨a, ns, 0, 0, k, upd_same, hs.keep k1, hl, by omega⟩
    · rw [mup_ne e] at h; cases h
  have W := w_law (P := P) (w := w) (base := base) (f := He.ga K "law") (cdv := cdv) (A := A) (outer := outer) (s := s) (H := H) (E := E) T (hu_of hr) (ok__law_game T) (hr.mono (by decide)) (ok_Book T) (hr.mono (by decide)) (ok__law_run T) (hr.mono (by decide)) (ok__law_draw T) (hr.mono (by decide)) (ok__law_shown_right T) (hr.mono (by decide)) (ok_alike T 9) (hr.mono (by decide)) (ok_Book_add T) (hr.mono (by decide)) (ok__law_any_deed T) (hr.mono (by decide)) (ok__law_due T) (hr.mono (by decide)) (ok__law_tried T) (hr.mono (by decide))
  refine W.run _ _ (endsD .no (fun d _ => d = .bl true) (fun _ _ => False)) _ _ _ (law_tail (s := a) (t := p) mup_same (fun _ => rfl)) rs rm ⟨fun σ' H' δ' M' k' _ m' ⟨M0, le, z⟩ => (by cases z), fun v H' d M' k' r' m' ⟨M0, le, z⟩ => ?_, fun _ _ _ _ _ _ _ z => z, fun _ _ _ _ _ _ _ z => z, ?_⟩
  · have z : d = .bl true := z
    subst z
    cases r'
    exact q H'
  · rintro cls d σ' H' x h' δ' M' k' _ _ _ ⟨(z | ⟨z, _⟩), _⟩ <;> cases z
theorem facts {h : Heap} {fl : Addr} (X : K.In h) (G : h.Ns mainGlobals mg) (hfa : mg ("law" : Str) = some (.ref fl)) (c : He.SaysD fa fn K) (e : ex K = true) :
    ∃ fd : FuncData, (∀ (s : Shared) (v : Value), BindsTo s fd ⟨[v], []⟩ [("_law_script", v)]) ∧ ∀ base : Heap, K.In base → base.Ns mainGlobals mg → FnOk P w K mg base CX0 18 fl fd ["_law_script"] (spV_law K) := by
  have T := tx X G c e
  obtain ⟨fd, F⟩ := T.d_law
  have z := hfa.symm.trans T.g_law
  cases z
  have b := FunD.bindsA (ps := ["_law_script"]) F fun _ _ _ _ _ _ us hl => match us, hl with | [_], _ => rfl
  exact ⟨fd, fun s v => b s [v] rfl, fun base _ _ => okV_law T F⟩
end
end Tal
open PySem PySem.W PySem.Calls PyProof.Rows
theorem PySem.Challenge.cw_tally_k90_whole_books_read_plainly_holds : PySem.Challenge.rw_tally_k90_whole_books_read_plainly.Holds := by
  w_on; o_law
  refine HandSHeadRun.head_any (r := OpenLaw.row PySem.Challenge.rw_tally_k90_whole_books_read_plainly) (q := view (OpenLaw.row PySem.Challenge.rw_tally_k90_whole_books_read_plainly).prog [81]) (H := Tal.hk) (ob := Tal.ob) (M := 40000) (loose := Tal.names) (d := HandSHeadRun.topDef (OpenLaw.row PySem.Challenge.rw_tally_k90_whole_books_read_plainly).prog 81) (kwd := []) Tal.ob_eq
    (by kernel_rfl) (fun s => by kernel_rfl) Tal.run (by kernel_rfl) (by kernel_rfl) (by kernel_rfl) (by rfl) (by first | assumption | decide +kernel) (by decide +kernel) ⟨rfl, rfl, rfl, rfl, rfl, by decide +kernel⟩ ?hw ?hc
  case hw => w_witness2
  case hc =>
    refine L2.walk_ofE (l := PySem.Challenge.rw_tally_k90_whole_books_read_plainly) (n := 63) (k := 18) (x := "_law_script") (CX := L2.CX0) rfl (by decide) (by kernel_rfl) ⟨rfl, by decide, by decide⟩ ?F (fun _ _ _ _ z => z)
    intro w mg fa h Y G hmg0
    obtain ⟨K, KX, c, e⟩ := Y
    have hmg : mg ("law" : PySem.Str) = some (.ref fa) := by
      have e : (HandSHeadRun.topDef (OpenLaw.row PySem.Challenge.rw_tally_k90_whole_books_read_plainly).prog 81).name = ("law" : PySem.Str) := by kernel_rfl
      rw [← e]
      exact hmg0
    obtain ⟨fd, hb, hF⟩ := Tal.facts (P := (PySem.Challenge.rw_tally_k90_whole_books_read_plainly).prog) (w := w) KX G hmg c e
    exact ⟨K, fd, Tal.spV_law K, KX, hb, fun H a ns hl hO hS => ⟨a, ns, rfl, Tal.scr_of hS hO, hl, fun _ => rfl⟩, hF⟩
