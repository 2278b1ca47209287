import PyProof.Rows.All
import Wide.All
import OpenK.AllK
import Wide.FinOn
import HandS.ForMost
import HandS.ForExc
import HandS.Nested
import HandS.ExcIs
import HandS.TupAny
import HandS.TupMul
import HandS.Deep
import HandS.IsInst
import PyProof.Rows.SortShellAny
import HandS.More
import HandS.Conv
import HandS.Style
import HandS.Zip
import PyProof.StrLoop
import PyProof.Draws
import HandS.CallSlots
import HandS.Defaults
import HandS.Text
import HandS.Codes
import HandS.Words
import HandS.WordsExc
import HandS.TryOnly
import HandS.ExcValue
import HandS.EndTab
import HandS.MakeKw
import PyProof.CollectStr
import HandS.Replace
import HandS.Small
import HandS.SetKeys
import HandS.Strs
import PyProof.Rows.SetFrom
import PySem.Challenge.RW_swingwords_k08_words_walked
set_option Elab.async false
set_option linter.all false
set_option maxRecDepth 100000
set_option maxHeartbeats 4000000
/-! data, own objects, the world -/
namespace SW
open PySem L2

/-- a text by its signs -/
def S (l : List Nat) : Str := Str.mk l.toArray
theorem S_inj {a b : List Nat} (h : S a = S b) : a = b := by
  have e : a.toArray = b.toArray := congrArg Str.cps h
  simpa using congrArg Array.toList e
theorem S_toList (z : Str) : S z.cps.toList = z := by
  cases z
  simp [S]

inductive D where
  | non
  | bl (b : Bool)
  | int (i : Int)
  | str (s : List Nat)
  | lst (xs : List D)
  | tup (xs : List D)
  | dic (t : Bool) (kvs : List (D × D))
  | ins (c : Str) (fs : List (Str × D))
  | xc (c : Str)
  deriving Inhabited

/-- signs that a text may have -/
def okS (s : List Nat) : Bool := s.all fun c => decide (c < 1114112)

/-- a key of a dict as data -/
def keyD : Key → D
  | .inl i => .int i
  | .inr x => .str x.cps.toList

def okK : Key → Bool
  | .inl _ => true
  | .inr x => okS x.cps.toList

/-- what is known of the world: the written part, the addresses of classes -/
structure Kn where
  K : PySem.W.Frag
  G : Str → Option Addr
  B : Hp := fun _ => none
  T : List NdefX.NTab := []
  L : Nat → Addr → Hp → Prop := fun _ _ _ => False

structure Gn where
  g : Str → Option Addr
  B : Hp
  T : List NdefX.NTab
  L : Nat → Addr → Hp → Prop
abbrev mkK (K : PySem.W.Frag) (G : Gn) : Kn := ⟨K, G.g, G.B, G.T, G.L⟩

/-- an exception's object, kept behind its suite -/
def ExV (cls : Value) (a : Addr) : HO := .ext fun h => ∃ (oe : Obj) (vs : Array Value), h.get? a = some oe ∧ oe.cls = cls ∧ oe.dict = none ∧ oe.data = .fields vs

mutual
inductive Rp (k : Kn) (H : Hp) : V → D → Prop
  | non : Rp k H .non .non
  | bl (b : Bool) : Rp k H (.bl b) (.bl b)
  | int (i : Int) : Rp k H (.int i) (.int i)
  | str (s : List Nat) (h : okS s = true) : Rp k H (.str (S s)) (.str s)
  | lst {a : Addr} {xs : List V} {ds : List D} : H a = some (.lst xs) → RpAll k H xs ds → Rp k H (.ref a) (.lst ds)
  | tup {a : Addr} {xs : List V} {ds : List D} : H a = some (.tup xs) → RpAll k H xs ds → Rp k H (.ref a) (.tup ds)
  | dic {a : Addr} {ps : List (Key × V)} {kvs : List (D × D)} : H a = some (.dK ps) → RpKV k H ps kvs → Rp k H (.ref a) (.dic false kvs)
  | dicT {a : Addr} {ps : List (List Key × V)} {kvs : List (D × D)} : H a = some (.dT ps) → RpKT k H ps kvs → Rp k H (.ref a) (.dic true kvs)
  | ins {a C dx : Addr} {c : Str} {ps : List (Str × V)} {fs : List (Str × D)} : k.G c = some C → H a = some (.ins C dx ps) → RpF k H ps fs → Rp k H (.ref a) (.ins c fs)
  | xc {a C : Addr} {c : Str} : k.G c = some C → H a = some (ExV (.ref C) a) → Rp k H (.ref a) (.xc c)
inductive RpAll (k : Kn) (H : Hp) : List V → List D → Prop
  | nil : RpAll k H [] []
  | cons {v : V} {d : D} {vs : List V} {ds : List D} : Rp k H v d → RpAll k H vs ds → RpAll k H (v :: vs) (d :: ds)
inductive RpKV (k : Kn) (H : Hp) : List (Key × V) → List (D × D) → Prop
  | nil : RpKV k H [] []
  | cons {y : Key} {v : V} {d : D} {vs : List (Key × V)} {ds : List (D × D)} : okK y = true → Rp k H v d → RpKV k H vs ds → RpKV k H ((y, v) :: vs) ((keyD y, d) :: ds)
inductive RpKT (k : Kn) (H : Hp) : List (List Key × V) → List (D × D) → Prop
  | nil : RpKT k H [] []
  | cons {y : List Key} {v : V} {d : D} {vs : List (List Key × V)} {ds : List (D × D)} : y.all okK = true → Rp k H v d → RpKT k H vs ds → RpKT k H ((y, v) :: vs) ((.tup (y.map keyD), d) :: ds)
inductive RpF (k : Kn) (H : Hp) : List (Str × V) → List (Str × D) → Prop
  | nil : RpF k H [] []
  | cons {y : Str} {v : V} {d : D} {vs : List (Str × V)} {ds : List (Str × D)} : Rp k H v d → RpF k H vs ds → RpF k H ((y, v) :: vs) ((y, d) :: ds)
end

def Ex (H H' : Hp) : Prop := ∀ a o, H a = some o → H' a = some o
theorem Ex.refl (H : Hp) : Ex H H := fun _ _ h => h
theorem Ex.trans {H H1 H2 : Hp} (a : Ex H H1) (b : Ex H1 H2) : Ex H H2 := fun x o h => b x o (a x o h)
theorem Ex.rd {H H' : Hp} {a : Addr} {u : HO} (e : Ex H H') (h : Rd H a u) : Rd H' a u := by
  rcases h with h | ⟨o, h⟩
  · exact Or.inl (e a _ h)
  · exact Or.inr ⟨o, e a _ h⟩
theorem Ex.l {K : PySem.W.Frag} {H H' : Hp} {a : Addr} {xs : List V} (e : Ex H H') (h : SqL K H a xs) : SqL K H' a xs := by
  rcases h with h | h
  · exact Or.inl (e.rd h)
  · exact Or.inr h
theorem Ex.t {K : PySem.W.Frag} {H H' : Hp} {a : Addr} {xs : List V} (e : Ex H H') (h : SqT K H a xs) : SqT K H' a xs := by
  rcases h with h | h
  · exact Or.inl (e.rd h)
  · exact Or.inr h
theorem Ex.new {H : Hp} {p : Addr} {o : HO} (h : H p = none) : Ex H (upd H p o) := fun a u e => by
  rw [upd_ne (ne_of_none e h)]
  exact e
theorem Ex.free {H H' : Hp} {p : Addr} (e : Ex H H') (h : H' p = none) : H p = none := by
  cases h1 : H p with
  | none => rfl
  | some o =>
    rw [e p o h1] at h
    cases h

section
variable {k : Kn} {H H' : Hp}
mutual
theorem Rp.mono (e : Ex H H') : ∀ {v : V} {d : D}, Rp k H v d → Rp k H' v d
  | _, _, .non => .non
  | _, _, .bl b => .bl b
  | _, _, .int i => .int i
  | _, _, .str s h => .str s h
  | _, _, .lst h r => .lst (e _ _ h) (RpAll.mono e r)
  | _, _, .tup h r => .tup (e _ _ h) (RpAll.mono e r)
  | _, _, .dic h r => .dic (e _ _ h) (RpKV.mono e r)
  | _, _, .dicT h r => .dicT (e _ _ h) (RpKT.mono e r)
  | _, _, .ins g h r => .ins g (e _ _ h) (RpF.mono e r)
  | _, _, .xc g h => .xc g (e _ _ h)
theorem RpAll.mono (e : Ex H H') : ∀ {v : List V} {d : List D}, RpAll k H v d → RpAll k H' v d
  | _, _, .nil => .nil
  | _, _, .cons h r => .cons (Rp.mono e h) (RpAll.mono e r)
theorem RpKV.mono (e : Ex H H') : ∀ {v : List (Key × V)} {d : List (D × D)}, RpKV k H v d → RpKV k H' v d
  | _, _, .nil => .nil
  | _, _, .cons z h r => .cons z (Rp.mono e h) (RpKV.mono e r)
theorem RpKT.mono (e : Ex H H') : ∀ {v : List (List Key × V)} {d : List (D × D)}, RpKT k H v d → RpKT k H' v d
  | _, _, .nil => .nil
  | _, _, .cons z h r => .cons z (Rp.mono e h) (RpKT.mono e r)
theorem RpF.mono (e : Ex H H') : ∀ {v : List (Str × V)} {d : List (Str × D)}, RpF k H v d → RpF k H' v d
  | _, _, .nil => .nil
  | _, _, .cons h r => .cons (Rp.mono e h) (RpF.mono e r)
end
theorem RpAll.len : ∀ {vs : List V} {ds : List D}, RpAll k H vs ds → vs.length = ds.length
  | _, _, .nil => rfl
  | _, _, .cons _ r => congrArg (· + 1) (RpAll.len r)
theorem RpAll.get : ∀ {vs : List V} {ds : List D} {i : Nat} {d : D}, RpAll k H vs ds → ds[i]? = some d → ∃ v, vs[i]? = some v ∧ Rp k H v d
  | _, _, _, _, .nil, h => by simp at h
  | _, _, 0, _, .cons h _, e => by
    simp at e
    subst e
    exact ⟨_, rfl, h⟩
  | _, _, i + 1, _, .cons _ r, e => by
    obtain ⟨v, h1, h2⟩ := RpAll.get (i := i) r (by simpa using e)
    exact ⟨v, by simpa using h1, h2⟩
theorem RpAll.append : ∀ {vs ws : List V} {ds es : List D}, RpAll k H vs ds → RpAll k H ws es → RpAll k H (vs ++ ws) (ds ++ es)
  | _, _, _, _, .nil, r => r
  | _, _, _, _, .cons h r, q => .cons h (RpAll.append r q)
end
end SW

/-! own objects, the world -/
namespace SW
open PySem L2

/-- what a name holds: data that nobody changes any more, or an object of one's own -/
inductive O where
  | val (d : D)
  | lst (ds : List D)
  | dic (t : Bool) (kvs : List (D × D))
  | ins (c : Str) (fs : List (Str × D))
  | st (gs cs : List Int) (r t : Int)
  | scr (ns : List Int)
  | fn (j : Nat)
  deriving Inhabited

def stPs (g c : Addr) (r t : Int) : List (Key × V) := [(.inr "great", .ref g), (.inr "cells", .ref c), (.inr "rest", .int r), (.inr "turn", .int t)]

inductive RpO (k : Kn) (Hk H : Hp) : V → O → List Addr → Prop
  | val {v : V} {d : D} : Rp k Hk v d → RpO k Hk H v (.val d) []
  | lst {a : Addr} {xs : List V} {ds : List D} : H a = some (.lst xs) → RpAll k Hk xs ds → RpO k Hk H (.ref a) (.lst ds) [a]
  | dic {a : Addr} {ps : List (Key × V)} {kvs : List (D × D)} : H a = some (.dK ps) → RpKV k Hk ps kvs → RpO k Hk H (.ref a) (.dic false kvs) [a]
  | dicT {a : Addr} {ps : List (List Key × V)} {kvs : List (D × D)} : H a = some (.dT ps) → RpKT k Hk ps kvs → RpO k Hk H (.ref a) (.dic true kvs) [a]
  | ins {a C dx : Addr} {c : Str} {ps : List (Str × V)} {fs : List (Str × D)} : k.G c = some C → H a = some (.ins C dx ps) → RpF k Hk ps fs → RpO k Hk H (.ref a) (.ins c fs) [a]
  | st {a g c : Addr} {gs cs : List Int} {r t : Int} : H a = some (.dK (stPs g c r t)) → H g = some (.lst (gs.map V.int)) → Hk c = some (.lst (cs.map V.int)) → RpO k Hk H (.ref a) (.st gs cs r t) [a, g]
  | scr {a : Addr} {ns : List Int} : SqL k.K Hk a (ns.map V.int) → RpO k Hk H (.ref a) (.scr ns) []
  | fn {f : Addr} {j : Nat} : (∀ Hk', Ex Hk Hk' → k.L j f Hk') → RpO k Hk H (.ref f) (.fn j) []

inductive Sl (k : Kn) (Hk H : Hp) : List (Option V) → List (Option O) → List Addr → Prop
  | nil : Sl k Hk H [] [] []
  | no {x : Option V} {σ : List (Option V)} {env : List (Option O)} {l : List Addr} : Sl k Hk H σ env l → Sl k Hk H (x :: σ) (none :: env) l
  | yes {v : V} {o : O} {σ : List (Option V)} {env : List (Option O)} {l1 l : List Addr} : RpO k Hk H v o l1 → Sl k Hk H σ env l → Sl k Hk H (some v :: σ) (some o :: env) (l1 ++ l)

section
variable {k : Kn} {Hk Hk' H H' F : Hp}
theorem RpO.mono (e : Ex Hk Hk') {v : V} {o : O} {l : List Addr} (h : RpO k Hk H v o l) (s : ∀ a ∈ l, H' a = H a) : RpO k Hk' H' v o l := by
  cases h with
  | val r => exact .val (r.mono e)
  | lst h r => exact .lst (by rw [s _ (by simp)]; exact h) (r.mono e)
  | dic h r => exact .dic (by rw [s _ (by simp)]; exact h) (r.mono e)
  | dicT h r => exact .dicT (by rw [s _ (by simp)]; exact h) (r.mono e)
  | ins g h r => exact .ins g (by rw [s _ (by simp)]; exact h) (r.mono e)
  | st h1 h2 h3 => exact .st (by rw [s _ (by simp)]; exact h1) (by rw [s _ (by simp)]; exact h2) (e _ _ h3)
  | scr h => exact .scr (e.l h)
  | fn h => exact .fn fun Hk2 e2 => h Hk2 (e.trans e2)
theorem RpO.there {v : V} {o : O} {l : List Addr} (h : RpO k Hk H v o l) : ∀ a ∈ l, H a ≠ none := by
  cases h with
  | val r => intro a h; simp at h
  | lst h r => intro a e; simp at e; subst e; rw [h]; simp
  | dic h r => intro a e; simp at e; subst e; rw [h]; simp
  | dicT h r => intro a e; simp at e; subst e; rw [h]; simp
  | ins g h r => intro a e; simp at e; subst e; rw [h]; simp
  | st h1 h2 h3 =>
    intro a e
    simp at e
    rcases e with e | e
    · subst e; rw [h1]; simp
    · subst e; rw [h2]; simp
  | scr h => intro a h; simp at h
  | fn h => intro a h; simp at h
theorem Sl.len {σ : List (Option V)} {env : List (Option O)} {l : List Addr} (h : Sl k Hk H σ env l) : σ.length = env.length := by
  induction h with
  | nil => rfl
  | no _ ih => simp [ih]
  | yes _ _ ih => simp [ih]
theorem Sl.mono (e : Ex Hk Hk') {σ : List (Option V)} {env : List (Option O)} {l : List Addr} (h : Sl k Hk H σ env l) (s : ∀ a ∈ l, H' a = H a) : Sl k Hk' H' σ env l := by
  induction h with
  | nil => exact .nil
  | no _ ih => exact .no (ih s)
  | yes r _ ih => exact .yes (r.mono e fun a h => s a (List.mem_append_left _ h)) (ih fun a h => s a (List.mem_append_right _ h))
theorem Sl.there {σ : List (Option V)} {env : List (Option O)} {l : List Addr} (h : Sl k Hk H σ env l) : ∀ a ∈ l, H a ≠ none := by
  induction h with
  | nil => intro a h; simp at h
  | no _ ih => exact ih
  | yes r _ ih =>
    intro a h
    rcases List.mem_append.mp h with h | h
    · exact r.there a h
    · exact ih a h
theorem Sl.split {σ2 : List (Option V)} {env2 : List (Option O)} : ∀ {σ1 : List (Option V)} {env1 : List (Option O)} {l : List Addr}, σ1.length = env1.length → Sl k Hk H (σ1 ++ σ2) (env1 ++ env2) l → ∃ l1 l2, l = l1 ++ l2 ∧ Sl k Hk H σ1 env1 l1 ∧ Sl k Hk H σ2 env2 l2
  | [], [], l, _, h => ⟨[], l, rfl, .nil, h⟩
  | [], _ :: _, _, h, _ => by simp at h
  | _ :: _, [], _, h, _ => by simp at h
  | x :: σ1, none :: env1, l, e, h => by
    cases h with
    | no h =>
      obtain ⟨l1, l2, rfl, h1, h2⟩ := Sl.split (σ1 := σ1) (env1 := env1) (by simpa using e) h
      exact ⟨l1, l2, rfl, .no h1, h2⟩
  | x :: σ1, some o :: env1, l, e, h => by
    cases h with
    | yes r h =>
      obtain ⟨l1, l2, rfl, h1, h2⟩ := Sl.split (σ1 := σ1) (env1 := env1) (by simpa using e) h
      exact ⟨_ ++ l1, l2, by rw [List.append_assoc], .yes r h1, h2⟩
theorem Sl.append {σ2 : List (Option V)} {env2 : List (Option O)} {l2 : List Addr} (h2 : Sl k Hk H σ2 env2 l2) {σ1 : List (Option V)} {env1 : List (Option O)} {l1 : List Addr} (h1 : Sl k Hk H σ1 env1 l1) : Sl k Hk H (σ1 ++ σ2) (env1 ++ env2) (l1 ++ l2) := by
  induction h1 with
  | nil => exact h2
  | no _ ih => exact .no ih
  | yes r _ ih =>
    rw [List.append_assoc]
    exact .yes r ih
theorem Sl.take : ∀ {σ : List (Option V)} {env : List (Option O)} {l : List Addr} {i : Nat} {o : O}, Sl k Hk H σ env l → env[i]? = some (some o) → ∃ v l1 l2, σ[i]? = some (some v) ∧ RpO k Hk H v o l1 ∧ Sl k Hk H σ (env.set i none) l2 ∧ l.Perm (l1 ++ l2)
  | _, _, _, _, _, .nil, e => by simp at e
  | _, _, _, 0, _, .no _, e => by simp at e
  | _, _, _, 0, _, .yes (l1 := l1) (l := l) r h, e => by
    simp at e
    subst e
    exact ⟨_, l1, l, rfl, r, .no h, List.Perm.refl _⟩
  | _, _, _, i + 1, _, .no h, e => by
    obtain ⟨v, l1, l2, h1, h2, h3, h4⟩ := Sl.take (i := i) h (by simpa using e)
    exact ⟨v, l1, l2, by simpa using h1, h2, .no h3, h4⟩
  | _, _, _, i + 1, _, .yes (l1 := l0) r h, e => by
    obtain ⟨v, l1, l2, h1, h2, h3, h4⟩ := Sl.take (i := i) h (by simpa using e)
    refine ⟨v, l1, l0 ++ l2, by simpa using h1, h2, .yes r h3, ?_⟩
    refine (List.Perm.append_left l0 h4).trans ?_
    rw [← List.append_assoc, ← List.append_assoc]
    exact List.Perm.append_right l2 List.perm_append_comm
theorem Sl.put {v : V} {o : O} {l1 : List Addr} (r : RpO k Hk H v o l1) : ∀ {σ : List (Option V)} {env : List (Option O)} {l : List Addr} {i : Nat}, Sl k Hk H σ env l → env[i]? = some none → σ[i]? = some (some v) → ∃ fp, Sl k Hk H σ (env.set i (some o)) fp ∧ fp.Perm (l1 ++ l)
  | _, _, _, _, .nil, e, _ => by simp at e
  | _, _, _, 0, .no h, e, e2 => by
    simp at e2
    subst e2
    exact ⟨_, .yes r h, List.Perm.refl _⟩
  | _, _, _, 0, .yes _ _, e, _ => by simp at e
  | _, _, _, i + 1, .no h, e, e2 => by
    obtain ⟨fp, h1, h2⟩ := Sl.put r (i := i) h (by simpa using e) (by simpa using e2)
    exact ⟨fp, .no h1, h2⟩
  | _, _, _, i + 1, .yes (l1 := l0) r0 h, e, e2 => by
    obtain ⟨fp, h1, h2⟩ := Sl.put r (i := i) h (by simpa using e) (by simpa using e2)
    refine ⟨l0 ++ fp, .yes r0 h1, (List.Perm.append_left l0 h2).trans ?_⟩
    rw [← List.append_assoc, ← List.append_assoc]
    exact List.Perm.append_right _ List.perm_append_comm
theorem Sl.forget : ∀ {σ : List (Option V)} {env : List (Option O)} {l : List Addr} (i : Nat) (x : Option V), Sl k Hk H σ env l → ∃ fp, Sl k Hk H (σ.set i x) (env.set i none) fp ∧ fp.Sublist l
  | _, _, _, _, _, .nil => ⟨[], by simpa using Sl.nil, List.Sublist.refl _⟩
  | _, _, _, 0, _, .no h => ⟨_, .no h, List.Sublist.refl _⟩
  | _, _, _, 0, _, .yes _ h => ⟨_, .no h, List.sublist_append_right _ _⟩
  | _, _, _, i + 1, x, .no h => by
    obtain ⟨fp, h1, h2⟩ := Sl.forget i x h
    exact ⟨fp, .no h1, h2⟩
  | _, _, _, i + 1, x, .yes r h => by
    obtain ⟨fp, h1, h2⟩ := Sl.forget i x h
    exact ⟨_, .yes r h1, List.Sublist.append (List.Sublist.refl _) h2⟩
end

/-- the world: what stays (Hk), what others own (F), what the names hold -/
structure Dj (k : Kn) (Hk F H : Hp) : Prop where
  d : ∀ a, F a ≠ none → Hk a = none
  b : Ex k.B Hk
  t : ∀ p ∈ k.T, Hk p.1 = none ∧ F p.1 = none ∧ ∃ ps : Array Value, H p.1 = some (.tbl ps) ∧ TriplesOk ps.toList ∧ ∀ (pos : Pos) (cv : Value), codeAmong pos ps.toList = some cv → ∃ c, cv = .ref c ∧ Hk c = some (LamX.CodeO c (p.2 pos.line pos.col))
theorem Dj.to {k : Kn} {Hk F H Hk' F' H' : Hp} (x : Dj k Hk F H) (e : Ex Hk Hk') (d' : ∀ a, F' a ≠ none → Hk' a = none) (t' : ∀ p ∈ k.T, (∃ ps, H p.1 = some (.tbl ps)) → Hk p.1 = none → F p.1 = none → Hk' p.1 = none ∧ F' p.1 = none ∧ H' p.1 = H p.1) : Dj k Hk' F' H' :=
  ⟨d', x.b.trans e, fun p hp => by
    obtain ⟨a, b, ps, h, r, c⟩ := x.t p hp
    obtain ⟨a', b', h'⟩ := t' p hp ⟨ps, h⟩ a b
    refine ⟨a', b', ps, h'.trans h, r, fun pos cv hc => ?_⟩
    obtain ⟨q, e1, e2⟩ := c pos cv hc
    exact ⟨q, e1, e _ _ e2⟩⟩
theorem Dj.tb {k : Kn} {Hk F H : Hp} (x : Dj k Hk F H) {p : NdefX.NTab} (hp : p ∈ k.T) : ∃ ps, H p.1 = some (.tbl ps) := by
  obtain ⟨_, _, ps, h, _⟩ := x.t p hp
  exact ⟨ps, h⟩
/-- nothing that is known here has changed -/
theorem Dj.grow {k : Kn} {Hk F H H' : Hp} (x : Dj k Hk F H) (e : Ex H H') : Dj k Hk F H' := x.to (Ex.refl _) x.d fun p _ ⟨ps, h⟩ a b => ⟨a, b, (e _ _ h).trans h.symm⟩
theorem RpO.nt {k : Kn} {Hk H : Hp} {v : V} {o : O} {l : List Addr} (h : RpO k Hk H v o l) : ∀ a ∈ l, ∀ ps, H a ≠ some (.tbl ps) := by
  cases h with
  | val r => intro a h; simp at h
  | lst h r => intro a e; simp at e; subst e; rw [h]; simp
  | dic h r => intro a e; simp at e; subst e; rw [h]; simp
  | dicT h r => intro a e; simp at e; subst e; rw [h]; simp
  | ins g h r => intro a e; simp at e; subst e; rw [h]; simp
  | st h1 h2 h3 =>
    intro a e
    simp at e
    rcases e with e | e
    · subst e; rw [h1]; simp
    · subst e; rw [h2]; simp
  | scr h => intro a h; simp at h
  | fn h => intro a h; simp at h
theorem Sl.nt {k : Kn} {Hk H : Hp} {σ : List (Option V)} {env : List (Option O)} {l : List Addr} (h : Sl k Hk H σ env l) : ∀ a ∈ l, ∀ ps, H a ≠ some (.tbl ps) := by
  induction h with
  | nil => intro a h; simp at h
  | no _ ih => exact ih
  | yes r _ ih =>
    intro a h
    rcases List.mem_append.mp h with h | h
    · exact r.nt a h
    · exact ih a h
structure Wd (k : Kn) (Hk F H : Hp) (σ : List (Option V)) (env : List (Option O)) : Prop where
  ex : Ex Hk H
  fr : Ex F H
  dj : Dj k Hk F H
  sl : ∃ fp, Sl k Hk H σ env fp ∧ fp.Nodup ∧ ∀ a ∈ fp, Hk a = none ∧ F a = none

section
variable {k : Kn} {Hk Hk' H H' F : Hp} {σ : List (Option V)} {env : List (Option O)} {v : V} {o o' : O} {i : Nat}
theorem Wd.len (w : Wd k Hk F H σ env) : σ.length = env.length := by
  obtain ⟨_, h, _⟩ := w.sl
  exact h.len
/-- two parts, the second one set aside -/
theorem Wd.aside {σ1 σ2 : List (Option V)} {env1 env2 : List (Option O)} (w : Wd k Hk F H (σ1 ++ σ2) (env1 ++ env2)) (e : σ1.length = env1.length) :
    ∃ F2, Wd k Hk F2 H σ1 env1 ∧ ∀ Hk' H' τ η, Ex Hk Hk' → Wd k Hk' F2 H' τ η → Wd k Hk' F H' (τ ++ σ2) (η ++ env2) := by
  classical
  obtain ⟨fp, hs, nd, hd⟩ := w.sl
  obtain ⟨l1, l2, rfl, h1, h2⟩ := hs.split e
  obtain ⟨n1, n2, n12⟩ := List.nodup_append.mp nd
  have t2 := h2.there
  refine ⟨fun a => if a ∈ l2 then H a else F a, ⟨w.ex, fun a o h => ?_, w.dj.to (Ex.refl _) (fun a h => ?_) (fun p _ ⟨ps, hp⟩ ha hb => ⟨ha, by rw [if_neg fun q => h2.nt _ q ps hp]; exact hb, rfl⟩), l1, h1, n1, fun a h => ⟨(hd a (List.mem_append_left _ h)).1, ?_⟩⟩, fun Hk' H' τ η e' w' => ?_⟩
  · split at h
    · exact h
    · exact w.fr a o h
  · split at h
    · rename_i q
      exact (hd a (List.mem_append_right _ q)).1
    · exact w.dj.d a h
  · rw [if_neg fun q => n12 a h a q rfl]
    exact (hd a (List.mem_append_left _ h)).2
  · obtain ⟨fp', hs', nd', hd'⟩ := w'.sl
    have in2 : ∀ a ∈ l2, H' a = H a := fun a ha => by
      cases q : H a with
      | none => exact absurd q (t2 a ha)
      | some u => exact w'.fr a u (by rw [if_pos ha]; exact q)
    refine ⟨w'.ex, fun a o h => ?_, w'.dj.to (Ex.refl _) (fun a h => ?_) (fun p hp _ ha _ => ⟨ha, (w.dj.t p hp).2.1, rfl⟩), fp' ++ l2, (h2.mono e' in2).append hs', List.nodup_append.mpr ⟨nd', n2, fun a ha b hb z => ?_⟩, fun a ha => ?_⟩
    · refine w'.fr a o ?_
      rw [if_neg fun q => ?_]
      · exact h
      · have := (hd a (List.mem_append_right _ q)).2
        rw [h] at this
        cases this
    · refine w'.dj.d a ?_
      rw [if_neg fun q => h (hd a (List.mem_append_right _ q)).2]
      exact h
    · subst z
      have q := (hd' a ha).2
      rw [if_pos hb] at q
      exact t2 a hb q
    · rcases List.mem_append.mp ha with ha | ha
      · refine ⟨(hd' a ha).1, ?_⟩
        have q := (hd' a ha).2
        split at q
        · rename_i z
          exact absurd q (t2 a z)
        · exact q
      · refine ⟨w'.dj.d a ?_, (hd a (List.mem_append_right _ ha)).2⟩
        rw [if_pos ha]
        exact t2 a ha
theorem Wd.perm2 {x : Option V} {y : Option O} (w : Wd k Hk F H (x :: σ) (y :: env)) : Wd k Hk F H (σ ++ [x]) (env ++ [y]) := by
  obtain ⟨fp, hs, nd, hd⟩ := w.sl
  obtain ⟨l1, l2, rfl, h1, h2⟩ := Sl.split (σ1 := [x]) (env1 := [y]) rfl hs
  exact ⟨w.ex, w.fr, w.dj, l2 ++ l1, h1.append h2, (List.perm_append_comm.nodup_iff).mp nd, fun a h => hd a (by
    rcases List.mem_append.mp h with h | h
    · exact List.mem_append_right _ h
    · exact List.mem_append_left _ h)⟩
theorem Wd.perm1 {x : Option V} {y : Option O} (w : Wd k Hk F H (σ ++ [x]) (env ++ [y])) : Wd k Hk F H (x :: σ) (y :: env) := by
  have e : σ.length = env.length := by
    have := w.len
    simp at this
    omega
  obtain ⟨fp, hs, nd, hd⟩ := w.sl
  obtain ⟨l1, l2, rfl, h1, h2⟩ := Sl.split (σ2 := [x]) (env2 := [y]) e hs
  exact ⟨w.ex, w.fr, w.dj, l2 ++ l1, h1.append h2, (List.perm_append_comm.nodup_iff).mp nd, fun a h => hd a (by
    rcases List.mem_append.mp h with h | h
    · exact List.mem_append_right _ h
    · exact List.mem_append_left _ h)⟩
/-- the first one set aside -/
theorem Wd.aside1 {x : Option V} {y : Option O} (w : Wd k Hk F H (x :: σ) (y :: env)) :
    ∃ F2, Wd k Hk F2 H σ env ∧ ∀ Hk' H' τ η, Ex Hk Hk' → Wd k Hk' F2 H' τ η → Wd k Hk' F H' (x :: τ) (y :: η) := by
  have e := w.len
  obtain ⟨F2, h1, h2⟩ := w.perm2.aside (by simpa using e)
  exact ⟨F2, h1, fun Hk' H' τ η e' w' => (h2 Hk' H' τ η e' w').perm1⟩
theorem Wd.take (w : Wd k Hk F H σ env) (e : env[i]? = some (some o)) : ∃ v, σ[i]? = some (some v) ∧ Wd k Hk F H (some v :: σ) (some o :: env.set i none) := by
  obtain ⟨fp, hs, nd, hd⟩ := w.sl
  obtain ⟨v, l1, l2, h1, h2, h3, h4⟩ := hs.take e
  exact ⟨v, h1, w.ex, w.fr, w.dj, l1 ++ l2, .yes h2 h3, h4.nodup_iff.mp nd, fun a h => hd a (h4.mem_iff.mpr h)⟩
theorem Wd.put (w : Wd k Hk F H (some v :: σ) (some o :: env)) (e : env[i]? = some none) (e2 : σ[i]? = some (some v)) : Wd k Hk F H σ (env.set i (some o)) := by
  obtain ⟨fp, hs, nd, hd⟩ := w.sl
  cases hs with
  | yes r hs =>
    obtain ⟨fp', h1, h2⟩ := hs.put r e e2
    exact ⟨w.ex, w.fr, w.dj, fp', h1, h2.nodup_iff.mpr nd, fun a h => hd a (h2.mem_iff.mp h)⟩
theorem Wd.forget (w : Wd k Hk F H σ env) (i : Nat) (x : Option V) : Wd k Hk F H (σ.set i x) (env.set i none) := by
  obtain ⟨fp, hs, nd, hd⟩ := w.sl
  obtain ⟨fp', h1, h2⟩ := hs.forget i x
  exact ⟨w.ex, w.fr, w.dj, fp', h1, h2.nodup nd, fun a h => hd a (h2.subset h)⟩
theorem Wd.drop {x : Option V} {y : Option O} (w : Wd k Hk F H (x :: σ) (y :: env)) : Wd k Hk F H σ env := by
  obtain ⟨fp, hs, nd, hd⟩ := w.sl
  cases hs with
  | no hs => exact ⟨w.ex, w.fr, w.dj, _, hs, nd, hd⟩
  | yes r hs => exact ⟨w.ex, w.fr, w.dj, _, hs, (List.nodup_append.mp nd).2.1, fun a h => hd a (List.mem_append_right _ h)⟩
theorem Wd.swap {x x' : Option V} {y y' : Option O} (w : Wd k Hk F H (x :: x' :: σ) (y :: y' :: env)) : Wd k Hk F H (x' :: x :: σ) (y' :: y :: env) := by
  obtain ⟨fp, hs, nd, hd⟩ := w.sl
  obtain ⟨l1, l2, rfl, h1, h2⟩ := Sl.split (σ1 := [x]) (env1 := [y]) rfl hs
  obtain ⟨l3, l4, rfl, h3, h4⟩ := Sl.split (σ1 := [x']) (env1 := [y']) rfl h2
  have p : (l1 ++ (l3 ++ l4)).Perm (l3 ++ (l1 ++ l4)) := by
    rw [← List.append_assoc, ← List.append_assoc]
    exact List.Perm.append_right l4 List.perm_append_comm
  exact ⟨w.ex, w.fr, w.dj, l3 ++ (l1 ++ l4), (h4.append h1).append h3, p.nodup_iff.mp nd, fun a h => hd a (p.mem_iff.mpr h)⟩
/-- x = e -/
theorem Wd.store (w : Wd k Hk F H (some v :: σ) (some o :: env)) (hi : i < σ.length) : Wd k Hk F H (σ.set i (some v)) (env.set i (some o)) := by
  have e := w.len
  have w1 : Wd k Hk F H (some v :: σ.set i (some v)) (some o :: env.set i none) := by
    have := w.forget (i + 1) (some v)
    simpa using this
  have := w1.put (i := i) (by rw [List.getElem?_set_self (by simp at e; omega)]) (by rw [List.getElem?_set_self hi])
  simpa using this
theorem Wd.grow (w : Wd k Hk F H σ env) (e : Ex H H') : Wd k Hk F H' σ env := by
  obtain ⟨fp, hs, nd, hd⟩ := w.sl
  refine ⟨w.ex.trans e, w.fr.trans e, w.dj.grow e, fp, hs.mono (Ex.refl _) fun a h => ?_, nd, hd⟩
  cases q : H a with
  | none => exact absurd q (hs.there a h)
  | some u => exact e a u q
/-- a new object that stays -/
theorem Wd.growK {p : Addr} {u : HO} (w : Wd k Hk F H σ env) (h : H p = none) : Wd k (upd Hk p u) F (upd H p u) σ env := by
  have hk : Hk p = none := w.ex.free h
  have hf : F p = none := w.fr.free h
  obtain ⟨fp, hs, nd, hd⟩ := w.sl
  have np : ∀ a ∈ fp, a ≠ p := fun a ha z => by
    subst z
    exact hs.there a ha h
  refine ⟨fun a o e => ?_, w.fr.trans (Ex.new h), w.dj.to (Ex.new hk) (fun a e => ?_) (fun q _ ⟨ps, hq⟩ ha hb => ⟨by rw [upd_ne (ne_of_none hq h)]; exact ha, hb, by rw [upd_ne (ne_of_none hq h)]⟩), fp, hs.mono (Ex.new hk) fun a ha => upd_ne (np a ha), nd, fun a ha => ⟨by rw [upd_ne (np a ha)]; exact (hd a ha).1, (hd a ha).2⟩⟩
  · by_cases q : a = p
    · subst q
      rw [upd_same] at e ⊢
      exact e
    · rw [upd_ne q] at e ⊢
      exact w.ex a o e
  · by_cases q : a = p
    · subst q
      exact absurd hf e
    · rw [upd_ne q]
      exact w.dj.d a e
theorem Wd.push {l : List Addr} (w : Wd k Hk F H σ env) (e : Ex H H') (r : RpO k Hk H' v o l) (nd : l.Nodup) (hn : ∀ a ∈ l, H a = none) : Wd k Hk F H' (some v :: σ) (some o :: env) := by
  obtain ⟨fp, hs, nd', hd⟩ := w.sl
  have th := hs.there
  refine ⟨w.ex.trans e, w.fr.trans e, w.dj.grow e, l ++ fp, .yes r (hs.mono (Ex.refl _) fun a h => ?_), List.nodup_append.mpr ⟨nd, nd', fun a ha b hb z => ?_⟩, fun a ha => ?_⟩
  · cases q : H a with
    | none => exact absurd q (th a h)
    | some u => exact e a u q
  · subst z
    exact th a hb (hn a ha)
  · rcases List.mem_append.mp ha with ha | ha
    · exact ⟨w.ex.free (hn a ha), w.fr.free (hn a ha)⟩
    · exact hd a ha
theorem Wd.pushV {d : D} (w : Wd k Hk F H σ env) (r : Rp k Hk v d) : Wd k Hk F H (some v :: σ) (some (.val d) :: env) := w.push (Ex.refl _) (.val r) List.nodup_nil (fun a h => by simp at h)
/-- the object on top is changed -/
theorem Wd.mut (w : Wd k Hk F H (some v :: σ) (some o :: env)) (r : ∀ l, RpO k Hk H v o l → l.Nodup → (∀ a ∈ l, Hk a = none) → RpO k Hk H' v o' l ∧ ∀ a, a ∉ l → H' a = H a) : Wd k Hk F H' (some v :: σ) (some o' :: env) := by
  obtain ⟨fp, hs, nd, hd⟩ := w.sl
  cases hs with
  | yes r0 hs =>
    obtain ⟨n1, n2, n12⟩ := List.nodup_append.mp nd
    obtain ⟨r1, k1⟩ := r _ r0 n1 fun a h => (hd a (List.mem_append_left _ h)).1
    refine ⟨fun a o e => ?_, fun a o e => ?_, w.dj.to (Ex.refl _) w.dj.d (fun q _ ⟨ps, hq⟩ ha hb => ⟨ha, hb, k1 _ fun z => r0.nt _ z ps hq⟩), _, .yes r1 (hs.mono (Ex.refl _) fun a h => k1 a fun q => n12 a q a h rfl), nd, hd⟩
    · rw [k1 a fun q => ?_]
      · exact w.ex a o e
      · have := (hd a (List.mem_append_left _ q)).1
        rw [e] at this
        cases this
    · rw [k1 a fun q => ?_]
      · exact w.fr a o e
      · have := (hd a (List.mem_append_left _ q)).2
        rw [e] at this
        cases this
/-- the top is data -/
theorem Wd.topV {d : D} (w : Wd k Hk F H (some v :: σ) (some (.val d) :: env)) : Rp k Hk v d := by
  obtain ⟨fp, hs, nd, hd⟩ := w.sl
  cases hs with
  | yes r0 hs =>
    cases r0 with
    | val r => exact r
theorem Wd.top (w : Wd k Hk F H (some v :: σ) (some o :: env)) : ∃ l, RpO k Hk H v o l := by
  obtain ⟨fp, hs, nd, hd⟩ := w.sl
  cases hs with
  | yes r0 hs => exact ⟨_, r0⟩

/-- what one holds, as data (nobody may change it from then on) -/
def O.frz : O → Option D
  | .val d => some d
  | .lst ds => some (.lst ds)
  | .dic t kvs => some (.dic t kvs)
  | .ins c fs => some (.ins c fs)
  | .st _ _ _ _ => none
  | .scr _ => none
  | .fn _ => none
theorem Wd.freeze {d : D} (w : Wd k Hk F H (some v :: σ) (some o :: env)) (e : o.frz = some d) : ∃ Hk', Ex Hk Hk' ∧ Wd k Hk' F H σ env ∧ Rp k Hk' v d := by
  obtain ⟨fp, hs, nd, hd⟩ := w.sl
  cases hs with
  | yes r0 hs =>
    obtain ⟨n1, n2, n12⟩ := List.nodup_append.mp nd
    have one : ∀ {a : Addr} {u : HO} {l : List Addr}, (∀ b ∈ [a], ∀ c ∈ l, b ≠ c) → (∀ b ∈ [a] ++ l, Hk b = none ∧ F b = none) → l.Nodup → Sl k Hk H σ env l → H a = some u → (∀ ps, u ≠ .tbl ps) → ∃ Hk', Hk' = upd Hk a u ∧ Ex Hk Hk' ∧ Wd k Hk' F H σ env := by
      intro a u l hne hz hnd hsl ha hnt
      have ka : Hk a = none := (hz a (by simp)).1
      have nl : ∀ b ∈ l, b ≠ a := fun b hb => (hne a (by simp) b hb).symm
      refine ⟨_, rfl, Ex.new ka, fun b o q => ?_, w.fr, w.dj.to (Ex.new ka) (fun b q => ?_) (fun q _ ⟨ps, hq⟩ ha' hb => ⟨by rw [upd_ne (ne_of hq ha (hnt ps).symm)]; exact ha', hb, rfl⟩), l, hsl.mono (Ex.new ka) (fun _ _ => rfl), hnd, fun b hb => ⟨by rw [upd_ne (nl b hb)]; exact (hz b (List.mem_append_right _ hb)).1, (hz b (List.mem_append_right _ hb)).2⟩⟩
      · by_cases z : b = a
        · subst z
          rw [upd_same] at q
          rw [ha]
          exact q
        · rw [upd_ne z] at q
          exact w.ex b o q
      · have z : b ≠ a := fun z => by
          subst z
          exact q (hz b (by simp)).2
        rw [upd_ne z]
        exact w.dj.d b q
    cases r0 with
    | val r =>
      cases e
      exact ⟨Hk, Ex.refl _, w.drop, r⟩
    | lst h r =>
      cases e
      obtain ⟨Hk', q, e1, w1⟩ := one n12 hd n2 hs h (fun _ z => nomatch z)
      refine ⟨Hk', e1, w1, .lst ?_ (r.mono e1)⟩
      rw [q, upd_same]
    | dic h r =>
      cases e
      obtain ⟨Hk', q, e1, w1⟩ := one n12 hd n2 hs h (fun _ z => nomatch z)
      refine ⟨Hk', e1, w1, .dic ?_ (r.mono e1)⟩
      rw [q, upd_same]
    | dicT h r =>
      cases e
      obtain ⟨Hk', q, e1, w1⟩ := one n12 hd n2 hs h (fun _ z => nomatch z)
      refine ⟨Hk', e1, w1, .dicT ?_ (r.mono e1)⟩
      rw [q, upd_same]
    | ins g h r =>
      cases e
      obtain ⟨Hk', q, e1, w1⟩ := one n12 hd n2 hs h (fun _ z => nomatch z)
      exact ⟨Hk', e1, w1, .ins g (by rw [q]; exact upd_same) (r.mono e1)⟩
    | st h1 h2 h3 => cases e
    | scr h => cases e
    | fn h => cases e
end

/-! ### what is known, told over other knowledge -/
section
variable {k k' : Kn} {H : Hp}
mutual
theorem Rp.kn (g : k.G = k'.G) : ∀ {v : V} {d : D}, Rp k H v d → Rp k' H v d
  | _, _, .non => .non
  | _, _, .bl b => .bl b
  | _, _, .int i => .int i
  | _, _, .str s h => .str s h
  | _, _, .lst h r => .lst h (RpAll.kn g r)
  | _, _, .tup h r => .tup h (RpAll.kn g r)
  | _, _, .dic h r => .dic h (RpKV.kn g r)
  | _, _, .dicT h r => .dicT h (RpKT.kn g r)
  | _, _, .ins c h r => .ins (g ▸ c) h (RpF.kn g r)
  | _, _, .xc c h => .xc (g ▸ c) h
theorem RpAll.kn (g : k.G = k'.G) : ∀ {v : List V} {d : List D}, RpAll k H v d → RpAll k' H v d
  | _, _, .nil => .nil
  | _, _, .cons h r => .cons (Rp.kn g h) (RpAll.kn g r)
theorem RpKV.kn (g : k.G = k'.G) : ∀ {v : List (Key × V)} {d : List (D × D)}, RpKV k H v d → RpKV k' H v d
  | _, _, .nil => .nil
  | _, _, .cons z h r => .cons z (Rp.kn g h) (RpKV.kn g r)
theorem RpKT.kn (g : k.G = k'.G) : ∀ {v : List (List Key × V)} {d : List (D × D)}, RpKT k H v d → RpKT k' H v d
  | _, _, .nil => .nil
  | _, _, .cons z h r => .cons z (Rp.kn g h) (RpKT.kn g r)
theorem RpF.kn (g : k.G = k'.G) : ∀ {v : List (Str × V)} {d : List (Str × D)}, RpF k H v d → RpF k' H v d
  | _, _, .nil => .nil
  | _, _, .cons h r => .cons (Rp.kn g h) (RpF.kn g r)
end
/-- no function of one's own -/
def O.nf : O → Bool
  | .fn _ => false
  | _ => true
def nfE (env : List (Option O)) : Bool := env.all fun x => match x with
  | some o => o.nf
  | none => true
theorem RpO.kn {Hk : Hp} {v : V} {o : O} {l : List Addr} (g : k.G = k'.G) (gK : k.K = k'.K) (hL : o.nf = true ∨ ∀ j f Hk, k.L j f Hk → k'.L j f Hk) (h : RpO k Hk H v o l) : RpO k' Hk H v o l := by
  cases h with
  | val r => exact .val (r.kn g)
  | lst h r => exact .lst h (r.kn g)
  | dic h r => exact .dic h (r.kn g)
  | dicT h r => exact .dicT h (r.kn g)
  | ins c h r => exact .ins (g ▸ c) h (r.kn g)
  | st h1 h2 h3 => exact .st h1 h2 h3
  | scr h => exact .scr (gK ▸ h)
  | fn h =>
    rcases hL with z | z
    · cases z
    · exact .fn fun Hk2 e2 => z _ _ _ (h Hk2 e2)
theorem Sl.kn {Hk : Hp} {σ : List (Option V)} {env : List (Option O)} {l : List Addr} (g : k.G = k'.G) (gK : k.K = k'.K) (hL : nfE env = true ∨ ∀ j f Hk, k.L j f Hk → k'.L j f Hk) (h : Sl k Hk H σ env l) : Sl k' Hk H σ env l := by
  induction h with
  | nil => exact .nil
  | no _ ih =>
    refine .no (ih (hL.imp (fun z => ?_) id))
    simpa [nfE] using z
  | yes r _ ih =>
    refine .yes (r.kn g gK (hL.imp (fun z => ?_) id)) (ih (hL.imp (fun z => ?_) id))
    · simp [nfE] at z
      exact z.1
    · simp [nfE] at z
      simpa [nfE] using z.2
theorem Wd.kn {Hk F : Hp} {σ : List (Option V)} {env : List (Option O)} (w : Wd k Hk F H σ env) (g : k.G = k'.G) (gK : k.K = k'.K) (gT : k'.T = k.T) (gB : Ex k'.B Hk) (hL : nfE env = true ∨ ∀ j f Hk, k.L j f Hk → k'.L j f Hk) : Wd k' Hk F H σ env := by
  obtain ⟨fp, hs, nd, hd⟩ := w.sl
  exact ⟨w.ex, w.fr, ⟨w.dj.d, gB, by rw [gT]; exact w.dj.t⟩, fp, hs.kn g gK hL, nd, hd⟩
abbrev noL : Nat → Addr → Hp → Prop := fun _ _ _ => False
/-- the same knowledge, no functions of one's own -/
abbrev Kn.b (k : Kn) : Kn := { k with L := noL }
theorem Wd.toB {Hk F : Hp} {σ : List (Option V)} {env : List (Option O)} (w : Wd k Hk F H σ env) (h : nfE env = true) : Wd k.b Hk F H σ env := w.kn rfl rfl rfl w.dj.b (.inl h)
theorem Wd.ofB {Hk F : Hp} {σ : List (Option V)} {env : List (Option O)} (w : Wd k.b Hk F H σ env) : Wd k Hk F H σ env := w.kn rfl rfl rfl w.dj.b (.inr fun _ _ _ z => z.elim)
end
end SW

/-! what an expression comes to, over data -/
namespace SW
open PySem L2

abbrev Env := List (Option O)
/-- an end: a value; an exception of one's own, by its class's name and fields; none is promised -/
inductive R (α : Type) where
  | ok (a : α)
  | exc (c : Str) (fs : List (Str × D)) (env : Env)
  | stuck
def R.bind {α β : Type} : R α → (α → R β) → R β
  | .ok a, f => f a
  | .exc c fs env, _ => .exc c fs env
  | .stuck, _ => .stuck
theorem R.bind_ok {α β : Type} (a : α) (f : α → R β) : R.bind (.ok a) f = f a := rfl
theorem R.bind_exc {α β : Type} (c : Str) (fs : List (Str × D)) (env : Env) (f : α → R β) : R.bind (.exc c fs env) f = .exc c fs env := rfl
theorem R.bind_stuck {α β : Type} (f : α → R β) : R.bind (.stuck) f = .stuck := rfl
/-- a value: an object (or data), or what the i-th name holds -/
inductive Vr where
  | ob (o : O)
  | sl (i : Nat)
abbrev ME := Env → R (Vr × Env)
abbrev MT := Env → R (Bool × Env)
abbrev MA := Env → R (List Vr × Env)

def topV : List V → List Vr → List (Option V)
  | v :: vs, .ob _ :: xs => some v :: topV vs xs
  | _ :: vs, .sl _ :: xs => topV vs xs
  | _, _ => []
def topE : List Vr → Env
  | .ob o :: xs => some o :: topE xs
  | .sl _ :: xs => topE xs
  | [] => []
/-- the world with values on top -/
structure Wl (k : Kn) (Hk F H : Hp) (σ : L2.St) (env : Env) (vs : List V) (xs : List Vr) : Prop where
  len : vs.length = xs.length
  w : Wd k Hk F H (topV vs xs ++ σ) (topE xs ++ env)
  sl : ∀ (j i : Nat) (v : V), xs[j]? = some (.sl i) → vs[j]? = some v → σ[i]? = some (some v)
theorem top_len : ∀ {vs : List V} {xs : List Vr}, vs.length = xs.length → (topV vs xs).length = (topE xs).length
  | [], [], _ => rfl
  | [], _ :: _, h => by simp at h
  | _ :: _, [], h => by simp at h
  | v :: vs, .ob o :: xs, h => by
    simp [topV, topE]
    exact top_len (by simpa using h)
  | v :: vs, .sl i :: xs, h => by
    simp [topV, topE]
    exact top_len (by simpa using h)
theorem topV_append : ∀ {vs : List V} {xs : List Vr} {ws : List V} {ys : List Vr}, vs.length = xs.length → topV (vs ++ ws) (xs ++ ys) = topV vs xs ++ topV ws ys
  | [], [], _, _, _ => rfl
  | [], _ :: _, _, _, h => by simp at h
  | _ :: _, [], _, _, h => by simp at h
  | v :: vs, .ob o :: xs, ws, ys, h => by
    simp [topV]
    exact topV_append (by simpa using h)
  | v :: vs, .sl i :: xs, ws, ys, h => by
    simp [topV]
    exact topV_append (by simpa using h)
theorem topE_append : ∀ {xs ys : List Vr}, topE (xs ++ ys) = topE xs ++ topE ys
  | [], _ => rfl
  | .ob o :: xs, ys => by simp [topE, topE_append]
  | .sl i :: xs, ys => by simp [topE, topE_append]
section
variable {k : Kn} {Hk Hk' H H' F : Hp} {σ : L2.St} {env env' : Env} {vs ws : List V} {xs ys : List Vr} {v : V} {x : Vr} {o : O} {d : D} {i : Nat}
theorem Wl.nil (w : Wd k Hk F H σ env) : Wl k Hk F H σ env [] [] := ⟨rfl, w, fun j i v h => by simp at h⟩
theorem Wd.dropL : ∀ {τ : List (Option V)} {η : Env}, τ.length = η.length → Wd k Hk F H (τ ++ σ) (η ++ env) → Wd k Hk F H σ env
  | [], [], _, w => w
  | [], _ :: _, h, _ => by simp at h
  | _ :: _, [], h, _ => by simp at h
  | _ :: τ, _ :: η, h, w => Wd.dropL (τ := τ) (η := η) (by simpa using h) w.drop
/-- the values forgotten -/
theorem Wl.base (w : Wl k Hk F H σ env vs xs) : Wd k Hk F H σ env := Wd.dropL (top_len w.len) w.w
/-- the values set aside while others are made -/
theorem Wl.aside (w : Wl k Hk F H σ env vs xs) : ∃ F2, Wd k Hk F2 H σ env ∧ ∀ Hk' H' env' ws ys, Ex Hk Hk' → Wl k Hk' F2 H' σ env' ws ys → Wl k Hk' F H' σ env' (vs ++ ws) (xs ++ ys) := by
  have rot : ∀ {τ : List (Option V)} {η : Env} {Hk F H : Hp} {σ : L2.St} {env : Env}, τ.length = η.length → Wd k Hk F H (τ ++ σ) (η ++ env) → Wd k Hk F H (σ ++ τ) (env ++ η) := by
    intro τ η Hk F H σ env e w
    obtain ⟨fp, hs, nd, hd⟩ := w.sl
    obtain ⟨l1, l2, rfl, h1, h2⟩ := Sl.split e hs
    exact ⟨w.ex, w.fr, w.dj, l2 ++ l1, h1.append h2, (List.perm_append_comm.nodup_iff).mp nd, fun a h => hd a (by
      rcases List.mem_append.mp h with h | h
      · exact List.mem_append_right _ h
      · exact List.mem_append_left _ h)⟩
  have e0 := w.base.len
  have e1 := top_len w.len
  obtain ⟨F2, w2, hback⟩ := (rot e1 w.w).aside e0
  refine ⟨F2, w2, fun Hk' H' env' ws ys e w' => ⟨by simp [w.len, w'.len], ?_, fun j i v h1 h2 => ?_⟩⟩
  · have z := hback Hk' H' _ _ e w'.w
    have z2 := rot (by have := z.len; simp [e1] at this; simp; omega) z
    rw [topV_append w.len, topE_append]
    simpa [List.append_assoc] using z2
  · by_cases hj : j < vs.length
    · rw [List.getElem?_append_left (by rw [← w.len]; exact hj)] at h1
      rw [List.getElem?_append_left hj] at h2
      exact w.sl j i v h1 h2
    · rw [List.getElem?_append_right (by rw [← w.len]; omega), ← w.len] at h1
      rw [List.getElem?_append_right (by omega)] at h2
      exact w'.sl _ i v h1 h2

/-- what can be read at v just now, its items being data that stays -/
def RpN (k : Kn) (Hk H : Hp) (v : V) (d : D) : Prop := ∃ o l, RpO k Hk H v o l ∧ o.frz = some d
theorem RpN.of (r : Rp k Hk v d) : RpN k Hk H v d := ⟨.val d, [], .val r, rfl⟩
/-- a value as data, as it is just now -/
def rd (env : Env) : Vr → Option D
  | .ob o => o.frz
  | .sl i => match env[i]? with
    | some (some o) => o.frz
    | _ => none
theorem Wd.slotN (w : Wd k Hk F H σ env) (e : env[i]? = some (some o)) (e2 : σ[i]? = some (some v)) (e3 : o.frz = some d) : RpN k Hk H v d := by
  obtain ⟨v', h1, w1⟩ := w.take e
  rw [e2] at h1
  cases h1
  obtain ⟨l, r⟩ := w1.top
  exact ⟨o, l, r, e3⟩
theorem Wl.rdN : ∀ {vs : List V} {xs : List Vr} {j : Nat} {v : V} {x : Vr}, Wl k Hk F H σ env vs xs → xs[j]? = some x → vs[j]? = some v → rd env x = some d → RpN k Hk H v d
  | vs, xs, j, v, .sl i, w, h1, h2, h3 => by
    have e := w.sl j i v h1 h2
    simp only [rd] at h3
    split at h3
    · rename_i o ho
      exact w.base.slotN ho e h3
    · cases h3
  | v0 :: vs, .ob o :: xs, 0, v, .ob o', w, h1, h2, h3 => by
    simp at h1 h2
    subst h1 h2
    have w' : Wd k Hk F H (some v0 :: (topV vs xs ++ σ)) (some o :: (topE xs ++ env)) := w.w
    obtain ⟨l, r⟩ := w'.top
    exact ⟨o, l, r, h3⟩
  | v0 :: vs, .sl i :: xs, 0, v, .ob o', w, h1, h2, h3 => by simp at h1
  | v0 :: vs, .ob o :: xs, j + 1, v, .ob o', w, h1, h2, h3 => by
    refine Wl.rdN (vs := vs) (xs := xs) (j := j) ⟨by simpa using w.len, ?_, fun j i v a b => w.sl (j + 1) i v (by simpa using a) (by simpa using b)⟩ (by simpa using h1) (by simpa using h2) h3
    have w' : Wd k Hk F H (some v0 :: (topV vs xs ++ σ)) (some o :: (topE xs ++ env)) := w.w
    exact w'.drop
  | v0 :: vs, .sl i :: xs, j + 1, v, .ob o', w, h1, h2, h3 => by
    exact Wl.rdN (vs := vs) (xs := xs) (j := j) ⟨by simpa using w.len, w.w, fun j i v a b => w.sl (j + 1) i v (by simpa using a) (by simpa using b)⟩ (by simpa using h1) (by simpa using h2) h3
  | [], _ :: _, _, _, _, w, _, _, _ => by
    have := w.len
    simp at this
  | _, [], _, _, _, w, h1, _, _ => by simp at h1
end

/-- how an exception lies -/
def XcOk (k : Kn) (Hk H : Hp) (c : Str) (fs : List (Str × D)) (cls : Value) (dd : Option Addr) : Prop :=
  ∃ C, k.G c = some C ∧ cls = .ref C ∧ ((fs = [] ∧ dd = none) ∨ (fs ≠ [] ∧ ∃ d ps, dd = some d ∧ H d = some (.xd ps) ∧ RpF k Hk ps fs))
def WantL (k : Kn) (W : WX) (Hk F : Hp) (σ : L2.St) (r : R (List Vr × Env)) (Q : List V → Hp → Prop) : Prop := match r with
  | .ok (xs, env') => ∀ vs Hk' H', Ex Hk Hk' → Wl k Hk' F H' σ env' vs xs → Q vs H'
  | .exc c fs env' => ∀ cls dd Hk' H', Ex Hk Hk' → Wd k Hk' F H' σ env' → XcOk k Hk' H' c fs cls dd → W cls dd σ H'
  | .stuck => False
def WantE (k : Kn) (W : WX) (Hk F : Hp) (σ : L2.St) (r : R (Vr × Env)) (Q : VK) : Prop := match r with
  | .ok (x, env') => ∀ v Hk' H', Ex Hk Hk' → Wl k Hk' F H' σ env' [v] [x] → Q v H'
  | .exc c fs env' => ∀ cls dd Hk' H', Ex Hk Hk' → Wd k Hk' F H' σ env' → XcOk k Hk' H' c fs cls dd → W cls dd σ H'
  | .stuck => False
def WantT (k : Kn) (W : WX) (Hk F : Hp) (σ : L2.St) (r : R (Bool × Env)) (Q : Bool → Hp → Prop) : Prop := match r with
  | .ok (b, env') => ∀ Hk' H', Ex Hk Hk' → Wd k Hk' F H' σ env' → Q b H'
  | .exc c fs env' => ∀ cls dd Hk' H', Ex Hk Hk' → Wd k Hk' F H' σ env' → XcOk k Hk' H' c fs cls dd → W cls dd σ H'
  | .stuck => False
def tM (k : Kn) (W : WX) (m : ME) : TE := fun σ H Q => ∃ Hk F env, Wd k Hk F H σ env ∧ WantE k W Hk F σ (m env) Q
def tMT (k : Kn) (W : WX) (m : MT) : TT := fun σ H Q => ∃ Hk F env, Wd k Hk F H σ env ∧ WantT k W Hk F σ (m env) Q
def tMA (k : Kn) (W : WX) (m : MA) : TA := fun σ H Q => ∃ Hk F env, Wd k Hk F H σ env ∧ WantL k W Hk F σ (m env) Q

section
variable {k : Kn} {W : WX} {Hk F H : Hp} {σ : L2.St} {env : Env} {Q : VK} {vs : List V} {xs : List Vr}
/-- an expression ahead of more; vs, xs: values made ahead of it -/
theorem seqE {m : ME} {β : Type} {f : Vr × Env → R β} {Kt : VK} (w : Wl k Hk F H σ env vs xs)
    (hx : ∀ c fs e', R.bind (m env) f = .exc c fs e' → ∀ cls dd Hk' H', Ex Hk Hk' → Wd k Hk' F H' σ e' → XcOk k Hk' H' c fs cls dd → W cls dd σ H') (hs : R.bind (m env) f ≠ .stuck)
    (hk : ∀ x env' v Hk' H', m env = .ok (x, env') → Ex Hk Hk' → Wl k Hk' F H' σ env' (vs ++ [v]) (xs ++ [x]) → Kt v H') : tM k W m σ H Kt := by
  obtain ⟨F2, w2, back⟩ := w.aside
  refine ⟨Hk, F2, env, w2, ?_⟩
  cases e : m env with
  | stuck =>
    rw [e] at hs
    exact absurd rfl hs
  | exc c fs e' =>
    rw [e] at hx
    intro cls dd Hk' H' ex w' xc
    exact hx c fs e' rfl cls dd Hk' H' ex (back Hk' H' e' [] [] ex (Wl.nil w')).base xc
  | ok p =>
    obtain ⟨x, env'⟩ := p
    intro v Hk' H' ex w'
    exact hk x env' v Hk' H' e ex (back Hk' H' env' [v] [x] ex w')
theorem seqT {m : MT} {β : Type} {f : Bool × Env → R β} {Kt : Bool → Hp → Prop} (w : Wl k Hk F H σ env vs xs)
    (hx : ∀ c fs e', R.bind (m env) f = .exc c fs e' → ∀ cls dd Hk' H', Ex Hk Hk' → Wd k Hk' F H' σ e' → XcOk k Hk' H' c fs cls dd → W cls dd σ H') (hs : R.bind (m env) f ≠ .stuck)
    (hk : ∀ b env' Hk' H', m env = .ok (b, env') → Ex Hk Hk' → Wl k Hk' F H' σ env' vs xs → Kt b H') : tMT k W m σ H Kt := by
  obtain ⟨F2, w2, back⟩ := w.aside
  refine ⟨Hk, F2, env, w2, ?_⟩
  cases e : m env with
  | stuck =>
    rw [e] at hs
    exact absurd rfl hs
  | exc c fs e' =>
    rw [e] at hx
    intro cls dd Hk' H' ex w' xc
    exact hx c fs e' rfl cls dd Hk' H' ex (back Hk' H' e' [] [] ex (Wl.nil w')).base xc
  | ok p =>
    obtain ⟨b, env'⟩ := p
    intro Hk' H' ex w'
    exact hk b env' Hk' H' e ex (by simpa using back Hk' H' env' [] [] ex (Wl.nil w'))
theorem seqA {m : MA} {β : Type} {f : List Vr × Env → R β} {Kt : List V → Hp → Prop} (w : Wl k Hk F H σ env vs xs)
    (hx : ∀ c fs e', R.bind (m env) f = .exc c fs e' → ∀ cls dd Hk' H', Ex Hk Hk' → Wd k Hk' F H' σ e' → XcOk k Hk' H' c fs cls dd → W cls dd σ H') (hs : R.bind (m env) f ≠ .stuck)
    (hk : ∀ ys env' ws Hk' H', m env = .ok (ys, env') → Ex Hk Hk' → Wl k Hk' F H' σ env' (vs ++ ws) (xs ++ ys) → Kt ws H') : tMA k W m σ H Kt := by
  obtain ⟨F2, w2, back⟩ := w.aside
  refine ⟨Hk, F2, env, w2, ?_⟩
  cases e : m env with
  | stuck =>
    rw [e] at hs
    exact absurd rfl hs
  | exc c fs e' =>
    rw [e] at hx
    intro cls dd Hk' H' ex w' xc
    exact hx c fs e' rfl cls dd Hk' H' ex (back Hk' H' e' [] [] ex (Wl.nil w')).base xc
  | ok p =>
    obtain ⟨ys, env'⟩ := p
    intro ws Hk' H' ex w'
    exact hk ys env' ws Hk' H' e ex (back Hk' H' env' ws ys ex w')

/-- an end's exceptions and its 'no promise', whichever end it is -/
structure Bad (k : Kn) (W : WX) (Hk F : Hp) (σ : L2.St) {α : Type} (r : R α) : Prop where
  exc : ∀ c fs e', r = .exc c fs e' → ∀ cls dd Hk' H', Ex Hk Hk' → Wd k Hk' F H' σ e' → XcOk k Hk' H' c fs cls dd → W cls dd σ H'
  ns : r ≠ .stuck
theorem WantE.bad {r : R (Vr × Env)} (h : WantE k W Hk F σ r Q) : Bad k W Hk F σ r := by
  cases r with
  | ok p => exact ⟨(fun _ _ _ e => nomatch e), fun e => nomatch e⟩
  | exc c fs e' =>
    refine ⟨fun c2 f2 e2 e => ?_, fun e => nomatch e⟩
    cases e
    exact h
  | stuck => exact h.elim
theorem WantT.bad {r : R (Bool × Env)} {Q : Bool → Hp → Prop} (h : WantT k W Hk F σ r Q) : Bad k W Hk F σ r := by
  cases r with
  | ok p => exact ⟨(fun _ _ _ e => nomatch e), fun e => nomatch e⟩
  | exc c fs e' =>
    refine ⟨fun c2 f2 e2 e => ?_, fun e => nomatch e⟩
    cases e
    exact h
  | stuck => exact h.elim
theorem WantL.bad {r : R (List Vr × Env)} {Q : List V → Hp → Prop} (h : WantL k W Hk F σ r Q) : Bad k W Hk F σ r := by
  cases r with
  | ok p => exact ⟨(fun _ _ _ e => nomatch e), fun e => nomatch e⟩
  | exc c fs e' =>
    refine ⟨fun c2 f2 e2 e => ?_, fun e => nomatch e⟩
    cases e
    exact h
  | stuck => exact h.elim
theorem WantE.mono {Hk1 : Hp} {r : R (Vr × Env)} (h : WantE k W Hk F σ r Q) (e : Ex Hk Hk1) : WantE k W Hk1 F σ r Q := by
  cases r with
  | ok p => exact fun v Hk' H' ex w => h v Hk' H' (e.trans ex) w
  | exc c fs e' => exact fun cls dd Hk' H' ex w x => h cls dd Hk' H' (e.trans ex) w x
  | stuck => exact h
theorem WantT.mono {Hk1 : Hp} {r : R (Bool × Env)} {Q : Bool → Hp → Prop} (h : WantT k W Hk F σ r Q) (e : Ex Hk Hk1) : WantT k W Hk1 F σ r Q := by
  cases r with
  | ok p => exact fun Hk' H' ex w => h Hk' H' (e.trans ex) w
  | exc c fs e' => exact fun cls dd Hk' H' ex w x => h cls dd Hk' H' (e.trans ex) w x
  | stuck => exact h
theorem WantL.mono {Hk1 : Hp} {r : R (List Vr × Env)} {Q : List V → Hp → Prop} (h : WantL k W Hk F σ r Q) (e : Ex Hk Hk1) : WantL k W Hk1 F σ r Q := by
  cases r with
  | ok p => exact fun v Hk' H' ex w => h v Hk' H' (e.trans ex) w
  | exc c fs e' => exact fun cls dd Hk' H' ex w x => h cls dd Hk' H' (e.trans ex) w x
  | stuck => exact h
end
end SW

/-! operations over data -/
namespace SW
open PySem L2

theorem S_app (a b : List Nat) : S a ++ S b = S (a ++ b) := by
  show (⟨a.toArray ++ b.toArray⟩ : Str) = ⟨(a ++ b).toArray⟩
  simp
theorem S_len (a : List Nat) : (S a).length = a.length := by
  show a.toArray.size = a.length
  simp
theorem S_cps (a : List Nat) : (S a).cps.toList = a := by
  show a.toArray.toList = a
  simp
theorem okS_app {a b : List Nat} (ha : okS a = true) (hb : okS b = true) : okS (a ++ b) = true := by
  unfold okS at *
  rw [List.all_append, ha, hb]
  rfl
theorem okS_sub {a b : List Nat} (ha : okS a = true) (h : ∀ c ∈ b, c ∈ a) : okS b = true := by
  unfold okS at *
  rw [List.all_eq_true] at *
  exact fun c hc => ha c (h c hc)
def LIM : Nat := 1000000
theorem lim {n : Nat} (h : n ≤ LIM) : n ≤ sizeLine := Nat.le_trans h (by decide)
theorem lim_lt {n : Nat} (h : n ≤ LIM) : n < sizeLine := Nat.lt_of_le_of_lt h (by decide)

section
variable {k : Kn} {Hk Hk' H H' F : Hp} {σ : L2.St} {env : Env} {v : V} {o : O} {d : D}
/-! ### what is read -/
theorem RpN.int {i : Int} (h : RpN k Hk H v (.int i)) : v = .int i := by
  obtain ⟨o, l, r, e⟩ := h
  cases r with
  | val r => cases e; cases r; rfl
  | lst _ _ => cases e
  | dic _ _ => cases e
  | dicT _ _ => cases e
  | ins _ _ _ => cases e
  | st _ _ _ => cases e
  | scr _ => cases e
  | fn _ => cases e
theorem RpN.bl {b : Bool} (h : RpN k Hk H v (.bl b)) : v = .bl b := by
  obtain ⟨o, l, r, e⟩ := h
  cases r with
  | val r => cases e; cases r; rfl
  | lst _ _ => cases e
  | dic _ _ => cases e
  | dicT _ _ => cases e
  | ins _ _ _ => cases e
  | st _ _ _ => cases e
  | scr _ => cases e
  | fn _ => cases e
theorem RpN.non (h : RpN k Hk H v .non) : v = .non := by
  obtain ⟨o, l, r, e⟩ := h
  cases r with
  | val r => cases e; cases r; rfl
  | lst _ _ => cases e
  | dic _ _ => cases e
  | dicT _ _ => cases e
  | ins _ _ _ => cases e
  | st _ _ _ => cases e
  | scr _ => cases e
  | fn _ => cases e
theorem RpN.str {s : List Nat} (h : RpN k Hk H v (.str s)) : v = .str (S s) ∧ okS s = true := by
  obtain ⟨o, l, r, e⟩ := h
  cases r with
  | val r => cases e; cases r with | str s h => exact ⟨rfl, h⟩
  | lst _ _ => cases e
  | dic _ _ => cases e
  | dicT _ _ => cases e
  | ins _ _ _ => cases e
  | st _ _ _ => cases e
  | scr _ => cases e
  | fn _ => cases e
theorem RpN.lst {ds : List D} (ex : Ex Hk H) (h : RpN k Hk H v (.lst ds)) : ∃ a xs, v = .ref a ∧ H a = some (.lst xs) ∧ RpAll k Hk xs ds := by
  obtain ⟨o, l, r, e⟩ := h
  cases r with
  | val r =>
    cases e
    cases r with
    | lst h r => exact ⟨_, _, rfl, ex _ _ h, r⟩
  | lst h r =>
    cases e
    exact ⟨_, _, rfl, h, r⟩
  | dic _ _ => cases e
  | dicT _ _ => cases e
  | ins _ _ _ => cases e
  | st _ _ _ => cases e
  | scr _ => cases e
  | fn _ => cases e
theorem RpN.tup {ds : List D} (ex : Ex Hk H) (h : RpN k Hk H v (.tup ds)) : ∃ a xs, v = .ref a ∧ Hk a = some (.tup xs) ∧ RpAll k Hk xs ds := by
  obtain ⟨o, l, r, e⟩ := h
  cases r with
  | val r =>
    cases e
    cases r with
    | tup h r => exact ⟨_, _, rfl, h, r⟩
  | lst h r => cases e
  | dic _ _ => cases e
  | dicT _ _ => cases e
  | ins _ _ _ => cases e
  | st _ _ _ => cases e
  | scr _ => cases e
  | fn _ => cases e
theorem RpN.dic {t : Bool} {kvs : List (D × D)} (ex : Ex Hk H) (h : RpN k Hk H v (.dic t kvs)) : ∃ a, v = .ref a ∧ ((t = false ∧ ∃ ps, H a = some (.dK ps) ∧ RpKV k Hk ps kvs) ∨ t = true ∧ ∃ ps, H a = some (.dT ps) ∧ RpKT k Hk ps kvs) := by
  obtain ⟨o, l, r, e⟩ := h
  cases r with
  | val r =>
    cases e
    cases r with
    | dic h r => exact ⟨_, rfl, .inl ⟨rfl, _, ex _ _ h, r⟩⟩
    | dicT h r => exact ⟨_, rfl, .inr ⟨rfl, _, ex _ _ h, r⟩⟩
  | lst h r => cases e
  | dic h r =>
    cases e
    exact ⟨_, rfl, .inl ⟨rfl, _, h, r⟩⟩
  | dicT h r =>
    cases e
    exact ⟨_, rfl, .inr ⟨rfl, _, h, r⟩⟩
  | ins _ _ _ => cases e
  | st _ _ _ => cases e
  | scr _ => cases e
  | fn _ => cases e
theorem RpN.ins {c : Str} {fs : List (Str × D)} (ex : Ex Hk H) (h : RpN k Hk H v (.ins c fs)) : ∃ a C dx ps, v = .ref a ∧ k.G c = some C ∧ H a = some (.ins C dx ps) ∧ RpF k Hk ps fs := by
  obtain ⟨o, l, r, e⟩ := h
  cases r with
  | val r =>
    cases e
    cases r with
    | ins g h r => exact ⟨_, _, _, _, rfl, g, ex _ _ h, r⟩
  | lst h r => cases e
  | dic h r => cases e
  | dicT h r => cases e
  | ins g h r =>
    cases e
    exact ⟨_, _, _, _, rfl, g, h, r⟩
  | st _ _ _ => cases e
  | scr _ => cases e
  | fn _ => cases e

/-! ### what is made -/
theorem Wl.one (w : Wd k Hk F H (some v :: σ) (some o :: env)) : Wl k Hk F H σ env [v] [.ob o] := ⟨rfl, w, fun j i v h => by
  cases j with
  | zero => simp at h
  | succ j => simp at h⟩
theorem Wl.val (w : Wd k Hk F H σ env) (r : Rp k Hk v d) : Wl k Hk F H σ env [v] [.ob (.val d)] := Wl.one (w.pushV r)
theorem Wl.newL {p : Addr} {xs : List V} {ds : List D} (w : Wd k Hk F H σ env) (hp : H p = none) (r : RpAll k Hk xs ds) : Wl k Hk F (upd H p (.lst xs)) σ env [.ref p] [.ob (.lst ds)] :=
  Wl.one (w.push (Ex.new hp) (.lst upd_same r) (by simp) (fun a h => by simp at h; subst h; exact hp))
theorem Wl.newT {p : Addr} {xs : List V} {ds : List D} (w : Wd k Hk F H σ env) (hp : H p = none) (r : RpAll k Hk xs ds) : Ex Hk (upd Hk p (.tup xs)) ∧ Wl k (upd Hk p (.tup xs)) F (upd H p (.tup xs)) σ env [.ref p] [.ob (.val (.tup ds))] := by
  have e := Ex.new (o := .tup xs) (w.ex.free hp)
  exact ⟨e, Wl.val (w.growK hp) (.tup upd_same (r.mono e))⟩
end

/-- an operation of two values does to data what f tells -/
def OpS (k : Kn) (r : R2) (f : D → D → Option O) : Prop := ∀ {Hk F H : Hp} {σ : L2.St} {env : Env} {x y : V} {a b : D} {o : O} {Q : VK}, Wd k Hk F H σ env → RpN k Hk H x a → RpN k Hk H y b → f a b = some o →
  (∀ v Hk' H', Ex Hk Hk' → Wl k Hk' F H' σ env [v] [.ob o] → Q v H') → r x y H Q
theorem OpS.or {k : Kn} {r r' : R2} {f g : D → D → Option O} (h : OpS k r f) (h' : OpS k r' g) : OpS k (fun x y H Q => r x y H Q ∨ r' x y H Q) (fun a b => match f a b with | some o => some o | none => g a b) := by
  intro Hk F H σ env x y a b o Q w ra rb e q
  dsimp only at e
  split at e
  · rename_i u hu
    cases e
    exact .inl (h w ra rb hu q)
  · exact .inr (h' w ra rb e q)
def ofO (e : Env) : Option O → R (Vr × Env)
  | some o => .ok (.ob o, e)
  | none => .stuck
def ap2 (f : D → D → Option O) : Option D → Option D → Option O
  | some a, some b => f a b
  | _, _ => none
def mOp2 (f : D → D → Option O) (ma mb : ME) : ME := fun env => R.bind (ma env) fun p => R.bind (mb p.2) fun q => ofO q.2 (ap2 f (rd q.2 p.1) (rd q.2 q.1))
theorem ap2_some {f : D → D → Option O} {x y : Option D} {o : O} (h : ap2 f x y = some o) : ∃ a b, x = some a ∧ y = some b ∧ f a b = some o := by
  cases x with
  | none => cases h
  | some a =>
    cases y with
    | none => cases h
    | some b => exact ⟨a, b, rfl, rfl, h⟩
section
variable {k : Kn} {W : WX}
theorem tM_op2 {r : R2} {f : D → D → Option O} {ma mb : ME} (hs : OpS k r f) {σ : L2.St} {H : Hp} {Q : VK} (h : tM k W (mOp2 f ma mb) σ H Q) : tOp r (tM k W ma) (tM k W mb) σ H Q := by
  obtain ⟨Hk, F, env, w, h⟩ := h
  have b := h.bad
  refine seqE (Wl.nil w) b.exc b.ns fun x e1 v Hk1 H1 m1 ex1 w1 => ?_
  unfold mOp2 at h
  rw [m1] at h
  have h1 := WantE.mono h ex1
  have b := h1.bad
  refine seqE w1 b.exc b.ns fun y e2 v2 Hk2 H2 m2 ex2 w2 => ?_
  rw [R.bind_ok] at h1
  simp only at h1
  rw [m2] at h1
  have h2 := WantE.mono h1 ex2
  rw [R.bind_ok] at h2
  simp only at h2
  have w2 : Wl k Hk2 F H2 σ e2 [v, v2] [x, y] := w2
  cases e : ap2 f (rd e2 x) (rd e2 y) with
  | none =>
    rw [e] at h2
    exact h2.elim
  | some o =>
    rw [e] at h2
    obtain ⟨a, b, ea, eb, ef⟩ := ap2_some e
    exact hs w2.base (w2.rdN (j := 0) rfl rfl ea) (w2.rdN (j := 1) rfl rfl eb) ef h2
end

/-! ### arithmetic -/
def fAdd : D → D → Option O
  | .int i, .int j => some (.val (.int (i + j)))
  | .str a, .str b => if a.length + b.length ≤ LIM then some (.val (.str (a ++ b))) else none
  | .lst a, .lst b => if a.length + b.length ≤ LIM then some (.lst (a ++ b)) else none
  | .tup a, .tup b => if a.length + b.length ≤ LIM then some (.val (.tup (a ++ b))) else none
  | _, _ => none
def rAdd2 (K : PySem.W.Frag) : R2 := fun x y H Q => rI0 (fun i j => .int (i + j)) x y H Q ∨ (∃ i j, x = .str i ∧ y = .str j ∧ i.length + j.length ≤ sizeLine ∧ Q (.str (i ++ j)) H) ∨ rCat x y H Q ∨ rCatA K x y H Q
theorem op_add2 {X : Cx} : OpR X (binaryOp .Add) (rAdd2 X.K) := op_add.or (op_add_str.or (op_cat.or op_catA))
theorem s_add {k : Kn} : OpS k (rAdd2 k.K) fAdd := by
  intro Hk F H σ env x y a b o Q w ra rb e q
  unfold fAdd at e
  split at e
  · cases e
    cases ra.int
    cases rb.int
    exact .inl ⟨_, _, rfl, rfl, q _ Hk H (Ex.refl _) (Wl.val w (.int _))⟩
  · split at e
    · rename_i hl
      cases e
      obtain ⟨rfl, ka⟩ := ra.str
      obtain ⟨rfl, kb⟩ := rb.str
      refine .inr (.inl ⟨_, _, rfl, rfl, by rw [S_len, S_len]; exact lim hl, ?_⟩)
      rw [S_app]
      exact q _ Hk H (Ex.refl _) (Wl.val w (.str _ (okS_app ka kb)))
    · cases e
  · split at e
    · rename_i hl
      cases e
      obtain ⟨p, xs, rfl, h1, r1⟩ := ra.lst w.ex
      obtain ⟨p2, ys, rfl, h2, r2⟩ := rb.lst w.ex
      refine .inr (.inr (.inl ⟨p, p2, xs, ys, rfl, rfl, h1, h2, by rw [r1.len, r2.len]; exact lim hl, fun l hp => q _ Hk _ (Ex.refl _) (Wl.newL w hp (r1.append r2))⟩))
    · cases e
  · split at e
    · rename_i hl
      cases e
      obtain ⟨p, xs, rfl, h1, r1⟩ := ra.tup w.ex
      obtain ⟨p2, ys, rfl, h2, r2⟩ := rb.tup w.ex
      refine .inr (.inr (.inr ⟨p, p2, xs, ys, rfl, rfl, SqT.of (w.ex _ _ h1), SqT.of (w.ex _ _ h2), by rw [r1.len, r2.len]; exact lim hl, fun z => ?_, fun _ z => ?_, fun _ _ l hp => ?_⟩))
      · subst z
        cases r1
        exact q _ Hk H (Ex.refl _) (Wl.val w (.tup h2 r2))
      · subst z
        cases r2
        rw [List.append_nil] at q
        exact q _ Hk H (Ex.refl _) (Wl.val w (.tup h1 r1))
      · obtain ⟨e1, w1⟩ := Wl.newT w hp (r1.append r2)
        exact q _ _ _ e1 w1
    · cases e
  · cases e
end SW

/-! more operations over data -/
namespace SW
open PySem L2

/-! ### == over data -/
mutual
def eqD : D → D → Bool
  | .non, .non => true
  | .bl a, .bl b => a == b
  | .bl a, .int j => (if a then 1 else 0) == j
  | .int i, .bl b => i == (if b then 1 else 0)
  | .int i, .int j => i == j
  | .str x, .str y => x == y
  | .lst xs, .lst ys => eqDs xs ys
  | .tup xs, .tup ys => eqDs xs ys
  | _, _ => false
def eqDs : List D → List D → Bool
  | [], [] => true
  | x :: xs, y :: ys => eqD x y && eqDs xs ys
  | _, _ => false
end
mutual
/-- data of which == is told: no dict, no object of one's own, of at most so many layers -/
def plain : D → Nat → Bool
  | .non, _ => true
  | .bl _, _ => true
  | .int _, _ => true
  | .str _, _ => true
  | .lst xs, n => decide (0 < n) && plains xs (n - 1)
  | .tup xs, n => decide (0 < n) && plains xs (n - 1)
  | .dic _ _, _ => false
  | .ins _ _, _ => false
  | .xc _, _ => false
def plains : List D → Nat → Bool
  | [], _ => true
  | x :: xs, n => plain x n && plains xs n
end
mutual
def pd : D → PyData
  | .non => .none
  | .bl b => .bool b
  | .int i => .int i
  | .str s => .str (S s)
  | .lst xs => .list (pds xs)
  | .tup xs => .tuple (pds xs)
  | .dic _ _ => .none
  | .ins _ _ => .none
  | .xc _ => .none
def pds : List D → List PyData
  | [] => []
  | x :: xs => pd x :: pds xs
end
theorem S_beq (a b : List Nat) : (S a == S b) = (a == b) := by
  by_cases h : a = b
  · rw [h, beq_self_eq_true, beq_self_eq_true]
  · rw [beq_eq_false_iff_ne.mpr h, beq_eq_false_iff_ne.mpr fun e => h (S_inj e)]
mutual
theorem pd_eqv : ∀ (a b : D) (n m : Nat), plain a n = true → plain b m = true → PyData.eqv (pd a) (pd b) = eqD a b
  | .non, b, n, m, _, hb => by cases b <;> simp_all [pd, PyData.eqv, eqD, plain]
  | .bl a, b, n, m, _, hb => by cases b <;> simp_all [pd, PyData.eqv, eqD, plain]
  | .int i, b, n, m, _, hb => by cases b <;> simp_all [pd, PyData.eqv, eqD, plain]
  | .str s, b, n, m, _, hb => by cases b <;> simp_all [pd, PyData.eqv, eqD, S_beq, plain]
  | .lst xs, b, n, m, ha, hb => by
    cases b with
    | lst ys =>
      simp only [plain, Bool.and_eq_true] at ha hb
      exact pds_eqv xs ys _ _ ha.2 hb.2
    | _ => simp_all [pd, PyData.eqv, eqD, plain]
  | .tup xs, b, n, m, ha, hb => by
    cases b with
    | tup ys =>
      simp only [plain, Bool.and_eq_true] at ha hb
      exact pds_eqv xs ys _ _ ha.2 hb.2
    | _ => simp_all [pd, PyData.eqv, eqD, plain]
  | .dic _ _, b, n, m, ha, _ => by simp [plain] at ha
  | .ins _ _, b, n, m, ha, _ => by simp [plain] at ha
  | .xc _, b, n, m, ha, _ => by simp [plain] at ha
theorem pds_eqv : ∀ (a b : List D) (n m : Nat), plains a n = true → plains b m = true → PyData.eqvAll (pds a) (pds b) = eqDs a b
  | [], [], _, _, _, _ => rfl
  | [], _ :: _, _, _, _, _ => rfl
  | _ :: _, [], _, _, _, _ => rfl
  | x :: xs, y :: ys, n, m, ha, hb => by
    simp only [plains, Bool.and_eq_true] at ha hb
    simp only [pds, PyData.eqvAll, eqDs]
    rw [pd_eqv x y n m ha.1 hb.1, pds_eqv xs ys n m ha.2 hb.2]
end
theorem okS_strOk {s : List Nat} (h : okS s = true) : PyData.strOk (S s) = true := by
  unfold okS at h
  unfold PyData.strOk S
  rw [List.all_eq_true] at h
  rw [Array.all_eq_true]
  intro i hi
  have := h (s.toArray[i]) (by simp)
  simpa using this
mutual
theorem plain_dep : ∀ (a : D) (n : Nat), plain a n = true → (pd a).depth ≤ n
  | .non, n, _ => by simp [pd, PyData.depth]
  | .bl _, n, _ => by simp [pd, PyData.depth]
  | .int _, n, _ => by simp [pd, PyData.depth]
  | .str _, n, _ => by simp [pd, PyData.depth]
  | .lst xs, n, h => by
    simp only [plain, Bool.and_eq_true, decide_eq_true_eq] at h
    have := plains_dep xs _ h.2
    simp [pd, PyData.depth]
    omega
  | .tup xs, n, h => by
    simp only [plain, Bool.and_eq_true, decide_eq_true_eq] at h
    have := plains_dep xs _ h.2
    simp [pd, PyData.depth]
    omega
  | .dic _ _, n, h => by simp [pd, PyData.depth]
  | .ins _ _, n, h => by simp [pd, PyData.depth]
  | .xc _, n, h => by simp [pd, PyData.depth]
theorem plains_dep : ∀ (a : List D) (n : Nat), plains a n = true → PyData.depthAll (pds a) ≤ n
  | [], n, _ => by simp [pds, PyData.depthAll]
  | x :: xs, n, h => by
    simp only [plains, Bool.and_eq_true] at h
    have h1 := plain_dep x n h.1
    have h2 := plains_dep xs n h.2
    simp [pds, PyData.depthAll]
    omega
end
section
variable {k : Kn} {Hk H : Hp}
mutual
theorem Rp.dp : ∀ {v : V} {d : D} (n : Nat), Rp k H v d → plain d n = true → Dp k.K H v (pd d) ∧ (pd d).canLay0 = true
  | _, _, n, .non, _ => ⟨.non, rfl⟩
  | _, _, n, .bl b, _ => ⟨.bl b, rfl⟩
  | _, _, n, .int i, _ => ⟨.int i, rfl⟩
  | _, _, n, .str s h, _ => ⟨.str _, by simp [pd, PyData.canLay0]; exact okS_strOk h⟩
  | _, _, n, .lst h r, p => by
    simp only [plain, Bool.and_eq_true] at p
    obtain ⟨h1, h2⟩ := RpAll.dp _ r p.2
    exact ⟨.lst (.inl (.inl h)) h1, by simpa [pd, PyData.canLay0] using h2⟩
  | _, _, n, .tup h r, p => by
    simp only [plain, Bool.and_eq_true] at p
    obtain ⟨h1, h2⟩ := RpAll.dp _ r p.2
    exact ⟨.tup (SqT.of h) h1, by simpa [pd, PyData.canLay0] using h2⟩
  | _, _, n, .dic h r, p => by simp [plain] at p
  | _, _, n, .dicT h r, p => by simp [plain] at p
  | _, _, n, .ins g h r, p => by simp [plain] at p
theorem RpAll.dp : ∀ {v : List V} {d : List D} (n : Nat), RpAll k H v d → plains d n = true → DpAll k.K H v (pds d) ∧ PyData.canLayAll0 (pds d) = true
  | _, _, n, .nil, _ => ⟨.nil, rfl⟩
  | _, _, n, .cons h r, p => by
    simp only [plains, Bool.and_eq_true] at p
    obtain ⟨h1, h2⟩ := Rp.dp n h p.1
    obtain ⟨h3, h4⟩ := RpAll.dp n r p.2
    exact ⟨.cons h1 h3, by simp [pds, PyData.canLayAll0, h2, h4]⟩
end
theorem RpN.now {v : V} {d : D} (ex : Ex Hk H) (h : RpN k Hk H v d) : Rp k H v d := by
  obtain ⟨o, l, r, e⟩ := h
  cases r with
  | val r => cases e; exact r.mono ex
  | lst h r => cases e; exact .lst h (r.mono ex)
  | dic h r => cases e; exact .dic h (r.mono ex)
  | dicT h r => cases e; exact .dicT h (r.mono ex)
  | ins g h r => cases e; exact .ins g h (r.mono ex)
  | st _ _ _ => cases e
  | scr _ => cases e
  | fn _ => cases e
end
def fEq (a b : D) : Option O := if (plain a 64 && plain b 64) = true then some (.val (.bl (eqD a b))) else none
def fNe (a b : D) : Option O := if (plain a 64 && plain b 64) = true then some (.val (.bl (!eqD a b))) else none
theorem s_eq {k : Kn} : OpS k (rEqD k.K) fEq := by
  intro Hk F H σ env x y a b o Q w ra rb e q
  unfold fEq at e
  split at e
  · rename_i hp
    cases e
    simp only [Bool.and_eq_true] at hp
    obtain ⟨h1, h2⟩ := (ra.now w.ex).dp 64 hp.1
    obtain ⟨h3, h4⟩ := (rb.now w.ex).dp 64 hp.2
    refine ⟨_, _, h1, h3, ?_, ?_, ?_⟩
    · simp [SeqAt.shaped, h2, plain_dep a 64 hp.1]
    · simp [SeqAt.shaped, h4, plain_dep b 64 hp.2]
    · rw [pd_eqv a b 64 64 hp.1 hp.2]
      exact q _ Hk H (Ex.refl _) (Wl.val w (.bl _))
  · cases e
theorem s_ne {k : Kn} : OpS k (rNeD k.K) fNe := by
  intro Hk F H σ env x y a b o Q w ra rb e q
  unfold fNe at e
  split at e
  · rename_i hp
    cases e
    simp only [Bool.and_eq_true] at hp
    obtain ⟨h1, h2⟩ := (ra.now w.ex).dp 64 hp.1
    obtain ⟨h3, h4⟩ := (rb.now w.ex).dp 64 hp.2
    refine ⟨_, _, h1, h3, ?_, ?_, ?_⟩
    · simp [SeqAt.shaped, h2, plain_dep a 64 hp.1]
    · simp [SeqAt.shaped, h4, plain_dep b 64 hp.2]
    · rw [pd_eqv a b 64 64 hp.1 hp.2]
      exact q _ Hk H (Ex.refl _) (Wl.val w (.bl _))
  · cases e
end SW

/-! more operations over data: numbers, order, in, places, cuts -/
namespace SW
open PySem L2

def fSub : D → D → Option O
  | .int i, .int j => some (.val (.int (i - j)))
  | _, _ => none
theorem s_sub {k : Kn} : OpS k (rI0 fun i j => .int (i - j)) fSub := by
  intro Hk F H σ env x y a b o Q w ra rb e q
  unfold fSub at e
  split at e
  · cases e
    cases ra.int
    cases rb.int
    exact ⟨_, _, rfl, rfl, q _ Hk H (Ex.refl _) (Wl.val w (.int _))⟩
  · cases e
def small64 (i : Int) : Bool := decide (-(2 ^ 64) < i) && decide (i < 2 ^ 64)
/-- a text so often -/
def reps {α : Type} (n : Nat) (a : List α) : List α := (List.replicate n a).flatten
theorem reps_len {α : Type} (n : Nat) (a : List α) : (reps n a).length = a.length * n := by
  unfold reps
  rw [List.length_flatten, List.map_replicate, List.sum_replicate_nat]
  exact Nat.mul_comm _ _
theorem reps_all {k : Kn} {H : Hp} {xs : List V} {ds : List D} (r : RpAll k H xs ds) : ∀ n, RpAll k H (reps n xs) (reps n ds)
  | 0 => .nil
  | n + 1 => by
    show RpAll k H ((List.replicate (n + 1) xs).flatten) ((List.replicate (n + 1) ds).flatten)
    rw [List.replicate_succ, List.replicate_succ, List.flatten_cons, List.flatten_cons]
    exact r.append (reps_all r n)
def fMul : D → D → Option O
  | .int i, .int j => if (small64 i || small64 j) = true then some (.val (.int (i * j))) else none
  | .lst xs, .int j => if xs.length * j.toNat ≤ LIM ∧ -1000000 ≤ j ∧ j ≤ 1000000 then some (.lst (reps j.toNat xs)) else none
  | .str s, .int j => if s.length * j.toNat ≤ LIM ∧ -1000000 ≤ j ∧ j ≤ 1000000 then some (.val (.str (reps j.toNat s))) else none
  | _, _ => none
def rMulS : R2 := fun x y H Q => ∃ (z : Str) (j : Int), x = .str z ∧ y = .int j ∧ MulOk z j ∧ Q (.str (Txt.mul z j)) H
theorem op_mulS {X : Cx} : OpR X (binaryOp .Mult) rMulS := by
  intro pins s σ H x y v u Q I rx ry h
  obtain ⟨z, j, rfl, rfl, ok, q⟩ := h
  obtain ⟨t, rfl⟩ := rx
  obtain ⟨t', rfl⟩ := ry
  exact SB.mul ok fun t' n => ⟨.str _, H, I.tok _, ⟨_, rfl⟩, q⟩
theorem foldl_app {α : Type} : ∀ (n : Nat) (a : Array α) (acc : Array α), ((List.replicate n a).foldl (· ++ ·) acc).toList = acc.toList ++ reps n a.toList
  | 0, a, acc => by simp [reps]
  | n + 1, a, acc => by
    rw [List.replicate_succ, List.foldl_cons, foldl_app n a]
    simp [reps, List.replicate_succ]
theorem mul_S {s : List Nat} {j : Int} : Txt.mul (S s) j = S (reps j.toNat s) := by
  unfold Txt.mul
  by_cases h : j < 1
  · rw [if_pos h]
    have : j.toNat = 0 := by omega
    rw [this]
    rfl
  · rw [if_neg h]
    split
    · rename_i q
      rw [Bool.or_eq_true] at q
      rcases q with q | q
      · have : j = 1 := by simpa using q
        subst this
        simp [reps]
      · rw [S_len] at q
        have : s = [] := by
          have : s.length = 0 := by simpa using q
          exact List.eq_nil_of_length_eq_zero this
        subst this
        have e : reps j.toNat ([] : List Nat) = [] := by
          apply List.eq_nil_of_length_eq_zero
          rw [reps_len]
          simp
        rw [e]
    · have := foldl_app j.toNat (S s).cps #[]
      rw [S_cps] at this
      have e : ((List.replicate j.toNat (S s).cps).foldl (· ++ ·) #[]) = (reps j.toNat s).toArray := by
        rw [← Array.toList_inj]
        simpa using this
      unfold S at e ⊢
      rw [e]
theorem mulOk {s : List Nat} {j : Int} (h : s.length * j.toNat ≤ LIM ∧ -1000000 ≤ j ∧ j ≤ 1000000) : MulOk (S s) j := by
  obtain ⟨h1, h2, h3⟩ := h
  have hL : LIM = 1000000 := rfl
  refine ⟨?_, fun a b => ?_, fun a b => ?_⟩
  · simp
    omega
  · rw [S_len]
    have e : ((s.length : Nat) : Int) * j ≤ 1000000 := by
      have e2 : ((s.length * j.toNat : Nat) : Int) ≤ 1000000 := by omega
      rw [Int.natCast_mul, Int.toNat_of_nonneg (by omega)] at e2
      exact e2
    have : ((s.length : Nat) : Int) ≤ (2 ^ 63 - 1) / j := (Int.le_ediv_iff_mul_le (by omega)).mpr (by omega)
    omega
  · rw [S_len]
    unfold Builtin.Str.tooLong
    have : sizeLine = 16777216 := by decide
    simp
    omega
theorem op_mul2 {X : Cx} : OpR X (binaryOp .Mult) (fun x y H Q => rI CMul (fun i j => .int (i * j)) x y H Q ∨ rRep x y H Q ∨ rMulS x y H Q) := op_mul.or (op_rep.or op_mulS)
theorem okS_reps {s : List Nat} (h : okS s = true) (n : Nat) : okS (reps n s) = true := okS_sub h fun c hc => by
  unfold reps at hc
  obtain ⟨l, hl, hc⟩ := List.mem_flatten.mp hc
  rw [List.eq_of_mem_replicate hl] at hc
  exact hc
theorem s_mul {k : Kn} : OpS k (fun x y H Q => rI CMul (fun i j => .int (i * j)) x y H Q ∨ rRep x y H Q ∨ rMulS x y H Q) fMul := by
  intro Hk F H σ env x y a b o Q w ra rb e q
  unfold fMul at e
  split at e
  · split at e
    · rename_i h
      cases e
      cases ra.int
      cases rb.int
      refine .inl ⟨_, _, rfl, rfl, ?_, q _ Hk H (Ex.refl _) (Wl.val w (.int _))⟩
      simpa [small64, CMul, Bool.or_eq_true, Bool.and_eq_true] using h
    · cases e
  · split at e
    · rename_i h
      cases e
      obtain ⟨p, xs, rfl, h1, r1⟩ := ra.lst w.ex
      cases rb.int
      refine .inr (.inl ⟨p, _, xs, rfl, rfl, h1, by omega, by omega, by rw [r1.len]; exact lim h.1, fun l hp => q _ Hk _ (Ex.refl _) (Wl.newL w hp (reps_all r1 _))⟩)
    · cases e
  · split at e
    · rename_i h
      cases e
      obtain ⟨rfl, ka⟩ := ra.str
      cases rb.int
      refine .inr (.inr ⟨_, _, rfl, rfl, mulOk h, ?_⟩)
      rw [mul_S]
      exact q _ Hk H (Ex.refl _) (Wl.val w (.str _ (okS_reps ka _)))
    · cases e
  · cases e
def fDiv : D → D → Option O
  | .int i, .int j => if 0 < j ∧ j < 1073741824 then some (.val (.int (i / j))) else none
  | _, _ => none
theorem s_div {k : Kn} : OpS k (rI CDiv fun i j => .int (i / j)) fDiv := by
  intro Hk F H σ env x y a b o Q w ra rb e q
  unfold fDiv at e
  split at e
  · split at e
    · rename_i h
      cases e
      cases ra.int
      cases rb.int
      exact ⟨_, _, rfl, rfl, h, q _ Hk H (Ex.refl _) (Wl.val w (.int _))⟩
    · cases e
  · cases e
def fMod : D → D → Option O
  | .int i, .int j => if 0 < j then some (.val (.int (i % j))) else none
  | _, _ => none
theorem s_mod {k : Kn} : OpS k (rI (fun _ j => 0 < j) fun i j => .int (i % j)) fMod := by
  intro Hk F H σ env x y a b o Q w ra rb e q
  unfold fMod at e
  split at e
  · split at e
    · rename_i h
      cases e
      cases ra.int
      cases rb.int
      exact ⟨_, _, rfl, rfl, h, q _ Hk H (Ex.refl _) (Wl.val w (.int _))⟩
    · cases e
  · cases e
def fPow : D → D → Option O
  | .int i, .int j => if 0 ≤ j ∧ j ≤ 1000000 ∧ i.natAbs < 2 ^ 64 then some (.val (.int (i ^ j.toNat))) else none
  | _, _ => none
theorem s_pow {k : Kn} : OpS k (rI CPow fun i j => .int (i ^ j.toNat)) fPow := by
  intro Hk F H σ env x y a b o Q w ra rb e q
  unfold fPow at e
  split at e
  · split at e
    · rename_i h
      cases e
      cases ra.int
      cases rb.int
      exact ⟨_, _, rfl, rfl, h, q _ Hk H (Ex.refl _) (Wl.val w (.int _))⟩
    · cases e
  · cases e

/-! ### order: numbers, texts -/
def fLt : D → D → Option O
  | .int i, .int j => some (.val (.bl (decide (i < j))))
  | .str a, .str b => some (.val (.bl (decide (a < b))))
  | _, _ => none
def fLe : D → D → Option O
  | .int i, .int j => some (.val (.bl (decide (i ≤ j))))
  | .str a, .str b => some (.val (.bl (!decide (b < a))))
  | _, _ => none
def fGt : D → D → Option O
  | .int i, .int j => some (.val (.bl (decide (j < i))))
  | .str a, .str b => some (.val (.bl (decide (b < a))))
  | _, _ => none
def fGe : D → D → Option O
  | .int i, .int j => some (.val (.bl (decide (j ≤ i))))
  | .str a, .str b => some (.val (.bl (!decide (a < b))))
  | _, _ => none
def rOrd (g : Int → Int → Bool) (h : List Nat → List Nat → Bool) : R2 := fun x y H Q => rI0 (fun i j => .bl (g i j)) x y H Q ∨ ∃ i j : Str, x = .str i ∧ y = .str j ∧ Q (.bl (h i.cps.toList j.cps.toList)) H
theorem op_lt2 {X : Cx} : OpR X (compareOp .Lt) (rOrd (fun i j => decide (i < j)) fun a b => decide (a < b)) := op_lt.or op_lt_str
theorem op_le2 {X : Cx} : OpR X (compareOp .LtE) (rOrd (fun i j => decide (i ≤ j)) fun a b => !decide (b < a)) := op_le.or op_le_str
theorem op_gt2 {X : Cx} : OpR X (compareOp .Gt) (rOrd (fun i j => decide (j < i)) fun a b => decide (b < a)) := op_gt.or op_gt_str
theorem op_ge2 {X : Cx} : OpR X (compareOp .GtE) (rOrd (fun i j => decide (j ≤ i)) fun a b => !decide (a < b)) := op_ge.or op_ge_str
theorem s_ord {k : Kn} {g : Int → Int → Bool} {h : List Nat → List Nat → Bool} {f : D → D → Option O} (hf : ∀ a b o, f a b = some o → (∃ i j, a = .int i ∧ b = .int j ∧ o = .val (.bl (g i j))) ∨ ∃ s t, a = .str s ∧ b = .str t ∧ o = .val (.bl (h s t))) : OpS k (rOrd g h) f := by
  intro Hk F H σ env x y a b o Q w ra rb e q
  rcases hf a b o e with ⟨i, j, rfl, rfl, rfl⟩ | ⟨s, t, rfl, rfl, rfl⟩
  · cases ra.int
    cases rb.int
    exact .inl ⟨_, _, rfl, rfl, q _ Hk H (Ex.refl _) (Wl.val w (.bl _))⟩
  · obtain ⟨rfl, ka⟩ := ra.str
    obtain ⟨rfl, kb⟩ := rb.str
    refine .inr ⟨_, _, rfl, rfl, ?_⟩
    rw [S_cps, S_cps]
    exact q _ Hk H (Ex.refl _) (Wl.val w (.bl _))
theorem s_lt {k : Kn} : OpS k (rOrd (fun i j => decide (i < j)) fun a b => decide (a < b)) fLt := s_ord fun a b o e => by
  unfold fLt at e
  split at e <;> cases e
  · exact .inl ⟨_, _, rfl, rfl, rfl⟩
  · exact .inr ⟨_, _, rfl, rfl, rfl⟩
theorem s_le {k : Kn} : OpS k (rOrd (fun i j => decide (i ≤ j)) fun a b => !decide (b < a)) fLe := s_ord fun a b o e => by
  unfold fLe at e
  split at e <;> cases e
  · exact .inl ⟨_, _, rfl, rfl, rfl⟩
  · exact .inr ⟨_, _, rfl, rfl, rfl⟩
theorem s_gt {k : Kn} : OpS k (rOrd (fun i j => decide (j < i)) fun a b => decide (b < a)) fGt := s_ord fun a b o e => by
  unfold fGt at e
  split at e <;> cases e
  · exact .inl ⟨_, _, rfl, rfl, rfl⟩
  · exact .inr ⟨_, _, rfl, rfl, rfl⟩
theorem s_ge {k : Kn} : OpS k (rOrd (fun i j => decide (j ≤ i)) fun a b => !decide (a < b)) fGe := s_ord fun a b o e => by
  unfold fGe at e
  split at e <;> cases e
  · exact .inl ⟨_, _, rfl, rfl, rfl⟩
  · exact .inr ⟨_, _, rfl, rfl, rfl⟩

/-! ### is None -/
def isN : D → Bool
  | .non => true
  | _ => false
theorem rp_non {k : Kn} {Hk H : Hp} {v : V} {d : D} (h : RpN k Hk H v d) : decide (v = .non) = isN d := by
  cases d with
  | non => rw [h.non]; rfl
  | _ =>
    obtain ⟨o, l, r, e⟩ := h
    cases r with
    | val r => cases e; cases r <;> rfl
    | st _ _ _ => cases e
    | scr _ => cases e
    | fn _ => cases e
    | _ => cases e <;> rfl
def fIsN (a b : D) : Option O := if isN b = true then some (.val (.bl (isN a))) else none
def fNotN (a b : D) : Option O := if isN b = true then some (.val (.bl (!isN a))) else none
theorem isN_eq {d : D} (h : isN d = true) : d = .non := by
  cases d <;> first | rfl | cases h
theorem s_isN {k : Kn} : OpS k (fun x y H Q => y = .non ∧ Q (.bl (decide (x = .non))) H) fIsN := by
  intro Hk F H σ env x y a b o Q w ra rb e q
  unfold fIsN at e
  split at e
  · rename_i h
    cases e
    cases isN_eq h
    refine ⟨rb.non, ?_⟩
    rw [rp_non ra]
    exact q _ Hk H (Ex.refl _) (Wl.val w (.bl _))
  · cases e
theorem s_notN {k : Kn} : OpS k (fun x y H Q => y = .non ∧ Q (.bl (!decide (x = .non))) H) fNotN := by
  intro Hk F H σ env x y a b o Q w ra rb e q
  unfold fNotN at e
  split at e
  · rename_i h
    cases e
    cases isN_eq h
    refine ⟨rb.non, ?_⟩
    rw [rp_non ra]
    exact q _ Hk H (Ex.refl _) (Wl.val w (.bl _))
  · cases e
end SW

/-! in, places, cuts -/
namespace SW
open PySem L2 PyProof.Rows

/-! ### keys -/
def isKey : D → Bool
  | .int _ => true
  | .str _ => true
  | _ => false
def isKeyT : D → Bool
  | .tup ds => ds.all isKey
  | _ => false
def keyOk (t : Bool) (d : D) : Bool := if t then isKeyT d else isKey d
def getK (kvs : List (D × D)) (d : D) : Option D := (kvs.find? fun p => eqD p.1 d).map (·.2)
section
variable {k : Kn} {Hk H F : Hp} {σ : L2.St} {env : Env}
theorem RpN.key {v : V} {d : D} (h : RpN k Hk H v d) (e : isKey d = true) : ∃ y, v = kV y ∧ keyD y = d := by
  cases d with
  | int i => exact ⟨.inl i, h.int, rfl⟩
  | str s => exact ⟨.inr (S s), h.str.1, by show D.str (S s).cps.toList = _; rw [S_cps]⟩
  | _ => cases e
theorem Rp.key {v : V} {d : D} (h : Rp k H v d) (e : isKey d = true) : ∃ y, v = kV y ∧ keyD y = d := RpN.key (H := H) (RpN.of h) e
theorem RpAll.keys : ∀ {vs : List V} {ds : List D}, RpAll k H vs ds → ds.all isKey = true → ∃ ys : List Key, vs = ys.map kV ∧ ys.map keyD = ds
  | _, _, .nil, _ => ⟨[], rfl, rfl⟩
  | _, _, .cons h r, e => by
    rw [List.all_cons, Bool.and_eq_true] at e
    obtain ⟨y, h1, h2⟩ := h.key e.1
    obtain ⟨ys, h3, h4⟩ := RpAll.keys r e.2
    exact ⟨y :: ys, by rw [List.map_cons, h1, h3], by rw [List.map_cons, h2, h4]⟩
theorem eqD_key (y z : Key) : eqD (keyD y) (keyD z) = decide (y = z) := by
  cases y with
  | inl i =>
    cases z with
    | inl j =>
      rw [Bool.eq_iff_iff]
      simp [keyD, eqD]
    | inr t => simp [keyD, eqD]
  | inr s =>
    cases z with
    | inl j => simp [keyD, eqD]
    | inr t =>
      simp only [keyD, eqD]
      by_cases h : s = t
      · subst h
        simp
      · have : s.cps.toList ≠ t.cps.toList := fun e => h (by
          have := congrArg S e
          rwa [S_toList, S_toList] at this)
        rw [decide_eq_false (fun e => h (Sum.inr.inj e))]
        exact beq_eq_false_iff_ne.mpr this
theorem eqDs_keys : ∀ (y z : List Key), eqDs (y.map keyD) (z.map keyD) = decide (y = z)
  | [], [] => by simp [eqDs]
  | [], _ :: _ => by simp [eqDs]
  | _ :: _, [] => by simp [eqDs]
  | y :: ys, z :: zs => by
    simp only [List.map_cons, eqDs, eqD_key, eqDs_keys ys zs, List.cons.injEq]
    rw [Bool.eq_iff_iff]
    simp
theorem RpKV.get (y : Key) : ∀ {ps : List (Key × V)} {kvs : List (D × D)}, RpKV k H ps kvs → (valV ps y = none ∧ getK kvs (keyD y) = none) ∨ ∃ v d, valV ps y = some v ∧ getK kvs (keyD y) = some d ∧ Rp k H v d
  | _, _, .nil => .inl ⟨rfl, rfl⟩
  | _, _, .cons (y := z) (v := v) (d := d) _ h r => by
    by_cases e : z = y
    · refine .inr ⟨v, d, ?_, ?_, h⟩
      · simp [valV, e]
      · simp [getK, e, eqD_key]
    · have h1 : ∀ vs, valV ((z, v) :: vs) y = valV vs y := fun vs => by simp [valV, e]
      have h2 : ∀ vs, getK ((keyD z, d) :: vs) (keyD y) = getK vs (keyD y) := fun vs => by
        simp [getK, eqD_key, e]
      rw [h1, h2]
      exact RpKV.get y r
theorem RpKT.get (y : List Key) : ∀ {ps : List (List Key × V)} {kvs : List (D × D)}, RpKT k H ps kvs → (valV ps y = none ∧ getK kvs (.tup (y.map keyD)) = none) ∨ ∃ v d, valV ps y = some v ∧ getK kvs (.tup (y.map keyD)) = some d ∧ Rp k H v d
  | _, _, .nil => .inl ⟨rfl, rfl⟩
  | _, _, .cons (y := z) (v := v) (d := d) _ h r => by
    by_cases e : z = y
    · refine .inr ⟨v, d, ?_, ?_, h⟩
      · simp [valV, e]
      · simp [getK, e, eqD, eqDs_keys]
    · have h1 : ∀ vs, valV ((z, v) :: vs) y = valV vs y := fun vs => by simp [valV, e]
      have h2 : ∀ vs, getK ((.tup (z.map keyD), d) :: vs) (.tup (y.map keyD)) = getK vs (.tup (y.map keyD)) := fun vs => by
        simp [getK, eqD, eqDs_keys, e]
      rw [h1, h2]
      exact RpKT.get y r
/-- what a dict tells of a key -/
theorem dgetN {t : Bool} {kvs : List (D × D)} {x y : V} {d : D} (w : Wd k Hk F H σ env) (hx : RpN k Hk H x (.dic t kvs)) (hy : RpN k Hk H y d) (e : keyOk t d = true) :
    ∃ a, x = .ref a ∧ ((getK kvs d = none ∧ DGet H a y none) ∨ ∃ v c, getK kvs d = some c ∧ DGet H a y (some v) ∧ Rp k Hk v c) := by
  obtain ⟨a, rfl, ⟨rfl, ps, h, r⟩ | ⟨rfl, ps, h, r⟩⟩ := hx.dic w.ex
  · obtain ⟨z, rfl, rfl⟩ := hy.key e
    refine ⟨a, rfl, ?_⟩
    rcases r.get z with ⟨h1, h2⟩ | ⟨v, c, h1, h2, h3⟩
    · refine .inl ⟨h2, ?_⟩
      rw [← h1]
      exact DGet.k h
    · refine .inr ⟨v, c, h2, ?_, h3⟩
      rw [← h1]
      exact DGet.k h
  · cases d with
    | tup ds =>
      obtain ⟨b, xs, rfl, hb, rb⟩ := hy.tup w.ex
      obtain ⟨ys, rfl, rfl⟩ := rb.keys e
      refine ⟨a, rfl, ?_⟩
      rcases r.get ys with ⟨h1, h2⟩ | ⟨v, c, h1, h2, h3⟩
      · refine .inl ⟨h2, ?_⟩
        rw [← h1]
        exact DGet.t h (w.ex _ _ hb)
      · refine .inr ⟨v, c, h2, ?_, h3⟩
        rw [← h1]
        exact DGet.t h (w.ex _ _ hb)
    | _ => cases e
end

/-! ### in -/
def flat : D → Bool
  | .non => true
  | .bl _ => true
  | .int _ => true
  | .str _ => true
  | _ => false
def fIn (neg : Bool) : D → D → Option O
  | .str [c], .str s => some (.val (.bl (if neg then !decide (c ∈ s) else decide (c ∈ s))))
  | a, .lst ds => if (flat a && ds.all flat) = true then some (.val (.bl (if neg then !ds.any (eqD · a) else ds.any (eqD · a)))) else none
  | a, .tup ds => if (flat a && ds.all flat) = true then some (.val (.bl (if neg then !ds.any (eqD · a) else ds.any (eqD · a)))) else none
  | a, .dic t kvs => if keyOk t a = true then some (.val (.bl (if neg then !(getK kvs a).isSome else (getK kvs a).isSome))) else none
  | _, _ => none
def rDin (neg : Bool) : R2 := fun y x H Q => ∃ a o, x = .ref a ∧ DGet H a y o ∧ Q (.bl (if neg then !o.isSome else o.isSome)) H
theorem op_din {X : Cx} (hu : X.A.units + 1 < cLine) : OpR X (compareOp .In) (rDin false) := by
  intro pins s σ H x y v u Q I rx ry h
  obtain ⟨a, o, rfl, g, q⟩ := h
  obtain rfl : u = Value.ref a := ry
  exact d_in hu I g rx fun s3 I3 => ⟨.bl o.isSome, H, I3, rfl, q⟩
theorem op_dnotin {X : Cx} (hu : X.A.units + 1 < cLine) : OpR X (compareOp .NotIn) (rDin true) := by
  intro pins s σ H x y v u Q I rx ry h
  obtain ⟨a, o, rfl, g, q⟩ := h
  obtain rfl : u = Value.ref a := ry
  exact d_notIn hu I g rx fun s3 I3 => ⟨.bl (!o.isSome), H, I3, rfl, q⟩
def rSign (neg : Bool) : R2 := fun x y H Q => ∃ (c : Nat) (z : Str), x = .str ⟨#[c]⟩ ∧ y = .str z ∧ Q (.bl (if neg then !decide (c ∈ z.cps.toList) else decide (c ∈ z.cps.toList))) H
def rIn2 (K : PySem.W.Frag) (neg : Bool) : R2 := fun x y H Q => rSign neg x y H Q ∨ rIn K neg x y H Q ∨ rDin neg x y H Q
theorem op_in2 {X : Cx} (hu : X.A.units + 1 < cLine) : OpR X (compareOp .In) (rIn2 X.K false) := OpR.or (r := rSign false) op_in_sign (op_in_seq.or (op_din hu))
theorem op_notin2 {X : Cx} (hu : X.A.units + 1 < cLine) : OpR X (compareOp .NotIn) (rIn2 X.K true) := OpR.or (r := rSign true) op_notIn_sign (op_notIn_seq.or (op_dnotin hu))
theorem flat_V {k : Kn} {H : Hp} {v : V} {d : D} (h : Rp k H v d) (e : flat d = true) : flatV v = true := by
  cases h <;> first | rfl | cases e
theorem eqV_D {k : Kn} {H : Hp} {v w : V} {a b : D} (h : Rp k H v a) (g : Rp k H w b) (ea : flat a = true) (eb : flat b = true) : eqV v w = eqD a b := by
  cases h <;> first | cases ea | skip
  all_goals cases g <;> first | cases eb | skip
  all_goals first | rfl | (simp only [eqV, eqD]; done) | skip
  exact S_beq _ _
theorem flat_all {k : Kn} {H : Hp} : ∀ {vs : List V} {ds : List D}, RpAll k H vs ds → ds.all flat = true → vs.all flatV = true
  | _, _, .nil, _ => rfl
  | _, _, .cons h r, e => by
    rw [List.all_cons, Bool.and_eq_true] at e ⊢
    exact ⟨flat_V h e.1, flat_all r e.2⟩
theorem inV_D {k : Kn} {H : Hp} {v : V} {a : D} (h : Rp k H v a) (ea : flat a = true) : ∀ {vs : List V} {ds : List D}, RpAll k H vs ds → ds.all flat = true → inV v vs = ds.any (eqD · a)
  | _, _, .nil, _ => rfl
  | _, _, .cons g r, e => by
    rw [List.all_cons, Bool.and_eq_true] at e
    have ih := inV_D h ea r e.2
    unfold inV at ih ⊢
    rw [List.any_cons, List.any_cons, ih, eqV_D g h e.1 ea]
theorem s_in {k : Kn} {neg : Bool} : OpS k (rIn2 k.K neg) (fIn neg) := by
  intro Hk F H σ env x y a b o Q w ra rb e q
  unfold fIn at e
  split at e
  · cases e
    obtain ⟨rfl, ka⟩ := ra.str
    obtain ⟨rfl, kb⟩ := rb.str
    refine .inl ⟨_, _, rfl, rfl, ?_⟩
    rw [S_cps]
    exact q _ Hk H (Ex.refl _) (Wl.val w (.bl _))
  · split at e
    · rename_i ds hf
      cases e
      rw [Bool.and_eq_true] at hf
      obtain ⟨p, xs, rfl, h1, r1⟩ := rb.lst w.ex
      have rx := ra.now w.ex
      have r1' := r1.mono w.ex
      refine .inr (.inl ⟨p, xs, rfl, .inl (SqL.of h1), flat_V rx hf.1, flat_all r1 hf.2, ?_⟩)
      rw [inV_D rx hf.1 r1' hf.2]
      exact q _ Hk H (Ex.refl _) (Wl.val w (.bl _))
    · cases e
  · split at e
    · rename_i ds hf
      cases e
      rw [Bool.and_eq_true] at hf
      obtain ⟨p, xs, rfl, h1, r1⟩ := rb.tup w.ex
      have rx := ra.now w.ex
      have r1' := r1.mono w.ex
      refine .inr (.inl ⟨p, xs, rfl, .inr (SqT.of (w.ex _ _ h1)), flat_V rx hf.1, flat_all r1 hf.2, ?_⟩)
      rw [inV_D rx hf.1 r1' hf.2]
      exact q _ Hk H (Ex.refl _) (Wl.val w (.bl _))
    · cases e
  · split at e
    · rename_i hf
      cases e
      obtain ⟨p, rfl, ⟨g1, g2⟩ | ⟨v, c, g1, g2, g3⟩⟩ := dgetN w rb ra hf
      · refine .inr (.inr ⟨p, _, rfl, g2, ?_⟩)
        rw [g1] at q
        exact q _ Hk H (Ex.refl _) (Wl.val w (.bl _))
      · refine .inr (.inr ⟨p, _, rfl, g2, ?_⟩)
        rw [g1] at q
        exact q _ Hk H (Ex.refl _) (Wl.val w (.bl _))
    · cases e
  · cases e

/-! ### a[b] -/
def fIx : D → D → Option O
  | .lst ds, .int i => (atI ds i).map .val
  | .tup ds, .int i => (atI ds i).map .val
  | .str s, .int i => if s.length ≤ LIM then (atI s i).map fun c => .val (.str [c]) else none
  | .dic t kvs, d => if keyOk t d = true then (getK kvs d).map .val else none
  | _, _ => none
theorem ixN_len {n m : Nat} (h : n = m) (i : Int) : ixN n i = ixN m i := by rw [h]
theorem RpAll.at {k : Kn} {H : Hp} {vs : List V} {ds : List D} {i : Int} {d : D} (r : RpAll k H vs ds) (h : atI ds i = some d) : ∃ v, atI vs i = some v ∧ Rp k H v d := by
  unfold atI at h ⊢
  rw [ixN_len r.len]
  cases e : ixN ds.length i with
  | none => rw [e] at h; cases h
  | some j =>
    rw [e] at h
    exact r.get h
def rDix : R2 := fun x y H Q => ∃ a v, x = .ref a ∧ DGet H a y (some v) ∧ Q v H
theorem ix_dict {X : Cx} (hu : X.A.units + 1 < cLine) : IxR X rDix := by
  intro value slice pins s σ H x y v u Q I rx ry h hs
  obtain ⟨a, z, rfl, g, q⟩ := h
  obtain rfl : v = Value.ref a := rx
  have hT := dict_typeIs I g
  unfold subscriptTail
  refine wpAny_bind ?_
  rw [getitemInPython_of_ne hT.not_modules]
  refine wpAny_bind (wpAny_specialOf hT PySem.F.slot_dict_getitem.lookup ?_)
  have fin : wpAny (model X.prog X.w) X.A (subscripted slice false (.ref a) u) (fun r s₃ => wpAny (model X.prog X.w) X.A (letTemporaryGo value (.ref a) r >>= fun _ => pure r) (EP X pins σ Q) X.xe s₃) X.xe s := by
    rw [hs]
    exact wpAny_operating (wpAny_mono (d_getItem hu I g ry fun w' s3 I3 rw' => (⟨z, H, I3, rw', q⟩ : EP X pins σ Q w' s3)) (fun r s₃ h₃ => wpAny_bind (wpAny_letTemporaryGo (wpAny_pure h₃))) fun _ _ x => x)
  first
    | exact wpAny_pure (wpAny_bind fin)
    | exact wpAny_bind (wpAny_pure (wpAny_bind fin))
    | exact wpAny_bind fin
def rIx2 (K : PySem.W.Frag) : R2 := fun x y H Q => rIx K x y H Q ∨ rDix x y H Q
theorem ix_any {X : Cx} (hu : X.A.units + 1 < cLine) : IxR X (rIx2 X.K) := ix_seq.or (ix_dict hu)
theorem s_ix {k : Kn} : OpS k (rIx2 k.K) fIx := by
  intro Hk F H σ env x y a b o Q w ra rb e q
  unfold fIx at e
  split at e
  · obtain ⟨d, h1, h2⟩ := Option.map_eq_some_iff.mp e
    subst h2
    obtain ⟨p, xs, rfl, h3, r1⟩ := ra.lst w.ex
    cases rb.int
    obtain ⟨v, h4, h5⟩ := r1.at h1
    exact .inl (.inl ⟨p, xs, _, v, rfl, rfl, SqL.of h3, h4, q _ Hk H (Ex.refl _) (Wl.val w h5)⟩)
  · obtain ⟨d, h1, h2⟩ := Option.map_eq_some_iff.mp e
    subst h2
    obtain ⟨p, xs, rfl, h3, r1⟩ := ra.tup w.ex
    cases rb.int
    obtain ⟨v, h4, h5⟩ := r1.at h1
    exact .inl (.inr (.inl ⟨p, xs, _, v, rfl, rfl, SqT.of (w.ex _ _ h3), h4, q _ Hk H (Ex.refl _) (Wl.val w h5)⟩))
  · split at e
    · rename_i hl
      obtain ⟨c, h1, h2⟩ := Option.map_eq_some_iff.mp e
      subst h2
      obtain ⟨rfl, ka⟩ := ra.str
      cases rb.int
      refine .inl (.inr (.inr ⟨_, _, c, rfl, rfl, by rw [S_len]; exact lim hl, by rw [S_cps]; exact h1, ?_⟩))
      refine q _ Hk H (Ex.refl _) (Wl.val w (.str [c] (okS_sub ka fun d hd => ?_)))
      have : d = c := by simpa using hd
      subst this
      unfold atI at h1
      cases e2 : ixN _ _ with
      | none => rw [e2] at h1; cases h1
      | some j =>
        rw [e2] at h1
        exact List.mem_of_getElem? h1
    · cases e
  · split at e
    · rename_i hf
      obtain ⟨c, h1, h2⟩ := Option.map_eq_some_iff.mp e
      subst h2
      obtain ⟨p, rfl, ⟨g1, g2⟩ | ⟨v, c', g1, g2, g3⟩⟩ := dgetN w ra rb hf
      · rw [g1] at h1
        cases h1
      · rw [g1] at h1
        cases h1
        exact .inr ⟨p, v, rfl, g2, q _ Hk H (Ex.refl _) (Wl.val w g3)⟩
    · cases e
  · cases e
end SW

/-! expressions: names, constants, operators, tests -/
namespace SW
open PySem L2 PyProof.Rows

theorem PE.imp {X : Cx} {e : Expr} {t t' : TE} (h : PE X e t) (i : ∀ σ H Q, t' σ H Q → t σ H Q) : PE X e t' := ⟨fun pins s σ H Q I q => h.run pins s σ H Q I (i σ H Q q)⟩
theorem PT.imp {X : Cx} {e : Expr} {t t' : TT} (h : PT X e t) (i : ∀ σ H Q, t' σ H Q → t σ H Q) : PT X e t' := ⟨fun pins s σ H Q I q => h.run pins s σ H Q I (i σ H Q q)⟩
theorem PW.imp {X : Cx} {e : Expr} {t t' : TT} (h : PW X e t) (i : ∀ σ H Q, t' σ H Q → t σ H Q) : PW X e t' := ⟨fun wh pins s σ H Q I q => h.run wh pins s σ H Q I (i σ H Q q)⟩
theorem PA.imp {X : Cx} {es : List Expr} {t t' : TA} (h : PA X es t) (i : ∀ σ H Q, t' σ H Q → t σ H Q) : PA X es t' := ⟨fun pos pins s σ H Q I q => h.run pos pins s σ H Q I (i σ H Q q)⟩

abbrev PM (X : Cx) (G : Gn) (W : WX) (e : Expr) (m : ME) : Prop := PE X e (tM (mkK X.K G) W m)
abbrev PMT (X : Cx) (G : Gn) (W : WX) (e : Expr) (m : MT) : Prop := PT X e (tMT (mkK X.K G) W m)
abbrev PMW (X : Cx) (G : Gn) (W : WX) (e : Expr) (m : MT) : Prop := PW X e (tMT (mkK X.K G) W m)
abbrev PMA (X : Cx) (G : Gn) (W : WX) (es : List Expr) (m : MA) : Prop := PA X es (tMA (mkK X.K G) W m)

/-! ### what expressions come to -/
def mVar (i : Nat) : ME := fun env => match env[i]? with
  | some (some (.val d)) => .ok (.ob (.val d), env)
  | some (some _) => .ok (.sl i, env)
  | _ => .stuck
def mC (d : D) : ME := fun env => .ok (.ob (.val d), env)
def truth : D → Option Bool
  | .non => some false
  | .bl b => some b
  | .int i => some (i != 0)
  | .str s => if s.length ≤ LIM then some (!s.isEmpty) else none
  | .lst ds => some (!ds.isEmpty)
  | .tup ds => some (!ds.isEmpty)
  | .dic false kvs => some (!kvs.isEmpty)
  | _ => none
def ofB (e : Env) : Option Bool → R (Bool × Env)
  | some b => .ok (b, e)
  | none => .stuck
/-- a value's truth -/
def mTru (m : ME) : MT := fun env => R.bind (m env) fun p => ofB p.2 ((rd p.2 p.1).bind truth)
def boolD : D → Option Bool
  | .bl b => some b
  | _ => none
/-- a value that is a bool -/
def mBool (m : ME) : MT := fun env => R.bind (m env) fun p => ofB p.2 ((rd p.2 p.1).bind boolD)
def mAnd (a b : MT) : MT := fun env => R.bind (a env) fun p => if p.1 = true then b p.2 else .ok (false, p.2)
def mOr (a b : MT) : MT := fun env => R.bind (a env) fun p => if p.1 = true then .ok (true, p.2) else b p.2
def mNot (a : MT) : MT := fun env => R.bind (a env) fun p => .ok (!p.1, p.2)
/-- a test as a value -/
def mOfT (a : MT) : ME := fun env => R.bind (a env) fun p => .ok (.ob (.val (.bl p.1)), p.2)
def mAndV (a b : ME) : ME := fun env => R.bind (mBool a env) fun p => if p.1 = true then b p.2 else .ok (.ob (.val (.bl false)), p.2)
def mOrV (a b : ME) : ME := fun env => R.bind (mBool a env) fun p => if p.1 = true then .ok (.ob (.val (.bl true)), p.2) else b p.2
def mIf (t : MT) (a b : ME) : ME := fun env => R.bind (t env) fun p => if p.1 = true then a p.2 else b p.2
/-- a op b op' c -/
def mChain (f g : D → D → Option O) (ma mb mc : ME) : ME := fun env => R.bind (ma env) fun p => R.bind (mb p.2) fun q =>
  match ap2 f (rd q.2 p.1) (rd q.2 q.1) with
  | some (.val (.bl true)) => R.bind (mc q.2) fun r => ofO r.2 (ap2 g (rd r.2 q.1) (rd r.2 r.1))
  | some (.val (.bl false)) => .ok (.ob (.val (.bl false)), q.2)
  | _ => .stuck

section
variable {k : Kn} {W : WX} {Hk F H : Hp} {σ : L2.St} {env : Env} {Q : VK}
theorem WantE.okE {x : Vr} {e : Env} {v : V} {Hk' H' : Hp} (h : WantE k W Hk F σ (.ok (x, e)) Q) (ex : Ex Hk Hk') (w : Wl k Hk' F H' σ e [v] [x]) : Q v H' := h v Hk' H' ex w
theorem tM_var {i : Nat} (h : tM k W (mVar i) σ H Q) : tVar i σ H Q := by
  obtain ⟨Hk, F, env, w, h⟩ := h
  unfold mVar at h
  split at h
  · rename_i d e
    obtain ⟨v, h1, h2⟩ := w.take e
    exact ⟨v, h1, h v Hk H (Ex.refl _) (Wl.val w h2.topV)⟩
  · rename_i o hne e
    obtain ⟨v, h1, h2⟩ := w.take e
    refine ⟨v, h1, h v Hk H (Ex.refl _) ⟨rfl, w, fun j i' v' a b => ?_⟩⟩
    cases j with
    | zero =>
      simp at a b
      subst a b
      exact h1
    | succ j => simp at a
  · exact h.elim
theorem tM_c {d : D} {v : V} (r : ∀ H, Rp k H v d) (h : tM k W (mC d) σ H Q) : tC v σ H Q := by
  obtain ⟨Hk, F, env, w, h⟩ := h
  exact h v Hk H (Ex.refl _) (Wl.val w (r _))
theorem isEmpty_len {α β : Type} {a : List α} {b : List β} (h : a.length = b.length) : a.isEmpty = b.isEmpty := by
  cases a <;> cases b <;> first | rfl | cases h
theorem kv_len : ∀ {ps : List (Key × V)} {kvs : List (D × D)}, RpKV k H ps kvs → ps.length = kvs.length
  | _, _, .nil => rfl
  | _, _, .cons _ _ r => congrArg (· + 1) (kv_len r)
theorem kt_len : ∀ {ps : List (List Key × V)} {kvs : List (D × D)}, RpKT k H ps kvs → ps.length = kvs.length
  | _, _, .nil => rfl
  | _, _, .cons _ _ r => congrArg (· + 1) (kt_len r)
theorem truV {v : V} {d : D} {b : Bool} (ex : Ex Hk H) (r : RpN k Hk H v d) (e : truth d = some b) : TruV k.K v H b := by
  unfold truth at e
  split at e
  · rw [r.non]; cases e; rfl
  · rw [r.bl]; cases e; rfl
  · rw [r.int]; cases e; rfl
  · split at e
    · rename_i hl
      cases e
      rw [r.str.1]
      refine ⟨by rw [S_len]; exact lim hl, ?_⟩
      rw [S_len]
      rename_i s
      cases s with
      | nil => rfl
      | cons a s =>
        symm
        show (((a :: s).length : Int) != 0) = true
        rw [bne_iff_ne]
        simp
        omega
    · cases e
  · cases e
    obtain ⟨p, xs, rfl, h1, r1⟩ := r.lst ex
    exact .inl ⟨xs, SqL.of h1, by rw [isEmpty_len r1.len]⟩
  · cases e
    obtain ⟨p, xs, rfl, h1, r1⟩ := r.tup ex
    exact .inr (.inl ⟨xs, SqT.of (ex _ _ h1), by rw [isEmpty_len r1.len]⟩)
  · cases e
    obtain ⟨p, rfl, ⟨_, ps, h1, r1⟩ | ⟨h0, _⟩⟩ := r.dic ex
    · exact .inr (.inr ⟨ps, h1, by rw [isEmpty_len (kv_len r1)]⟩)
    · cases h0
  · cases e
theorem ofB_some {e e' : Env} {x : Option Bool} {b : Bool} (h : ofB e x = .ok (b, e')) : x = some b ∧ e = e' := by
  cases x with
  | none => cases h
  | some c => cases h; exact ⟨rfl, rfl⟩
theorem tMT_tru {m : ME} {Q : Bool → Hp → Prop} (h : tMT k W (mTru m) σ H Q) : (fun σ H (Q : Bool → Hp → Prop) => tM k W m σ H fun x H' => ∃ c, TruV k.K x H' c ∧ Q c H') σ H Q := by
  obtain ⟨Hk, F, env, w, h⟩ := h
  have b := h.bad
  refine seqE (Wl.nil w) b.exc b.ns fun x e1 v Hk1 H1 m1 ex1 w1 => ?_
  unfold mTru at h
  rw [m1] at h
  have h1 := WantT.mono h ex1
  rw [R.bind_ok] at h1
  simp only at h1
  cases e : rd e1 x with
  | none => rw [e] at h1; exact h1.elim
  | some d =>
    rw [e] at h1
    cases e2 : truth d with
    | none => simp only [Option.bind, e2] at h1; exact h1.elim
    | some c =>
      simp only [Option.bind, e2] at h1
      exact ⟨c, truV w1.base.ex (w1.rdN (j := 0) rfl rfl e) e2, h1 Hk1 H1 (Ex.refl _) w1.base⟩
theorem tMT_bool {m : ME} {Q : Bool → Hp → Prop} (h : tMT k W (mBool m) σ H Q) : tM k W m σ H (fun x H' => ∃ c, x = .bl c ∧ Q c H') := by
  obtain ⟨Hk, F, env, w, h⟩ := h
  have b := h.bad
  refine seqE (Wl.nil w) b.exc b.ns fun x e1 v Hk1 H1 m1 ex1 w1 => ?_
  unfold mBool at h
  rw [m1] at h
  have h1 := WantT.mono h ex1
  rw [R.bind_ok] at h1
  simp only at h1
  cases e : rd e1 x with
  | none => rw [e] at h1; exact h1.elim
  | some d =>
    rw [e] at h1
    cases d with
    | bl c => exact ⟨c, (w1.rdN (j := 0) rfl rfl e).bl, h1 Hk1 H1 (Ex.refl _) w1.base⟩
    | _ => exact h1.elim
theorem tMT_and {a b : MT} {Q : Bool → Hp → Prop} (h : tMT k W (mAnd a b) σ H Q) : tAnd (tMT k W a) (tMT k W b) σ H Q := by
  obtain ⟨Hk, F, env, w, h⟩ := h
  have bb := h.bad
  refine seqT (Wl.nil w) bb.exc bb.ns fun c e1 Hk1 H1 m1 ex1 w1 => ?_
  unfold mAnd at h
  rw [m1] at h
  have h1 := WantT.mono h ex1
  cases c with
  | true => exact ⟨Hk1, F, e1, w1.base, h1⟩
  | false => exact h1 Hk1 H1 (Ex.refl _) w1.base
theorem tMT_or {a b : MT} {Q : Bool → Hp → Prop} (h : tMT k W (mOr a b) σ H Q) : tOr (tMT k W a) (tMT k W b) σ H Q := by
  obtain ⟨Hk, F, env, w, h⟩ := h
  have bb := h.bad
  refine seqT (Wl.nil w) bb.exc bb.ns fun c e1 Hk1 H1 m1 ex1 w1 => ?_
  unfold mOr at h
  rw [m1] at h
  have h1 := WantT.mono h ex1
  cases c with
  | false => exact ⟨Hk1, F, e1, w1.base, h1⟩
  | true => exact h1 Hk1 H1 (Ex.refl _) w1.base
theorem tMT_not {a : MT} {Q : Bool → Hp → Prop} (h : tMT k W (mNot a) σ H Q) : tNot (tMT k W a) σ H Q := by
  obtain ⟨Hk, F, env, w, h⟩ := h
  have bb := h.bad
  refine seqT (Wl.nil w) bb.exc bb.ns fun c e1 Hk1 H1 m1 ex1 w1 => ?_
  unfold mNot at h
  rw [m1] at h
  exact WantT.mono h ex1 Hk1 H1 (Ex.refl _) w1.base
theorem tM_andV {a b : ME} (h : tM k W (mAndV a b) σ H Q) : tAndV (tM k W a) (tM k W b) σ H Q := by
  obtain ⟨Hk, F, env, w, h⟩ := h
  refine tMT_bool (Q := fun c H1 => if c = true then tM k W b σ H1 Q else Q (.bl false) H1) ⟨Hk, F, env, w, ?_⟩
  unfold mAndV at h
  cases m1 : mBool a env with
  | stuck => rw [m1] at h; exact h
  | exc c fs e' => rw [m1] at h; exact h
  | ok p =>
    rw [m1] at h
    obtain ⟨c, e1⟩ := p
    intro Hk1 H1 ex1 w1
    have h1 := WantE.mono h ex1
    cases c with
    | true => exact ⟨Hk1, F, e1, w1, h1⟩
    | false => exact h1 _ Hk1 H1 (Ex.refl _) (Wl.val w1 (.bl _))
theorem tM_orV {a b : ME} (h : tM k W (mOrV a b) σ H Q) : tOrV (tM k W a) (tM k W b) σ H Q := by
  obtain ⟨Hk, F, env, w, h⟩ := h
  refine tMT_bool (Q := fun c H1 => if c = true then Q (.bl true) H1 else tM k W b σ H1 Q) ⟨Hk, F, env, w, ?_⟩
  unfold mOrV at h
  cases m1 : mBool a env with
  | stuck => rw [m1] at h; exact h
  | exc c fs e' => rw [m1] at h; exact h
  | ok p =>
    rw [m1] at h
    obtain ⟨c, e1⟩ := p
    intro Hk1 H1 ex1 w1
    have h1 := WantE.mono h ex1
    cases c with
    | false => exact ⟨Hk1, F, e1, w1, h1⟩
    | true => exact h1 _ Hk1 H1 (Ex.refl _) (Wl.val w1 (.bl _))
theorem tM_notV {a : ME} (h : tM k W (mOfT (mNot (mBool a))) σ H Q) : tNotV (tM k W a) σ H Q := by
  obtain ⟨Hk, F, env, w, h⟩ := h
  refine tMT_bool (Q := fun c H1 => Q (.bl (!c)) H1) ⟨Hk, F, env, w, ?_⟩
  unfold mOfT mNot at h
  cases m1 : mBool a env with
  | stuck => rw [m1] at h; exact h
  | exc c fs e' => rw [m1] at h; exact h
  | ok p =>
    rw [m1] at h
    obtain ⟨c, e1⟩ := p
    intro Hk1 H1 ex1 w1
    exact WantE.mono h ex1 _ Hk1 H1 (Ex.refl _) (Wl.val w1 (.bl _))
theorem tM_if {t : MT} {a b : ME} (h : tM k W (mIf t a b) σ H Q) : tIf (tMT k W t) (tM k W a) (tM k W b) σ H Q := by
  obtain ⟨Hk, F, env, w, h⟩ := h
  have bb := h.bad
  refine seqT (Wl.nil w) bb.exc bb.ns fun c e1 Hk1 H1 m1 ex1 w1 => ?_
  unfold mIf at h
  rw [m1] at h
  have h1 := WantE.mono h ex1
  cases c with
  | true => exact ⟨Hk1, F, e1, w1.base, h1⟩
  | false => exact ⟨Hk1, F, e1, w1.base, h1⟩
theorem tM_chain {r r' : R2} {f g : D → D → Option O} {ma mb mc : ME} (hs : OpS k r f) (hs' : OpS k r' g) (h : tM k W (mChain f g ma mb mc) σ H Q) : tChain r r' (tM k W ma) (tM k W mb) (tM k W mc) σ H Q := by
  obtain ⟨Hk, F, env, w, h⟩ := h
  have bb := h.bad
  refine seqE (Wl.nil w) bb.exc bb.ns fun x e1 v Hk1 H1 m1 ex1 w1 => ?_
  unfold mChain at h
  rw [m1] at h
  have h1 := WantE.mono h ex1
  have bb := h1.bad
  refine seqE w1 bb.exc bb.ns fun y e2 v2 Hk2 H2 m2 ex2 w2 => ?_
  rw [R.bind_ok] at h1
  simp only at h1
  rw [m2] at h1
  have h2 := WantE.mono h1 ex2
  rw [R.bind_ok] at h2
  simp only at h2
  have w2 : Wl k Hk2 F H2 σ e2 [v, v2] [x, y] := w2
  split at h2
  · rename_i ef
    obtain ⟨a, b, ea, eb, ef⟩ := ap2_some ef
    have wy : Wl k Hk2 F H2 σ e2 [v2] [y] := ⟨rfl, by
        have w3 := w2.w
        cases x with
        | ob o => exact w3.drop
        | sl i => exact w3, fun j i v' p q => w2.sl (j + 1) i v' (by simpa using p) (by simpa using q)⟩
    obtain ⟨F2, wa, back⟩ := wy.aside
    refine hs wa (w2.rdN (j := 0) rfl rfl ea) (w2.rdN (j := 1) rfl rfl eb) ef fun z Hk3 H3 ex3 w3 => ?_
    have z1 : z = .bl true := by
      have := w3.rdN (j := 0) (d := .bl true) rfl rfl rfl
      exact this.bl
    refine ⟨true, z1, ?_⟩
    rw [if_pos rfl]
    have w4 : Wl k Hk3 F H3 σ e2 [v2] [y] := by
      have := back Hk3 H3 e2 [] [] ex3 (Wl.nil w3.base)
      exact this
    have h3 := WantE.mono h2 ex3
    have bb := h3.bad
    refine seqE w4 bb.exc bb.ns fun y3 e3 v3 Hk4 H4 m3 ex4 w5 => ?_
    rw [m3] at h3
    have h4 := WantE.mono h3 ex4
    rw [R.bind_ok] at h4
    simp only at h4
    have w5 : Wl k Hk4 F H4 σ e3 [v2, v3] [y, y3] := w5
    cases e5 : ap2 g (rd e3 y) (rd e3 y3) with
    | none =>
      rw [e5] at h4
      exact h4.elim
    | some o =>
      rw [e5] at h4
      obtain ⟨a, b, ea, eb, ef⟩ := ap2_some e5
      exact hs' w5.base (w5.rdN (j := 0) rfl rfl ea) (w5.rdN (j := 1) rfl rfl eb) ef h4
  · rename_i ef
    obtain ⟨a, b, ea, eb, ef⟩ := ap2_some ef
    refine hs w2.base (w2.rdN (j := 0) rfl rfl ea) (w2.rdN (j := 1) rfl rfl eb) ef fun z Hk3 H3 ex3 w3 => ?_
    have z1 : z = .bl false := by
      have := w3.rdN (j := 0) (d := .bl false) rfl rfl rfl
      exact this.bl
    refine ⟨false, z1, ?_⟩
    rw [if_neg Bool.false_ne_true]
    exact h2 _ Hk3 H3 ex3 (Wl.val w3.base (.bl _))
  · exact h2.elim
end
end SW

/-! arguments, displays, calls of what is built in -/
namespace SW
open PySem L2 PyProof.Rows

def mNil : MA := fun env => .ok ([], env)
def mCons (m : ME) (ms : MA) : MA := fun env => R.bind (m env) fun p => R.bind (ms p.2) fun q => .ok (p.1 :: q.1, q.2)
/-- a value kept from now on -/
def frz1 (env : Env) : Vr → Option (D × Env)
  | .ob o => o.frz.map fun d => (d, env)
  | .sl i => match env[i]? with
    | some (some o) => o.frz.map fun d => (d, env.set i (some (.val d)))
    | _ => none
def frzs : Env → List Vr → Option (List D × Env)
  | env, [] => some ([], env)
  | env, x :: xs => match frz1 env x with
    | some (d, e1) => match frzs e1 xs with
      | some (ds, e2) => some (d :: ds, e2)
      | none => none
    | none => none
def mTup (ms : MA) : ME := fun env => R.bind (ms env) fun p => match frzs p.2 p.1 with
  | some (ds, e) => if ds.length ≤ LIM then .ok (.ob (.val (.tup ds)), e) else .stuck
  | none => .stuck
def mLst (ms : MA) : ME := fun env => R.bind (ms env) fun p => match frzs p.2 p.1 with
  | some (ds, e) => if ds.length ≤ LIM then .ok (.ob (.lst ds), e) else .stuck
  | none => .stuck
def rds (env : Env) : List Vr → Option (List D)
  | [] => some []
  | x :: xs => match rd env x with
    | some d => (rds env xs).map (d :: ·)
    | none => none
/-- a call of what is built in -/
def mCB (f : List D → Option O) (ms : MA) : ME := fun env => R.bind (ms env) fun p => match rds p.2 p.1 with
  | some ds => ofO p.2 (f ds)
  | none => .stuck
inductive RpNs (k : Kn) (Hk H : Hp) : List V → List D → Prop
  | nil : RpNs k Hk H [] []
  | cons {v : V} {d : D} {vs : List V} {ds : List D} : RpN k Hk H v d → RpNs k Hk H vs ds → RpNs k Hk H (v :: vs) (d :: ds)
def CallS (k : Kn) (r : List V → Hp → VK → Prop) (f : List D → Option O) : Prop := ∀ {Hk F H : Hp} {σ : L2.St} {env : Env} {vs : List V} {ds : List D} {o : O} {Q : VK}, Wd k Hk F H σ env → RpNs k Hk H vs ds → f ds = some o →
  (∀ v Hk' H', Ex Hk Hk' → Wl k Hk' F H' σ env [v] [.ob o] → Q v H') → r vs H Q

section
variable {k : Kn} {W : WX} {Hk F H : Hp} {σ : L2.St} {env : Env} {Q : VK} {vs : List V} {xs : List Vr}
theorem tMA_nil {Q : List V → Hp → Prop} (h : tMA k W mNil σ H Q) : tNil σ H Q := by
  obtain ⟨Hk, F, env, w, h⟩ := h
  exact h [] Hk H (Ex.refl _) (Wl.nil w)
theorem tMA_cons {m : ME} {ms : MA} {Q : List V → Hp → Prop} (h : tMA k W (mCons m ms) σ H Q) : tCons (tM k W m) (tMA k W ms) σ H Q := by
  obtain ⟨Hk, F, env, w, h⟩ := h
  have b := h.bad
  refine seqE (Wl.nil w) b.exc b.ns fun x e1 v Hk1 H1 m1 ex1 w1 => ?_
  unfold mCons at h
  rw [m1] at h
  have h1 := WantL.mono h ex1
  have b := h1.bad
  refine seqA w1 b.exc b.ns fun ys e2 ws Hk2 H2 m2 ex2 w2 => ?_
  rw [R.bind_ok] at h1
  simp only at h1
  rw [m2] at h1
  exact WantL.mono h1 ex2 (v :: ws) Hk2 H2 (Ex.refl _) w2
theorem Wl.tail {x : Vr} {v : V} (w : Wl k Hk F H σ env (v :: vs) (x :: xs)) : Wl k Hk F H σ env vs xs := ⟨by simpa using w.len, by
  have w3 := w.w
  cases x with
  | ob o => exact w3.drop
  | sl i => exact w3, fun j i v' p q => w.sl (j + 1) i v' (by simpa using p) (by simpa using q)⟩
theorem Wl.rdNs : ∀ {vs : List V} {xs : List Vr} {ds : List D}, Wl k Hk F H σ env vs xs → rds env xs = some ds → RpNs k Hk H vs ds
  | [], [], _, w, e => by
    cases e
    exact .nil
  | [], _ :: _, _, w, _ => by
    have := w.len
    simp at this
  | _ :: _, [], _, w, _ => by
    have := w.len
    simp at this
  | v :: vs, x :: xs, ds, w, e => by
    unfold rds at e
    split at e
    · rename_i d hd
      obtain ⟨ds', h1, h2⟩ := Option.map_eq_some_iff.mp e
      subst h2
      exact .cons (w.rdN (j := 0) rfl rfl hd) (Wl.rdNs w.tail h1)
    · cases e
theorem set_app {α : Type} {a b : List α} {i : Nat} {x : α} : (a ++ b).set (a.length + i) x = a ++ b.set i x := by
  rw [List.set_append_right _ _ (by omega)]
  simp
theorem Wl.frz1 {x : Vr} {v : V} {d : D} {e1 : Env} (w : Wl k Hk F H σ env (v :: vs) (x :: xs)) (e : frz1 env x = some (d, e1)) : ∃ Hk', Ex Hk Hk' ∧ Wl k Hk' F H σ e1 vs xs ∧ Rp k Hk' v d := by
  cases x with
  | ob o =>
    obtain ⟨d', h1, h2⟩ := Option.map_eq_some_iff.mp e
    cases h2
    have w3 : Wd k Hk F H (some v :: (topV vs xs ++ σ)) (some o :: (topE xs ++ env)) := w.w
    obtain ⟨Hk', ex, w4, r⟩ := w3.freeze h1
    exact ⟨Hk', ex, ⟨by simpa using w.len, w4, fun j i v' p q => w.sl (j + 1) i v' (by simpa using p) (by simpa using q)⟩, r⟩
  | sl i =>
    simp only [SW.frz1] at e
    split at e
    · rename_i o ho
      obtain ⟨d', h1, h2⟩ := Option.map_eq_some_iff.mp e
      cases h2
      have wt := w.tail
      have hv : σ[i]? = some (some v) := w.sl 0 i v rfl rfl
      have tl := top_len wt.len
      have w3 : Wd k Hk F H (topV vs xs ++ σ) (topE xs ++ env) := wt.w
      have hoE : (topE xs ++ env)[(topE xs).length + i]? = some (some o) := by
        rw [List.getElem?_append_right (by omega)]
        simpa using ho
      have hvE : (topV vs xs ++ σ)[(topE xs).length + i]? = some (some v) := by
        rw [List.getElem?_append_right (by omega), tl]
        simpa using hv
      obtain ⟨v', hv', w4⟩ := w3.take hoE
      rw [hvE] at hv'
      cases hv'
      obtain ⟨Hk', ex, w5, r⟩ := w4.freeze h1
      have hi : (topE xs).length + i < (topE xs ++ env).length := (List.getElem?_eq_some_iff.mp hoE).1
      have w6 := (w5.pushV r).put (i := (topE xs).length + i) (by rw [List.getElem?_set_self hi]) hvE
      rw [List.set_set, set_app] at w6
      refine ⟨Hk', ex, ⟨wt.len, w6, wt.sl⟩, r⟩
    · cases e
theorem Wl.frzs : ∀ {vs : List V} {xs : List Vr} {Hk : Hp} {env : Env} {ds : List D} {e1 : Env}, Wl k Hk F H σ env vs xs → frzs env xs = some (ds, e1) → ∃ Hk', Ex Hk Hk' ∧ Wd k Hk' F H σ e1 ∧ RpAll k Hk' vs ds
  | [], [], Hk, _, _, _, w, e => by
    cases e
    exact ⟨Hk, Ex.refl _, w.base, .nil⟩
  | [], _ :: _, _, _, _, _, w, _ => by
    have := w.len
    simp at this
  | _ :: _, [], _, _, _, _, w, _ => by
    have := w.len
    simp at this
  | v :: vs, x :: xs, Hk, env, ds, e1, w, e => by
    unfold SW.frzs at e
    split at e
    · rename_i d e2 h1
      split at e
      · rename_i ds' e3 h2
        cases e
        obtain ⟨Hk1, ex1, w1, r1⟩ := w.frz1 h1
        obtain ⟨Hk2, ex2, w2, r2⟩ := Wl.frzs w1 h2
        exact ⟨Hk2, ex1.trans ex2, w2, .cons (r1.mono ex2) r2⟩
      · cases e
    · cases e
theorem tM_tup {ms : MA} (h : tM k W (mTup ms) σ H Q) : tTup (tMA k W ms) σ H Q := by
  obtain ⟨Hk, F, env, w, h⟩ := h
  have b := h.bad
  refine seqA (Wl.nil w) b.exc b.ns fun ys e1 ws Hk1 H1 m1 ex1 w1 => ?_
  unfold mTup at h
  rw [m1] at h
  have h1 := WantE.mono h ex1
  rw [R.bind_ok] at h1
  simp only at h1
  have w1 : Wl k Hk1 F H1 σ e1 ws ys := w1
  split at h1
  · rename_i ds e2 hf
    split at h1
    · rename_i hl
      obtain ⟨Hk2, ex2, w2, r2⟩ := w1.frzs hf
      refine ⟨by rw [r2.len]; exact lim hl, fun p hp => ?_⟩
      obtain ⟨e3, w3⟩ := Wl.newT w2 hp r2
      exact h1 _ _ _ (ex2.trans e3) w3
    · exact h1.elim
  · exact h1.elim
theorem tM_lst {ms : MA} (h : tM k W (mLst ms) σ H Q) : tLst (tMA k W ms) σ H Q := by
  obtain ⟨Hk, F, env, w, h⟩ := h
  have b := h.bad
  refine seqA (Wl.nil w) b.exc b.ns fun ys e1 ws Hk1 H1 m1 ex1 w1 => ?_
  unfold mLst at h
  rw [m1] at h
  have h1 := WantE.mono h ex1
  rw [R.bind_ok] at h1
  simp only at h1
  have w1 : Wl k Hk1 F H1 σ e1 ws ys := w1
  split at h1
  · rename_i ds e2 hf
    split at h1
    · rename_i hl
      obtain ⟨Hk2, ex2, w2, r2⟩ := w1.frzs hf
      refine ⟨by rw [r2.len]; exact lim hl, fun p hp => ?_⟩
      exact h1 _ _ _ ex2 (Wl.newL w2 hp r2)
    · exact h1.elim
  · exact h1.elim
theorem tM_cb {r : List V → Hp → VK → Prop} {f : List D → Option O} {ms : MA} (hs : CallS k r f) (h : tM k W (mCB f ms) σ H Q) : tCB r (tMA k W ms) σ H Q := by
  obtain ⟨Hk, F, env, w, h⟩ := h
  have b := h.bad
  refine seqA (Wl.nil w) b.exc b.ns fun ys e1 ws Hk1 H1 m1 ex1 w1 => ?_
  unfold mCB at h
  rw [m1] at h
  have h1 := WantE.mono h ex1
  rw [R.bind_ok] at h1
  simp only at h1
  have w1 : Wl k Hk1 F H1 σ e1 ws ys := w1
  split at h1
  · rename_i ds hd
    cases e : f ds with
    | none => rw [e] at h1; exact h1.elim
    | some o =>
      rw [e] at h1
      exact hs w1.base (w1.rdNs hd) e h1
  · exact h1.elim
end

/-! ### built-in functions -/
theorem CallR.or {X : Cx} {f : Value} {r r' : List V → Hp → VK → Prop} (h : CallR X f r) (h' : CallR X f r') : CallR X f (fun xs H Q => r xs H Q ∨ r' xs H Q) := by
  intro pins s σ H xs us Q I rr q
  rcases q with q | q
  · exact h pins s σ H xs us Q I rr q
  · exact h' pins s σ H xs us Q I rr q
def lenD : D → Option Nat
  | .str s => if s.length ≤ LIM then some s.length else none
  | .lst ds => some ds.length
  | .tup ds => some ds.length
  | .dic false kvs => some kvs.length
  | _ => none
def fLen : List D → Option O
  | [d] => (lenD d).map fun n => .val (.int n)
  | _ => none
def rLen (K : PySem.W.Frag) : List V → Hp → VK → Prop := fun xs H Q => (∃ x n, xs = [x] ∧ LenV K x H n ∧ Q (.int n) H) ∨ ∃ a kvs, xs = [V.ref a] ∧ H a = some (.dK kvs) ∧ Q (.int kvs.length) H
theorem cr_len2 {X : Cx} : CallR X (.builtin "len") (rLen X.K) := CallR.or call_len call_lenD
theorem RpNs.one {k : Kn} {Hk H : Hp} {vs : List V} {d : D} (h : RpNs k Hk H vs [d]) : ∃ v, vs = [v] ∧ RpN k Hk H v d := by
  cases h with
  | cons h r =>
    cases r
    exact ⟨_, rfl, h⟩
theorem RpNs.two {k : Kn} {Hk H : Hp} {vs : List V} {d e : D} (h : RpNs k Hk H vs [d, e]) : ∃ v w, vs = [v, w] ∧ RpN k Hk H v d ∧ RpN k Hk H w e := by
  cases h with
  | cons h r =>
    obtain ⟨w, rfl, h2⟩ := r.one
    exact ⟨_, _, rfl, h, h2⟩
theorem s_len {k : Kn} : CallS k (rLen k.K) fLen := by
  intro Hk F H σ env vs ds o Q w rs e q
  unfold fLen at e
  split at e
  · obtain ⟨v, rfl, r⟩ := rs.one
    obtain ⟨n, h1, h2⟩ := Option.map_eq_some_iff.mp e
    subst h2
    unfold lenD at h1
    split at h1
    · split at h1
      · rename_i hl
        cases h1
        rw [r.str.1]
        exact .inl ⟨_, _, rfl, ⟨by rw [S_len]; exact lim hl, (S_len _).symm⟩, q _ Hk H (Ex.refl _) (Wl.val w (.int _))⟩
      · cases h1
    · cases h1
      obtain ⟨p, xs, rfl, h3, r1⟩ := r.lst w.ex
      rw [← r1.len] at q
      exact .inl ⟨_, _, rfl, .inl ⟨xs, SqL.of h3, rfl⟩, q _ Hk H (Ex.refl _) (Wl.val w (.int _))⟩
    · cases h1
      obtain ⟨p, xs, rfl, h3, r1⟩ := r.tup w.ex
      rw [← r1.len] at q
      exact .inl ⟨_, _, rfl, .inr ⟨xs, SqT.of (w.ex _ _ h3), rfl⟩, q _ Hk H (Ex.refl _) (Wl.val w (.int _))⟩
    · cases h1
      obtain ⟨p, rfl, ⟨_, ps, h3, r1⟩ | ⟨h0, _⟩⟩ := r.dic w.ex
      · rw [← kv_len r1] at q
        exact .inr ⟨p, ps, rfl, h3, q _ Hk H (Ex.refl _) (Wl.val w (.int _))⟩
      · cases h0
    · cases h1
  · cases e
/-- a list of truths -/
def bools : List D → Option (List Bool)
  | [] => some []
  | .bl b :: ds => (bools ds).map (b :: ·)
  | _ => none
theorem bools_V {k : Kn} {H : Hp} : ∀ {vs : List V} {ds : List D} {bs : List Bool}, RpAll k H vs ds → bools ds = some bs → vs = bs.map V.bl
  | _, _, _, .nil, e => by cases e; rfl
  | _, _, _, .cons h r, e => by
    cases h with
    | bl b =>
      simp only [bools] at e
      obtain ⟨bs', h1, h2⟩ := Option.map_eq_some_iff.mp e
      subst h2
      rw [bools_V r h1]
      rfl
    | _ => simp [bools] at e
def fAll : List D → Option O
  | [.lst ds] => (bools ds).map fun bs => .val (.bl (bs.all id))
  | _ => none
def fAny : List D → Option O
  | [.lst ds] => (bools ds).map fun bs => .val (.bl (bs.any id))
  | _ => none
theorem s_all {k : Kn} : CallS k (rAll k.K) fAll := by
  intro Hk F H σ env vs ds o Q w rs e q
  unfold fAll at e
  split at e
  · obtain ⟨v, rfl, r⟩ := rs.one
    obtain ⟨bs, h1, h2⟩ := Option.map_eq_some_iff.mp e
    subst h2
    obtain ⟨p, xs, rfl, h3, r1⟩ := r.lst w.ex
    exact ⟨p, bs, rfl, SqL.of (by rw [← bools_V r1 h1]; exact h3), q _ Hk H (Ex.refl _) (Wl.val w (.bl _))⟩
  · cases e
theorem s_any {k : Kn} : CallS k (rAny k.K) fAny := by
  intro Hk F H σ env vs ds o Q w rs e q
  unfold fAny at e
  split at e
  · obtain ⟨v, rfl, r⟩ := rs.one
    obtain ⟨bs, h1, h2⟩ := Option.map_eq_some_iff.mp e
    subst h2
    obtain ⟨p, xs, rfl, h3, r1⟩ := r.lst w.ex
    exact ⟨p, bs, rfl, SqL.of (by rw [← bools_V r1 h1]; exact h3), q _ Hk H (Ex.refl _) (Wl.val w (.bl _))⟩
  · cases e
def fMax : List D → Option O
  | [.int i, .int j] => some (.val (.int (if j > i then j else i)))
  | _ => none
def fMin : List D → Option O
  | [.int i, .int j] => some (.val (.int (if j < i then j else i)))
  | _ => none
theorem s_max {k : Kn} : CallS k (fun xs H Q => ∃ i j, xs = [.int i, .int j] ∧ Q (.int (if j > i then j else i)) H) fMax := by
  intro Hk F H σ env vs ds o Q w rs e q
  unfold fMax at e
  split at e
  · cases e
    obtain ⟨v, u, rfl, r1, r2⟩ := rs.two
    cases r1.int
    cases r2.int
    exact ⟨_, _, rfl, q _ Hk H (Ex.refl _) (Wl.val w (.int _))⟩
  · cases e
theorem s_min {k : Kn} : CallS k (fun xs H Q => ∃ i j, xs = [.int i, .int j] ∧ Q (.int (if j < i then j else i)) H) fMin := by
  intro Hk F H σ env vs ds o Q w rs e q
  unfold fMin at e
  split at e
  · cases e
    obtain ⟨v, u, rfl, r1, r2⟩ := rs.two
    cases r1.int
    cases r2.int
    exact ⟨_, _, rfl, q _ Hk H (Ex.refl _) (Wl.val w (.int _))⟩
  · cases e
def fInt : List D → Option O
  | [.int i] => some (.val (.int i))
  | [.bl b] => some (.val (.int (if b then 1 else 0)))
  | _ => none
theorem s_int {k : Kn} : CallS k (fun xs H Q => (∃ i, xs = [.int i] ∧ Q (.int i) H) ∨ ∃ k, xs = [.bl k] ∧ Q (.int (if k then 1 else 0)) H) fInt := by
  intro Hk F H σ env vs ds o Q w rs e q
  unfold fInt at e
  split at e
  · cases e
    obtain ⟨v, rfl, r⟩ := rs.one
    cases r.int
    exact .inl ⟨_, rfl, q _ Hk H (Ex.refl _) (Wl.val w (.int _))⟩
  · cases e
    obtain ⟨v, rfl, r⟩ := rs.one
    cases r.bl
    exact .inr ⟨_, rfl, q _ Hk H (Ex.refl _) (Wl.val w (.int _))⟩
  · cases e
/-- list(x): of a list, a tuple, a dict's keys -/
def fList : List D → Option O
  | [.lst ds] => some (.lst ds)
  | [.tup ds] => some (.lst ds)
  | [.dic false kvs] => some (.lst (kvs.map (·.1)))
  | _ => none
def rListA (K : PySem.W.Frag) : List V → Hp → VK → Prop := fun xs H Q => (∃ p ys, xs = [.ref p] ∧ (SqL K H p ys ∨ SqT K H p ys) ∧ ∀ l, H l = none → Q (.ref l) (upd H l (.lst ys))) ∨
  ∃ (a : Addr) (kvs : List (Key × V)), xs = [.ref a] ∧ Rd H a (.dK kvs) ∧ ∀ p, H p = none → Q (.ref p) (upd H p (.lst (kvs.map fun kv => kV kv.1)))
theorem cr_list2 {X : Cx} (hc : X.calm = true) : CallR X (.type "list") (rListA X.K) := CallR.or call_list_of (call_listD hc)
theorem key_rp {k : Kn} {H : Hp} {y : Key} (h : okK y = true) : Rp k H (kV y) (keyD y) := by
  cases y with
  | inl i => exact .int i
  | inr x =>
    have := Rp.str (k := k) (H := H) x.cps.toList h
    rw [S_toList] at this
    exact this
theorem keys_rp {k : Kn} {H : Hp} : ∀ {ps : List (Key × V)} {kvs : List (D × D)}, RpKV k H ps kvs → RpAll k H (ps.map fun kv => kV kv.1) (kvs.map (·.1))
  | _, _, .nil => .nil
  | _, _, .cons z h r => .cons (key_rp z) (keys_rp r)
theorem s_list {k : Kn} : CallS k (rListA k.K) fList := by
  intro Hk F H σ env vs ds o Q w rs e q
  unfold fList at e
  split at e
  · cases e
    obtain ⟨v, rfl, r⟩ := rs.one
    obtain ⟨p, xs, rfl, h3, r1⟩ := r.lst w.ex
    exact .inl ⟨p, xs, rfl, .inl (SqL.of h3), fun l hl => q _ Hk _ (Ex.refl _) (Wl.newL w hl r1)⟩
  · cases e
    obtain ⟨v, rfl, r⟩ := rs.one
    obtain ⟨p, xs, rfl, h3, r1⟩ := r.tup w.ex
    exact .inl ⟨p, xs, rfl, .inr (SqT.of (w.ex _ _ h3)), fun l hl => q _ Hk _ (Ex.refl _) (Wl.newL w hl r1)⟩
  · cases e
    obtain ⟨v, rfl, r⟩ := rs.one
    obtain ⟨p, rfl, ⟨_, ps, h3, r1⟩ | ⟨h0, _⟩⟩ := r.dic w.ex
    · exact .inr ⟨p, ps, rfl, .inl h3, fun l hl => q _ Hk _ (Ex.refl _) (Wl.newL w hl (keys_rp r1))⟩
    · cases h0
  · cases e
def fTuple : List D → Option O
  | [.lst ds] => some (.val (.tup ds))
  | [.tup ds] => some (.val (.tup ds))
  | _ => none
def rTupA (K : PySem.W.Frag) : List V → Hp → VK → Prop := fun xs H Q => ∃ x, xs = [x] ∧ kTup K x H Q
theorem s_tuple {k : Kn} : CallS k (rTupA k.K) fTuple := by
  intro Hk F H σ env vs ds o Q w rs e q
  unfold fTuple at e
  split at e
  · cases e
    obtain ⟨v, rfl, r⟩ := rs.one
    obtain ⟨p, xs, rfl, h3, r1⟩ := r.lst w.ex
    refine ⟨_, rfl, .inl ⟨p, xs, rfl, SqL.of h3, fun l hl => ?_⟩⟩
    obtain ⟨e1, w1⟩ := Wl.newT w hl r1
    exact q _ _ _ e1 w1
  · cases e
    obtain ⟨v, rfl, r⟩ := rs.one
    obtain ⟨p, xs, rfl, h3, r1⟩ := r.tup w.ex
    exact ⟨_, rfl, .inr ⟨p, xs, rfl, SqT.of (w.ex _ _ h3), q _ Hk H (Ex.refl _) (Wl.val w (.tup h3 r1))⟩⟩
  · cases e

/-! ### sorted of texts -/
def insL (x : List Nat) : List (List Nat) → List (List Nat)
  | [] => [x]
  | y :: r => if x < y then x :: y :: r else y :: insL x r
/-- texts by order -/
def sortL : List (List Nat) → List (List Nat)
  | [] => []
  | x :: r => insL x (sortL r)
def txts : List D → Option (List (List Nat))
  | [] => some []
  | .str s :: ds => (txts ds).map (s :: ·)
  | _ => none
def fSorted : List D → Option O
  | [.lst ds] => match txts ds with
    | some ss => if ss.length ≤ LIM then some (.lst ((sortL ss).map .str)) else none
    | none => none
  | _ => none
theorem ltCps_eq : ∀ a b : List Nat, PySem.Spec.ltCps a b = decide (a < b)
  | [], [] => by simp [PySem.Spec.ltCps]
  | [], _ :: _ => by simp [PySem.Spec.ltCps]
  | _ :: _, [] => by simp [PySem.Spec.ltCps]
  | a :: r, b :: t => by
    rw [PySem.Spec.ltCps, ltCps_eq r t, Bool.eq_iff_iff]
    simp [List.cons_lt_cons_iff]
theorem strs_V {k : Kn} {H : Hp} : ∀ {vs : List V} {ds : List D} {ss : List (List Nat)}, RpAll k H vs ds → txts ds = some ss → vs = (ss.map S).map V.str ∧ ∀ s ∈ ss, okS s = true
  | _, _, _, .nil, e => by cases e; exact ⟨rfl, fun s h => by simp at h⟩
  | _, _, _, .cons h r, e => by
    cases h with
    | str s ok =>
      simp only [txts] at e
      obtain ⟨ss', h1, h2⟩ := Option.map_eq_some_iff.mp e
      subst h2
      obtain ⟨h3, h4⟩ := strs_V r h1
      exact ⟨by rw [h3]; rfl, fun t ht => by
        rcases List.mem_cons.mp ht with rfl | ht
        · exact ok
        · exact h4 t ht⟩
    | _ => simp [txts] at e
theorem rp_strs {k : Kn} {H : Hp} : ∀ {ss : List (List Nat)}, (∀ s ∈ ss, okS s = true) → RpAll k H ((ss.map S).map V.str) (ss.map D.str)
  | [], _ => .nil
  | s :: ss, h => .cons (.str s (h s (by simp))) (rp_strs fun t ht => h t (by simp [ht]))
theorem insL_perm (x : List Nat) : ∀ l, (insL x l).Perm (x :: l)
  | [] => List.Perm.refl _
  | y :: r => by
    unfold insL
    split
    · exact List.Perm.refl _
    · exact ((insL_perm x r).cons y).trans (List.Perm.swap x y r)
theorem sortL_perm : ∀ l, (sortL l).Perm l
  | [] => List.Perm.refl _
  | x :: r => (insL_perm x _).trans ((sortL_perm r).cons x)
theorem insL_sorted (x : List Nat) : ∀ l : List (List Nat), l.Pairwise (fun a b => ¬ b < a) → (insL x l).Pairwise (fun a b => ¬ b < a)
  | [], _ => by simp [insL]
  | y :: r, h => by
    obtain ⟨h1, h2⟩ := List.pairwise_cons.mp h
    unfold insL
    split
    · rename_i hx
      refine List.pairwise_cons.mpr ⟨fun z hz => ?_, h⟩
      rcases List.mem_cons.mp hz with rfl | hz
      · exact List.lt_asymm hx
      · intro hzx
        exact h1 z hz (List.lt_trans hzx hx)
    · rename_i hx
      refine List.pairwise_cons.mpr ⟨fun z hz => ?_, insL_sorted x r h2⟩
      rcases List.mem_cons.mp ((insL_perm x r).mem_iff.mp hz) with rfl | hz
      · exact hx
      · exact h1 z hz
theorem sortL_sorted : ∀ l : List (List Nat), (sortL l).Pairwise (fun a b => ¬ b < a)
  | [] => List.Pairwise.nil
  | x :: r => insL_sorted x _ (sortL_sorted r)
theorem risingS_head : ∀ (l : List Str) (p : Str), risingS p l = true → (∀ x ∈ l, ¬ x.cps.toList < p.cps.toList) ∧ sortedS l = true
  | [], p, _ => ⟨fun x h => by simp at h, rfl⟩
  | y :: r, p, h => by
    unfold risingS at h
    rw [Bool.and_eq_true] at h
    obtain ⟨h1, h2⟩ := h
    have h3 : ¬ y.cps.toList < p.cps.toList := by
      rw [ltCps_eq] at h1
      simpa using h1
    obtain ⟨h4, h5⟩ := risingS_head r y h2
    refine ⟨fun x hx => ?_, h2⟩
    rcases List.mem_cons.mp hx with rfl | hx
    · exact h3
    · intro hxp
      exact h3 (List.lt_of_le_of_lt (List.not_lt.mp (h4 x hx)) hxp)
theorem sortedS_pw : ∀ l : List Str, sortedS l = true → (l.map fun z => z.cps.toList).Pairwise (fun a b => ¬ b < a)
  | [], _ => List.Pairwise.nil
  | x :: r, h => by
    obtain ⟨h1, h2⟩ := risingS_head r x h
    rw [List.map_cons]
    refine List.pairwise_cons.mpr ⟨fun z hz => ?_, sortedS_pw r h2⟩
    obtain ⟨y, hy, rfl⟩ := List.mem_map.mp hz
    exact h1 y hy
theorem sort_unique : ∀ {a b : List (List Nat)}, a.Perm b → a.Pairwise (fun a b => ¬ b < a) → b.Pairwise (fun a b => ¬ b < a) → a = b
  | [], b, p, _, _ => (List.Perm.nil_eq p)
  | x :: a, [], p, _, _ => (List.Perm.eq_nil p)
  | x :: a, y :: b, p, ha, hb => by
    obtain ⟨a1, a2⟩ := List.pairwise_cons.mp ha
    obtain ⟨b1, b2⟩ := List.pairwise_cons.mp hb
    have e : x = y := by
      rcases List.mem_cons.mp (p.mem_iff.mp (List.mem_cons_self)) with h | h
      · exact h
      · rcases List.mem_cons.mp (p.mem_iff.mpr (List.mem_cons_self (a := y) (l := b))) with h2 | h2
        · exact h2.symm
        · exact List.le_antisymm (List.not_lt.mp (a1 y h2)) (List.not_lt.mp (b1 x h))
    subst e
    rw [sort_unique (List.Perm.cons_inv p) a2 b2]
def rSortedA (K : PySem.W.Frag) : List V → Hp → VK → Prop := fun vs H Q => ∃ (a : Addr) (xs : List Str), vs = [V.ref a] ∧ SqL K H a (xs.map V.str) ∧ xs.length ≤ sizeLine ∧
  ∀ (ys : List Str) (p : Addr), ys.Perm xs → sortedS ys = true → H p = none → Q (.ref p) (upd H p (.lst (ys.map V.str)))
theorem cr_sortedA {X : Cx} : CallR X (.builtin "sorted") (rSortedA X.K) := by
  intro pins s σ H vs us Q I r h
  obtain ⟨a, xs, rfl, hs, h64, q⟩ := h
  obtain ⟨its, rv, hl, _⟩ := I.list hs
  rw [Vals.ref1 r]
  have hlen0 := rv.length
  rw [List.length_map] at hlen0
  refine PyProof.Rows.sorted_strsAny hl.isList rv.strs (by rw [← hlen0]; exact h64) fun out ys h1 h2 h3 => ?_
  obtain ⟨ep, he'⟩ := PyProof.Rows.sortedAll_at s.heap its out
  have hlen : (ys.map V.str).length ≤ sizeLine := by rw [List.length_map, h2.length_eq]; exact h64
  exact ⟨.ref _, upd H (s.heap.objs.size + 1) (.lst (ys.map V.str)), I.laid (t' := s.toks) (fun _ _ => PyProof.Rows.sortedAll_old) (Nat.le_succ _) ⟨hlen, out.toList, ep, vals_of_strs h1, he'⟩, rfl, q ys _ h2 h3 (I.hok.fresh (Nat.le_succ _))⟩
theorem s_sorted {k : Kn} : CallS k (rSortedA k.K) fSorted := by
  intro Hk F H σ env vs ds o Q w rs e q
  unfold fSorted at e
  split at e
  · split at e
    · rename_i ds' ss hss
      split at e
      · rename_i hl
        cases e
        obtain ⟨v, rfl, r⟩ := rs.one
        obtain ⟨p, xs, rfl, h3, r1⟩ := r.lst w.ex
        obtain ⟨h4, h5⟩ := strs_V r1 hss
        subst h4
        refine ⟨p, ss.map S, rfl, SqL.of h3, by rw [List.length_map]; exact lim hl, fun ys l py sy hl => ?_⟩
        have e1 : ys.map (fun z => z.cps.toList) = sortL ss := by
          refine sort_unique ?_ (sortedS_pw ys sy) (sortL_sorted ss)
          refine (py.map _).trans ?_
          rw [List.map_map]
          have : (ss.map ((fun z : Str => z.cps.toList) ∘ S)) = ss := by
            rw [show ((fun z : Str => z.cps.toList) ∘ S) = id from funext fun a => S_cps a, List.map_id]
          rw [this]
          exact (sortL_perm ss).symm
        have e2 : ys = (sortL ss).map S := by
          rw [← e1, List.map_map, show (S ∘ fun z : Str => z.cps.toList) = id from funext fun a => S_toList a, List.map_id]
        subst e2
        exact q _ Hk _ (Ex.refl _) (Wl.newL w hl (rp_strs fun s hs => h5 s ((sortL_perm ss).mem_iff.mp hs)))
      · cases e
    · cases e
  · cases e
end SW

/-! cuts, texts joined, isinstance -/
namespace SW
open PySem L2 PyProof.Rows

abbrev MO := Env → R (Option Int × Env)
def WantO (k : Kn) (W : WX) (Hk F : Hp) (σ : L2.St) (r : R (Option Int × Env)) (Q : Option Int → Hp → Prop) : Prop := match r with
  | .ok (b, env') => ∀ Hk' H', Ex Hk Hk' → Wd k Hk' F H' σ env' → Q b H'
  | .exc c fs env' => ∀ cls dd Hk' H', Ex Hk Hk' → Wd k Hk' F H' σ env' → XcOk k Hk' H' c fs cls dd → W cls dd σ H'
  | .stuck => False
def tMO (k : Kn) (W : WX) (m : MO) : TO := fun σ H Q => ∃ Hk F env, Wd k Hk F H σ env ∧ WantO k W Hk F σ (m env) Q
def mNoPart : MO := fun env => .ok (none, env)
def intD : D → Option Int
  | .int i => some i
  | _ => none
def mPart (m : ME) : MO := fun env => R.bind (m env) fun p => match (rd p.2 p.1).bind intD with
  | some i => .ok (some i, p.2)
  | none => .stuck
/-- a cut of a list -/
def cutL {α : Type} (xs : List α) (lo hi : Option Int) : List α := (xs.drop (HT.sIx xs.length 0 lo)).take (HT.sIx xs.length xs.length hi - HT.sIx xs.length 0 lo)
def fCut (d : D) (lo hi : Option Int) : Option O := match d with
  | .lst ds => some (.lst (cutL ds lo hi))
  | .tup ds => some (.val (.tup (cutL ds lo hi)))
  | .str s => if s.length ≤ LIM then some (.val (.str (cutL s lo hi))) else none
  | _ => none
def mCut (m : ME) (lo hi : MO) : ME := fun env => R.bind (m env) fun p => R.bind (lo p.2) fun q => R.bind (hi q.2) fun r => ofO r.2 ((rd r.2 p.1).bind fun d => fCut d q.1 r.1)
section
variable {k : Kn} {W : WX} {Hk F H : Hp} {σ : L2.St} {env : Env} {Q : VK} {vs : List V} {xs : List Vr}
theorem WantO.bad {r : R (Option Int × Env)} {Q : Option Int → Hp → Prop} (h : WantO k W Hk F σ r Q) : Bad k W Hk F σ r := by
  cases r with
  | ok p => exact ⟨(fun _ _ _ e => nomatch e), fun e => nomatch e⟩
  | exc c fs e' =>
    refine ⟨fun c2 f2 e2 e => ?_, fun e => nomatch e⟩
    cases e
    exact h
  | stuck => exact h.elim
theorem WantO.mono {Hk1 : Hp} {r : R (Option Int × Env)} {Q : Option Int → Hp → Prop} (h : WantO k W Hk F σ r Q) (e : Ex Hk Hk1) : WantO k W Hk1 F σ r Q := by
  cases r with
  | ok p => exact fun Hk' H' ex w => h Hk' H' (e.trans ex) w
  | exc c fs e' => exact fun cls dd Hk' H' ex w x => h cls dd Hk' H' (e.trans ex) w x
  | stuck => exact h
theorem seqO {m : MO} {β : Type} {f : Option Int × Env → R β} {Kt : Option Int → Hp → Prop} (w : Wl k Hk F H σ env vs xs)
    (hx : ∀ c fs e', R.bind (m env) f = .exc c fs e' → ∀ cls dd Hk' H', Ex Hk Hk' → Wd k Hk' F H' σ e' → XcOk k Hk' H' c fs cls dd → W cls dd σ H') (hs : R.bind (m env) f ≠ .stuck)
    (hk : ∀ b env' Hk' H', m env = .ok (b, env') → Ex Hk Hk' → Wl k Hk' F H' σ env' vs xs → Kt b H') : tMO k W m σ H Kt := by
  obtain ⟨F2, w2, back⟩ := w.aside
  refine ⟨Hk, F2, env, w2, ?_⟩
  cases e : m env with
  | stuck =>
    rw [e] at hs
    exact absurd rfl hs
  | exc c fs e' =>
    rw [e] at hx
    intro cls dd Hk' H' ex w' xc
    exact hx c fs e' rfl cls dd Hk' H' ex (back Hk' H' e' [] [] ex (Wl.nil w')).base xc
  | ok p =>
    obtain ⟨b, env'⟩ := p
    intro Hk' H' ex w'
    exact hk b env' Hk' H' e ex (by simpa using back Hk' H' env' [] [] ex (Wl.nil w'))
theorem tMO_no {Q : Option Int → Hp → Prop} (h : tMO k W mNoPart σ H Q) : tNoPart σ H Q := by
  obtain ⟨Hk, F, env, w, h⟩ := h
  exact h Hk H (Ex.refl _) w
theorem tMO_part {m : ME} {Q : Option Int → Hp → Prop} (h : tMO k W (mPart m) σ H Q) : tPart (tM k W m) σ H Q := by
  obtain ⟨Hk, F, env, w, h⟩ := h
  have b := h.bad
  refine seqE (Wl.nil w) b.exc b.ns fun x e1 v Hk1 H1 m1 ex1 w1 => ?_
  unfold mPart at h
  rw [m1] at h
  have h1 := WantO.mono h ex1
  rw [R.bind_ok] at h1
  simp only at h1
  split at h1
  · rename_i i hi
    obtain ⟨d, h2, h3⟩ := Option.bind_eq_some_iff.mp hi
    cases d with
    | int j =>
      cases h3
      exact ⟨_, (w1.rdN (j := 0) rfl rfl h2).int, h1 Hk1 H1 (Ex.refl _) w1.base⟩
    | _ => cases h3
  · exact h1.elim
def rCut (K : PySem.W.Frag) : V → Option Int → Option Int → Hp → VK → Prop := fun x lo hi H Q => rSlL K x lo hi H Q ∨ rSlA K x lo hi H Q ∨ rSlS x lo hi H Q
theorem sl_any {X : Cx} : SlR X (rCut X.K) := sl_list.or (sl_tupA.or sl_str)
theorem RpAll.drop : ∀ {vs : List V} {ds : List D} (n : Nat), RpAll k H vs ds → RpAll k H (vs.drop n) (ds.drop n)
  | _, _, 0, r => r
  | _, _, _ + 1, .nil => .nil
  | _, _, n + 1, .cons _ r => RpAll.drop n r
theorem RpAll.take : ∀ {vs : List V} {ds : List D} (n : Nat), RpAll k H vs ds → RpAll k H (vs.take n) (ds.take n)
  | _, _, 0, _ => .nil
  | _, _, _ + 1, .nil => .nil
  | _, _, n + 1, .cons h r => .cons h (RpAll.take n r)
theorem RpAll.cut {vs : List V} {ds : List D} {lo hi : Option Int} (r : RpAll k H vs ds) : RpAll k H (cutV vs lo hi) (cutL ds lo hi) := by
  unfold cutV cutL
  rw [r.len]
  exact (r.drop _).take _
theorem cutL_mem {α : Type} {xs : List α} {lo hi : Option Int} {c : α} (h : c ∈ cutL xs lo hi) : c ∈ xs := List.mem_of_mem_drop (List.mem_of_mem_take h)
theorem cutS_S (s : List Nat) (lo hi : Option Int) : cutS (S s) lo hi = S (cutL s lo hi) := by
  unfold cutS cutL S
  rfl
theorem s_cut {x : V} {d : D} {o : O} {lo hi : Option Int} (w : Wd k Hk F H σ env) (r : RpN k Hk H x d) (e : fCut d lo hi = some o) (q : ∀ v Hk' H', Ex Hk Hk' → Wl k Hk' F H' σ env [v] [.ob o] → Q v H') : rCut k.K x lo hi H Q := by
  unfold fCut at e
  split at e
  · cases e
    obtain ⟨p, xs, rfl, h3, r1⟩ := r.lst w.ex
    exact .inl ⟨p, xs, rfl, SqL.of h3, fun l hl => q _ Hk _ (Ex.refl _) (Wl.newL w hl r1.cut)⟩
  · rename_i ds
    cases e
    obtain ⟨p, xs, rfl, h3, r1⟩ := r.tup w.ex
    refine .inr (.inl ⟨p, xs, rfl, SqT.of (w.ex _ _ h3), fun ⟨a, b⟩ => ?_, fun _ l hl => ?_⟩)
    · have e1 : cutL ds lo hi = ds := by
        unfold cutL
        rw [← r1.len, a, b]
        simp only [List.drop_zero, Nat.sub_zero]
        rw [r1.len, List.take_length]
      rw [e1] at q
      exact q _ Hk H (Ex.refl _) (Wl.val w (.tup h3 r1))
    · obtain ⟨e1, w1⟩ := Wl.newT w hl r1.cut
      exact q _ _ _ e1 w1
  · split at e
    · rename_i hl
      cases e
      obtain ⟨rfl, ka⟩ := r.str
      refine .inr (.inr ⟨_, rfl, by rw [S_len]; exact lim hl, ?_⟩)
      rw [cutS_S]
      exact q _ Hk H (Ex.refl _) (Wl.val w (.str _ (okS_sub ka fun c hc => cutL_mem hc)))
    · cases e
  · cases e
theorem tM_cut {m : ME} {lo hi : MO} (h : tM k W (mCut m lo hi) σ H Q) : tSl (rCut k.K) (tM k W m) (tMO k W lo) (tMO k W hi) σ H Q := by
  obtain ⟨Hk, F, env, w, h⟩ := h
  have b := h.bad
  refine seqE (Wl.nil w) b.exc b.ns fun x e1 v Hk1 H1 m1 ex1 w1 => ?_
  unfold mCut at h
  rw [m1] at h
  have h1 := WantE.mono h ex1
  have b := h1.bad
  refine seqO w1 b.exc b.ns fun i e2 Hk2 H2 m2 ex2 w2 => ?_
  rw [R.bind_ok] at h1
  simp only at h1
  rw [m2] at h1
  have h2 := WantE.mono h1 ex2
  have b := h2.bad
  refine seqO w2 b.exc b.ns fun j e3 Hk3 H3 m3 ex3 w3 => ?_
  rw [R.bind_ok] at h2
  simp only at h2
  rw [m3] at h2
  have h3 := WantE.mono h2 ex3
  rw [R.bind_ok] at h3
  simp only at h3
  have w3 : Wl k Hk3 F H3 σ e3 [v] [x] := w3
  cases e : (rd e3 x).bind fun d => fCut d i j with
  | none => rw [e] at h3; exact h3.elim
  | some o =>
    rw [e] at h3
    obtain ⟨d, h4, h5⟩ := Option.bind_eq_some_iff.mp e
    exact s_cut w3.base (w3.rdN (j := 0) rfl rfl h4) h5 h3
end

/-! ### a[::-1] -/
def fRev : D → Option O
  | .lst ds => some (.lst ds.reverse)
  | .str s => if s.length ≤ LIM then some (.val (.str s.reverse)) else none
  | _ => none
def ap1 (f : D → Option O) : Option D → Option O
  | some a => f a
  | none => none
def mOp1 (f : D → Option O) (m : ME) : ME := fun env => R.bind (m env) fun p => ofO p.2 (ap1 f (rd p.2 p.1))
def UnS (k : Kn) (r : V → Hp → VK → Prop) (f : D → Option O) : Prop := ∀ {Hk F H : Hp} {σ : L2.St} {env : Env} {x : V} {a : D} {o : O} {Q : VK}, Wd k Hk F H σ env → RpN k Hk H x a → f a = some o →
  (∀ v Hk' H', Ex Hk Hk' → Wl k Hk' F H' σ env [v] [.ob o] → Q v H') → r x H Q
theorem tM_op1 {k : Kn} {W : WX} {r : V → Hp → VK → Prop} {f : D → Option O} {m : ME} (hs : UnS k r f) {σ : L2.St} {H : Hp} {Q : VK} (h : tM k W (mOp1 f m) σ H Q) : tUn r (tM k W m) σ H Q := by
  obtain ⟨Hk, F, env, w, h⟩ := h
  have b := h.bad
  refine seqE (Wl.nil w) b.exc b.ns fun x e1 v Hk1 H1 m1 ex1 w1 => ?_
  unfold mOp1 at h
  rw [m1] at h
  have h1 := WantE.mono h ex1
  rw [R.bind_ok] at h1
  simp only at h1
  cases e : rd e1 x with
  | none => rw [e] at h1; exact h1.elim
  | some d =>
    rw [e] at h1
    cases e2 : f d with
    | none => simp only [ap1, e2] at h1; exact h1.elim
    | some o =>
      simp only [ap1, e2] at h1
      exact hs w1.base (w1.rdN (j := 0) rfl rfl e) e2 h1
def fNeg : D → Option O
  | .int i => some (.val (.int (-i)))
  | _ => none
theorem s_neg {k : Kn} : UnS k (rU fun i => .int (-i)) fNeg := by
  intro Hk F H σ env x a o Q w ra e q
  unfold fNeg at e
  split at e
  · cases e
    cases ra.int
    exact ⟨_, rfl, q _ Hk H (Ex.refl _) (Wl.val w (.int _))⟩
  · cases e
def rRevA (K : PySem.W.Frag) : V → Hp → VK → Prop := fun x H1 Q => (∃ a xs, x = .ref a ∧ SqL K H1 a xs ∧ ∀ p, H1 p = none → Q (.ref p) (upd H1 p (.lst xs.reverse))) ∨ ∃ z : Str, x = .str z ∧ z.length ≤ sizeLine ∧ Q (.str (S z.cps.toList.reverse)) H1
theorem rev_S (z : Str) (u : Tok) : Txt.sliceBy z none none (-1, u) = S z.cps.toList.reverse := by
  have h := step_rev_list z u
  have e : ((List.range z.length).map fun k => z.cps.getD (z.length - 1 - k) 0) = z.cps.toList.reverse := by
    apply List.ext_getElem
    · simp [Str.length]
    · intro i h1 h2
      have hi : i < z.cps.size := by simpa [Str.length] using h1
      simp [Str.length, Array.getD]
      have : z.cps.size - 1 - i < z.cps.size := by omega
      simp [this]
  rw [e] at h
  have := congrArg S h
  rwa [S_toList] at this
theorem pe_rev {X : Cx} {e : Expr} {te : TE} {k : Nat} {p1 p2 p3 pos : Pos} (he : PE X e te) : PE X (.Subscript e (.Slice none none (some (.UnaryOp .USub (.Constant (.int 1) k p1) p2)) p3) pos) (tUn (rRevA X.K) te) := by
  refine ⟨fun pins s σ H Q I h => ?_⟩
  refine Subscript_ (thn (he.run pins s σ H _ I h) fun v s1 ⟨x, H1, I1, r1, q1⟩ => ?_)
  have hst : PO X (some (.UnaryOp .USub (.Constant (.int 1) k p1) p2)) (tPart (tUn (rU fun i => .int (-i)) (tC (.int 1)))) := po_some (pe_un un_neg pe_int)
  refine wpAny_Slice (thn (po_none.run pins s1 σ H1 (fun o H2 => o = none ∧ H2 = H1) I1 ⟨rfl, rfl⟩) fun vl s2 ⟨l, H2, I2, pl, el, e2⟩ => ?_)
  subst el e2
  refine thn (po_none.run pins s2 σ H2 (fun o H3 => o = none ∧ H3 = H2) I2 ⟨rfl, rfl⟩) fun vu s3 ⟨u, H3, I3, pu, eu, e3⟩ => ?_
  subst eu e3
  refine thn (hst.run pins s3 σ H3 (fun o H4 => o = some (-1) ∧ H4 = H3) I3 ⟨1, rfl, -1, rfl, rfl, rfl⟩) fun vs s4 ⟨o, H4, I4, ps, eo, e4⟩ => ?_
  subst eo e4
  have I5 : Inv X pins σ H4 { s4 with heap := s4.heap.push { cls := .type "slice", data := .fields #[vl, vu, vs] } } := I4.kept (t' := s4.toks) fun b ob q => Heap.get?_push_of_some _ q
  rcases q1 with ⟨a, xs, ex, hx, q⟩ | ⟨z, ex, hz, q⟩
  · subst ex
    cases r1
    obtain ⟨its, r, ht, hz⟩ := I5.list hx
    have hlen := r.length
    show wpAny (model X.prog X.w) X.A (subscriptTail e (.Slice none none (some (.UnaryOp .USub (.Constant (.int 1) k p1) p2)) p3) (.ref a) (.ref s4.heap.objs.size)) (EP X pins σ Q) X.xe { s4 with heap := s4.heap.push { cls := .type "slice", data := .fields #[vl, vu, vs] } }
    refine tail_any (ops := [.ref a, .ref s4.heap.objs.size]) ht.isList.typeIs (PySem.slot_list_getitem.lookup) ?_ (by with_unfolding_all rfl)
    refine wpAny_getItem_list_slice ht.isList (Heap.IsSliceOf.new _ vl vu vs) pl pu ps (by decide) ?_ (by rw [List.size_toArray]; omega)
    rw [PySem.W.krv_pick]
    refine ⟨.ref _, _, I5.laid (t' := s4.toks) (o := .lst xs.reverse) (fun b ob q => Heap.get?_push_of_some _ q) (Nat.le_refl _) ?_, rfl, q _ (I5.hok.fresh (Nat.le_refl _))⟩
    exact ⟨by rw [List.length_reverse]; exact hz, _, 0, r.reverse, Heap.get?_push_size _ rfl⟩
  · subst ex
    obtain ⟨t, rfl⟩ := r1
    cases pl
    cases pu
    cases ps with
    | int i tk =>
      show wpAny (model X.prog X.w) X.A (subscriptTail e (.Slice none none (some (.UnaryOp .USub (.Constant (.int 1) k p1) p2)) p3) (.str z t) (.ref s4.heap.objs.size)) (EP X pins σ Q) X.xe { s4 with heap := s4.heap.push { cls := .type "slice", data := .fields #[.none, .none, .int (-1) tk] } }
      refine tail_any (ops := [.str z t, .ref s4.heap.objs.size]) (typeIs_str _ z t) (PySem.F.slot_str_getitem.lookup) ?_ (by with_unfolding_all rfl)
      refine wpAny_getItem_str_slice (l := none) (u := none) (st := some (-1, tk)) (Heap.IsSliceOf.new _ .none .none (.int (-1) tk)) rfl ?_
      have hr := rev_S z tk
      have hl : (Txt.sliceBy z none none (-1, tk)).length ≤ sizeLine := by rw [step_rev_len]; exact hz
      unfold Txt.sliceBy slicePicked at hr hl
      unfold sliceMade slicePicked
      have hc : ¬ ((((some ((-1 : Int), tk)).map (·.1)).getD 1 == 1 && (Builtin.Str.strSliceIndices ((none : Option (Int × Tok)).map (·.1)) ((none : Option (Int × Tok)).map (·.1)) (((some ((-1 : Int), tk)).map (·.1)).getD 1) z.length).length == z.length) = true) := by
        have : (((some ((-1 : Int), tk)).map (·.1)).getD 1 == 1) = false := rfl
        rw [this]; simp
      rw [if_neg hc] at hr hl ⊢
      exact ⟨hl, .str _, _, I5.tok _, ⟨_, rfl⟩, by rw [hr]; exact q⟩
theorem s_rev {k : Kn} : UnS k (rRevA k.K) fRev := by
  intro Hk F H σ env x a o Q w ra e q
  unfold fRev at e
  split at e
  · cases e
    obtain ⟨p, xs, rfl, h3, r1⟩ := ra.lst w.ex
    refine .inl ⟨p, xs, rfl, SqL.of h3, fun l hl => q _ Hk _ (Ex.refl _) (Wl.newL w hl ?_)⟩
    have rv : ∀ {vs : List V} {ds : List D}, RpAll k Hk vs ds → RpAll k Hk vs.reverse ds.reverse := by
      intro vs
      induction vs with
      | nil => intro ds r; cases r; exact .nil
      | cons v vs ih =>
        intro ds r
        cases r with
        | cons h r =>
          rw [List.reverse_cons, List.reverse_cons]
          exact (ih r).append (.cons h .nil)
    exact rv r1
  · split at e
    · rename_i hl
      cases e
      obtain ⟨rfl, ka⟩ := ra.str
      refine .inr ⟨_, rfl, by rw [S_len]; exact lim hl, ?_⟩
      rw [S_cps]
      exact q _ Hk H (Ex.refl _) (Wl.val w (.str _ (okS_sub ka fun c hc => by simpa using hc)))
    · cases e
  · cases e
end SW

/-! zip of any two sources: lists, tuples, texts -/
namespace SWZ
open PySem
open PySem.Sem (wp)

abbrev itObj (ty : String) (u : Value) : Obj := { cls := .type ty, data := .fields #[u, .int 0 0] }
/-- what an iterator's own steps do -/
structure Nx (prog : Program) (w : World) (it : Addr) (n : Nat) (St : Nat → Heap → Prop) (Lv : Heap → Prop) (Is : Nat → Value → Prop) (src : Option Addr) : Prop where
  item : ∀ {A : Around} {E : Value → Shared → Prop} {s : Shared} {i : Nat} {Q : Value → Shared → Prop}, St i s.heap → Lv s.heap → i < n →
    (∀ h' tk v, Is i v → St (i + 1) h' → Heap.SameBut it s.heap h' → Q v { s with heap := h', toks := tk }) → wpAny (model prog w) A (Builtin.SmallTypes.nextOf (.ref it)) Q E s
  stop : ∀ {A : Around} {E : Value → Shared → Prop} {s : Shared} {i : Nat} {Q : Value → Shared → Prop}, A.handled = none → St i s.heap → Lv s.heap → n ≤ i →
    (∀ h' e, Heap.ExtBut it s.heap h' → (∃ o, h'.get? e = some o ∧ o.cls = .type "StopIteration") → E (.ref e) { s with heap := h' }) → wpAny (model prog w) A (Builtin.SmallTypes.nextOf (.ref it)) Q E s
  st : ∀ {i : Nat} {h h' : Heap}, St i h → (∀ o, h.get? it = some o → h'.get? it = some o) → St i h'
  there : ∀ {i : Nat} {h : Heap}, St i h → ∃ o, h.get? it = some o
  lv : ∀ {h h' : Heap}, Lv h → (∀ a o, src = some a → h.get? a = some o → h'.get? a = some o) → Lv h'

structure Apart (z TI TO i1 i2 : Addr) (src1 src2 : Option Addr) : Prop where
  TIz : TI ≠ z
  TOz : TO ≠ z
  i1z : i1 ≠ z
  i2z : i2 ≠ z
  TITO : TI ≠ TO
  TIi1 : TI ≠ i1
  TIi2 : TI ≠ i2
  TOi1 : TO ≠ i1
  TOi2 : TO ≠ i2
  i12 : i1 ≠ i2
  s1 : ∀ a, src1 = some a → a ≠ z ∧ a ≠ TO ∧ a ≠ i1 ∧ a ≠ i2
  s2 : ∀ a, src2 = some a → a ≠ z ∧ a ≠ TO ∧ a ≠ i1 ∧ a ≠ i2

section
variable {prog : Program} {w : World} {A : Around} {E : Value → Shared → Prop} {s : Shared}
variable {z TI TO i1 i2 : Addr} {n1 n2 i : Nat} {St1 St2 : Nat → Heap → Prop} {Lv1 Lv2 : Heap → Prop} {Is1 Is2 : Nat → Value → Prop} {src1 src2 : Option Addr} {a b : Value}
theorem next_item {Q : Value → Shared → Prop} (D : Apart z TI TO i1 i2 src1 src2) (N1 : Nx prog w i1 n1 St1 Lv1 Is1 src1) (N2 : Nx prog w i2 n2 St2 Lv2 Is2 src2)
    (hz : IsZip s.heap z TI TO .none) (hTI : IsPair s.heap TI (.ref i1) (.ref i2)) (hTO : IsPair s.heap TO a b)
    (h1 : St1 i s.heap) (h2 : St2 i s.heap) (hl1 : Lv1 s.heap) (hl2 : Lv2 s.heap) (hx : i < n1) (hy : i < n2)
    (hQ : ∀ h' tk x y, Is1 i x → Is2 i y → IsZip h' z TI TO (rawInt s.heap.objs.size) → IsPair h' TO x y → St1 (i + 1) h' → St2 (i + 1) h' → IsPair h' s.heap.objs.size x y → h'.objs.size = s.heap.objs.size + 1 →
      (∀ c o, c ≠ z → c ≠ TO → c ≠ i1 → c ≠ i2 → s.heap.get? c = some o → h'.get? c = some o) → Q (.ref s.heap.objs.size) { s with heap := h', toks := tk }) :
    wpAny (model prog w) A (Builtin.«zip.__next__» ⟨[.ref z], []⟩) (fun fin s' => ∃ v, fin = .done (.ret v) ∧ Q v s') E s := by
  show wpAny _ _ (field (.ref z) 2 >>= _) _ _ _
  refine wpAny_bind (wpAny_field hz rfl (x := .bool false) rfl ?_)
  show wpAny _ _ (field (.ref z) 3 >>= _) _ _ _
  refine wpAny_bind (wpAny_field hz rfl (x := .ref TI) rfl ?_)
  refine wpAny_bind (wpAny_seqItems hTI rfl ?_)
  show wpAny _ _ (Builtin.SmallTypes.ownedTupleIsFree (.ref z) >>= _) _ _ _
  refine wpAny_bind ?_
  unfold Builtin.SmallTypes.ownedTupleIsFree
  refine wpAny_bind (wpAny_field hz rfl (x := .none) rfl (wpAny_pure ?_))
  simp only [if_true]
  refine wpAny_bind (wpAny_rule ?_)
  refine wpAny_bind (wpAny_field hz rfl (x := .ref TO) rfl ?_)
  refine wpAny_bind (wpAny_setField_rec hz (by simp) fun h₁ hz₁ hs₁ => ?_)
  replace hz₁ : IsZip h₁ z TI TO .ellipsis := hz₁
  refine wpAny_bind ?_
  simp only [List.zipIdx_cons, List.zipIdx_nil, List.forIn_cons, List.forIn_nil]
  refine wpAny_bind (wpAny_bind (wpAny_onRaise ?_))
  show wpAny _ _ (Builtin.SmallTypes.nextOf (.ref i1) >>= _) _ _ _
  have e1 : ∀ c o, c ≠ z → s.heap.get? c = some o → h₁.get? c = some o := fun c o c1 e => hs₁.extBut _ _ c1 e
  refine wpAny_bind (N1.item (N1.st h1 fun o => e1 _ o D.i1z) (N1.lv hl1 fun a o q => e1 a o (D.s1 a q).1) hx fun h₂ tk2 x hix h1₂ hs₂ => wpAny_pure ?_)
  have e2 : ∀ c o, c ≠ z → c ≠ i1 → s.heap.get? c = some o → h₂.get? c = some o := fun c o c1 c2 e => hs₂.extBut _ _ c2 (e1 c o c1 e)
  have hTO₂ : IsPair h₂ TO a b := e2 _ _ D.TOz D.TOi1 hTO
  refine wpAny_bind (wpAny_seqItems hTO₂ rfl ?_)
  refine wpAny_bind (wpAny_updateSeq_pair hTO₂ fun h₃ hTO₃ hs₃ => ?_)
  replace hTO₃ : IsPair h₃ TO x b := hTO₃
  refine wpAny_bind (wpAny_letGo (wpAny_pure ?_))
  have e3 : ∀ c o, c ≠ z → c ≠ i1 → c ≠ TO → s.heap.get? c = some o → h₃.get? c = some o := fun c o c1 c2 c3 e => hs₃.extBut _ _ c3 (e2 c o c1 c2 e)
  refine wpAny_bind (wpAny_bind (wpAny_onRaise ?_))
  show wpAny _ _ (Builtin.SmallTypes.nextOf (.ref i2) >>= _) _ _ _
  refine wpAny_bind (N2.item (N2.st h2 fun o => e3 _ o D.i2z D.i12.symm D.TOi2.symm) (N2.lv hl2 fun a o q => e3 a o (D.s2 a q).1 (D.s2 a q).2.2.1 (D.s2 a q).2.1) hy fun h₄ tk4 y hiy h2₄ hs₄ => wpAny_pure ?_)
  have hTO₄ : IsPair h₄ TO x b := hs₄.extBut _ _ D.TOi2 hTO₃
  refine wpAny_bind (wpAny_seqItems hTO₄ rfl ?_)
  refine wpAny_bind (wpAny_updateSeq_pair hTO₄ fun h₅ hTO₅ hs₅ => ?_)
  replace hTO₅ : IsPair h₅ TO x y := hTO₅
  refine wpAny_bind (wpAny_letGo (wpAny_pure (wpAny_pure ?_)))
  refine wpAny_bind (wpAny_seqItems hTO₅ rfl ?_)
  refine wpAny_bind (wpAny_newTuple ?_)
  have hsz : h₅.objs.size = s.heap.objs.size := by rw [hs₅.1, hs₄.1, hs₃.1, hs₂.1, hs₁.1]
  have hk₅ : ∀ c o, c ≠ z → c ≠ TO → c ≠ i1 → c ≠ i2 → s.heap.get? c = some o → h₅.get? c = some o := fun c o c1 c2 c3 c4 e =>
    hs₅.extBut _ _ c2 (hs₄.extBut _ _ c4 (e3 c o c1 c3 c2 e))
  have hz₅ : IsZip h₅ z TI TO .ellipsis := hs₅.extBut _ _ D.TOz.symm (hs₄.extBut _ _ D.i2z.symm (hs₃.extBut _ _ D.TOz.symm (hs₂.extBut _ _ D.i1z.symm hz₁)))
  have h1₅ : St1 (i + 1) h₅ := N1.st h1₂ fun o e => hs₅.extBut _ _ D.TOi1.symm (hs₄.extBut _ _ D.i12 (hs₃.extBut _ _ D.TOi1.symm e))
  have h2₅ : St2 (i + 1) h₅ := N2.st h2₄ fun o e => hs₅.extBut _ _ D.TOi2.symm e
  have hzlt : z < h₅.objs.size := Heap.lt_size hz₅
  show wpAny _ _ (Builtin.SmallTypes.ownedTupleHandOut (.ref z) (.ref h₅.objs.size) >>= _) _ _ _
  refine wpAny_bind ?_
  unfold Builtin.SmallTypes.ownedTupleHandOut
  have hz₆ : IsZip (h₅.push { cls := .type "tuple", data := .seq #[x, y] }) z TI TO .ellipsis := Heap.get?_push_of_some _ hz₅
  refine wpAny_bind (wpAny_setField_rec hz₆ (by simp) fun h₇ hz₇ hs₇ => ?_)
  replace hz₇ : IsZip h₇ z TI TO (rawInt h₅.objs.size) := hz₇
  refine wpAny_setField_rec hz₇ (by simp) fun h₈ hz₈ hs₈ => ?_
  replace hz₈ : IsZip h₈ z TI TO (rawInt h₅.objs.size) := hz₈
  have up : ∀ c o, c ≠ z → h₅.get? c = some o → h₈.get? c = some o := fun c o c1 e => hs₈.extBut _ _ c1 (hs₇.extBut _ _ c1 (Heap.get?_push_of_some _ e))
  have hT₈ : IsPair h₈ h₅.objs.size x y := hs₈.extBut _ _ (Nat.ne_of_gt hzlt) (hs₇.extBut _ _ (Nat.ne_of_gt hzlt) (Heap.get?_push_size _ rfl))
  have hz8 : h₈.objs.size = h₅.objs.size + 1 := by rw [hs₈.1, hs₇.1, Heap.size_push]
  rw [hsz] at hz₈ hT₈ hz8
  refine wpAny_pure ⟨_, rfl, ?_⟩
  show Q (.ref h₅.objs.size) _
  rw [hsz]
  exact hQ h₈ _ x y hix hiy hz₈ (up _ _ D.TOz hTO₅) (N1.st h1₅ fun o e => up _ o D.i1z e) (N2.st h2₅ fun o e => up _ o D.i2z e) hT₈ hz8 fun c o c1 c2 c3 c4 e => up c o c1 (hk₅ c o c1 c2 c3 c4 e)

theorem next_end {Q : Fin → Shared → Prop} (hh : A.handled = none) (D : Apart z TI TO i1 i2 src1 src2) (N1 : Nx prog w i1 n1 St1 Lv1 Is1 src1) (N2 : Nx prog w i2 n2 St2 Lv2 Is2 src2)
    (hz : IsZip s.heap z TI TO .none) (hTI : IsPair s.heap TI (.ref i1) (.ref i2)) (hTO : IsPair s.heap TO a b)
    (h1 : St1 i s.heap) (h2 : St2 i s.heap) (hl1 : Lv1 s.heap) (hl2 : Lv2 s.heap) (hend : n1 ≤ i ∨ n2 ≤ i)
    (hE : ∀ h' tk e, (∀ c o, c ≠ z → c ≠ TO → c ≠ i1 → c ≠ i2 → s.heap.get? c = some o → h'.get? c = some o) → (∃ o, h'.get? e = some o ∧ o.cls = .type "StopIteration") → E (.ref e) { s with heap := h', toks := tk }) :
    wpAny (model prog w) A (Builtin.«zip.__next__» ⟨[.ref z], []⟩) Q E s := by
  show wpAny _ _ (field (.ref z) 2 >>= _) _ _ _
  refine wpAny_bind (wpAny_field hz rfl (x := .bool false) rfl ?_)
  show wpAny _ _ (field (.ref z) 3 >>= _) _ _ _
  refine wpAny_bind (wpAny_field hz rfl (x := .ref TI) rfl ?_)
  refine wpAny_bind (wpAny_seqItems hTI rfl ?_)
  show wpAny _ _ (Builtin.SmallTypes.ownedTupleIsFree (.ref z) >>= _) _ _ _
  refine wpAny_bind ?_
  unfold Builtin.SmallTypes.ownedTupleIsFree
  refine wpAny_bind (wpAny_field hz rfl (x := .none) rfl (wpAny_pure ?_))
  simp only [if_true]
  refine wpAny_bind (wpAny_rule ?_)
  refine wpAny_bind (wpAny_field hz rfl (x := .ref TO) rfl ?_)
  refine wpAny_bind (wpAny_setField_rec hz (by simp) fun h₁ hz₁ hs₁ => ?_)
  replace hz₁ : IsZip h₁ z TI TO .ellipsis := hz₁
  refine wpAny_bind ?_
  simp only [List.zipIdx_cons, List.zipIdx_nil, List.forIn_cons, List.forIn_nil]
  refine wpAny_bind (wpAny_bind (wpAny_onRaise ?_))
  show wpAny _ _ (Builtin.SmallTypes.nextOf (.ref i1) >>= _) _ _ _
  have e1 : ∀ c o, c ≠ z → s.heap.get? c = some o → h₁.get? c = some o := fun c o c1 e => hs₁.extBut _ _ c1 e
  have g1 : St1 i h₁ := N1.st h1 fun o => e1 _ o D.i1z
  have gl1 : Lv1 h₁ := N1.lv hl1 fun a o q => e1 a o (D.s1 a q).1
  by_cases hx : n1 ≤ i
  · refine wpAny_bind (N1.stop (s := { s with heap := h₁ }) (by first | exact hh | exact (show A.in1.handled = none from hh)) g1 gl1 hx fun h₂ e hs₂ he => ?_)
    obtain ⟨oe, hoe, hce⟩ := he
    have hz₂ : IsZip h₂ z TI TO .ellipsis := hs₂ _ _ D.i1z.symm hz₁
    have hez : e ≠ z := fun x => by subst x; rw [hz₂] at hoe; cases hoe; simp at hce
    refine wpAny_setField_rec hz₂ (by simp) fun h₃ _ hs₃ => hE h₃ _ e (fun c o c1 _ c3 _ x => hs₃.extBut _ _ c1 (hs₂ _ _ c3 (e1 c o c1 x))) ⟨oe, hs₃.extBut _ _ hez hoe, hce⟩
  · have hy : n2 ≤ i := hend.resolve_left hx
    refine wpAny_bind (N1.item g1 gl1 (Nat.lt_of_not_le hx) fun h₂ tk2 x hix h1₂ hs₂ => wpAny_pure ?_)
    have e2 : ∀ c o, c ≠ z → c ≠ i1 → s.heap.get? c = some o → h₂.get? c = some o := fun c o c1 c2 e => hs₂.extBut _ _ c2 (e1 c o c1 e)
    have hTO₂ : IsPair h₂ TO a b := e2 _ _ D.TOz D.TOi1 hTO
    refine wpAny_bind (wpAny_seqItems hTO₂ rfl ?_)
    refine wpAny_bind (wpAny_updateSeq_pair hTO₂ fun h₃ hTO₃ hs₃ => ?_)
    refine wpAny_bind (wpAny_letGo (wpAny_pure ?_))
    have e3 : ∀ c o, c ≠ z → c ≠ i1 → c ≠ TO → s.heap.get? c = some o → h₃.get? c = some o := fun c o c1 c2 c3 e => hs₃.extBut _ _ c3 (e2 c o c1 c2 e)
    refine wpAny_bind (wpAny_bind (wpAny_onRaise ?_))
    show wpAny _ _ (Builtin.SmallTypes.nextOf (.ref i2) >>= _) _ _ _
    refine wpAny_bind (N2.stop (s := { s with heap := h₃, toks := tk2 }) (by first | exact hh | exact (show A.in1.handled = none from hh)) (N2.st h2 fun o => e3 _ o D.i2z D.i12.symm D.TOi2.symm) (N2.lv hl2 fun a o q => e3 a o (D.s2 a q).1 (D.s2 a q).2.2.1 (D.s2 a q).2.1) hy fun h₄ e hs₄ he => ?_)
    obtain ⟨oe, hoe, hce⟩ := he
    have hz₄ : IsZip h₄ z TI TO .ellipsis := hs₄ _ _ D.i2z.symm (hs₃.extBut _ _ D.TOz.symm (hs₂.extBut _ _ D.i1z.symm hz₁))
    have hez : e ≠ z := fun x => by subst x; rw [hz₄] at hoe; cases hoe; simp at hce
    refine wpAny_setField_rec hz₄ (by simp) fun h₅ _ hs₅ => hE h₅ _ e (fun c o c1 c2 c3 c4 x => hs₅.extBut _ _ c1 (hs₄ _ _ c4 (e3 c o c1 c3 c2 x))) ⟨oe, hs₅.extBut _ _ hez hoe, hce⟩

theorem py_item {Q : Option Value → Shared → Prop} (D : Apart z TI TO i1 i2 src1 src2) (N1 : Nx prog w i1 n1 St1 Lv1 Is1 src1) (N2 : Nx prog w i2 n2 St2 Lv2 Is2 src2)
    (hz : IsZip s.heap z TI TO .none) (hTI : IsPair s.heap TI (.ref i1) (.ref i2)) (hTO : IsPair s.heap TO a b)
    (h1 : St1 i s.heap) (h2 : St2 i s.heap) (hl1 : Lv1 s.heap) (hl2 : Lv2 s.heap) (hx : i < n1) (hy : i < n2)
    (hQ : ∀ h' tk x y, Is1 i x → Is2 i y → IsZip h' z TI TO (rawInt s.heap.objs.size) → IsPair h' TO x y → St1 (i + 1) h' → St2 (i + 1) h' → IsPair h' s.heap.objs.size x y → h'.objs.size = s.heap.objs.size + 1 →
      (∀ c o, c ≠ z → c ≠ TO → c ≠ i1 → c ≠ i2 → s.heap.get? c = some o → h'.get? c = some o) → Q (some (.ref s.heap.objs.size)) { s with heap := h', toks := tk }) :
    wpAny (model prog w) A (pyNext (.ref z)) Q E s := by
  have hT : s.TypeIs (.ref z) "zip" := ⟨_, hz, rfl⟩
  unfold pyNext
  exact wpAny_bind (wpAny_attempt (wpAny_callSpecial?_slot (name := Str.ofString "__next__") hT F.slot_zip_next
    (wpAny_call_entry F.slot_zip_next hT F.entry_zip_next
      (next_item D N1 N2 hz hTI hTO h1 h2 hl1 hl2 hx hy fun h' tk x y a0 b0 a1 a2 a3 a4 a5 a6 a7 => wpAny_pure (hQ h' tk x y a0 b0 a1 a2 a3 a4 a5 a6 a7)) (F.args_zip_next_1 _))))
theorem py_end {Q : Option Value → Shared → Prop} (hh : A.handled = none) (D : Apart z TI TO i1 i2 src1 src2) (N1 : Nx prog w i1 n1 St1 Lv1 Is1 src1) (N2 : Nx prog w i2 n2 St2 Lv2 Is2 src2)
    (hz : IsZip s.heap z TI TO .none) (hTI : IsPair s.heap TI (.ref i1) (.ref i2)) (hTO : IsPair s.heap TO a b)
    (h1 : St1 i s.heap) (h2 : St2 i s.heap) (hl1 : Lv1 s.heap) (hl2 : Lv2 s.heap) (hend : n1 ≤ i ∨ n2 ≤ i)
    (hQ : ∀ h' tk, (∀ c o, c ≠ z → c ≠ TO → c ≠ i1 → c ≠ i2 → s.heap.get? c = some o → h'.get? c = some o) → Q none { s with heap := h', toks := tk }) : wpAny (model prog w) A (pyNext (.ref z)) Q E s := by
  have hT : s.TypeIs (.ref z) "zip" := ⟨_, hz, rfl⟩
  unfold pyNext
  refine wpAny_bind (wpAny_attempt (wpAny_callSpecial?_slot (name := Str.ofString "__next__") hT F.slot_zip_next
    (wpAny_call_entry F.slot_zip_next hT F.entry_zip_next (next_end hh D N1 N2 hz hTI hTO h1 h2 hl1 hl2 hend fun h' tk e hk he => ?_) (F.args_zip_next_1 _))))
  obtain ⟨o, ho, hc⟩ := he
  refine wpAny_bind (wpAny_isInstance (T := "StopIteration") (b := true) ⟨o, ho, hc⟩ isSubtype_stop ?_)
  exact wpAny_pure (hQ _ _ hk)
end
end SWZ

/-! loops over zip of lists, tuples, texts -/
namespace SW
open PySem PySem.Spec L2 PyProof.Rows SWZ

/-- a source of zip: a list, a tuple, a text -/
inductive Sc where
  | l (a : Addr) (xs : List V)
  | t (a : Addr) (xs : List V)
  | s (x : Str)
def Sc.n : Sc → Nat
  | .l _ xs => xs.length
  | .t _ xs => xs.length
  | .s x => x.cps.size
def Sc.at : Sc → Nat → V → Prop
  | .l _ xs, i, v => xs[i]? = some v
  | .t _ xs, i, v => xs[i]? = some v
  | .s x, i, v => ∃ c, x.cps[i]? = some c ∧ v = .str ⟨#[c]⟩
def Sc.ok (K : PySem.W.Frag) (H : Hp) : Sc → Prop
  | .l a xs => SqL K H a xs
  | .t a xs => SqT K H a xs
  | .s _ => True
def Sc.src : Sc → Option Addr
  | .l a _ => some a
  | .t a _ => some a
  | .s _ => none
def Sc.St (c : Sc) (it : Addr) (i : Nat) (h : Heap) : Prop := match c with
  | .l a _ => h.IsListIter it a i
  | .t a _ => h.IsTupleIter it a i
  | .s x => ∃ ty t, (ty = "str_ascii_iterator" ∨ ty = "str_iterator") ∧ h.IsStrIter it ty x t i
def Sc.Lv (c : Sc) (h : Heap) : Prop := match c with
  | .l a xs => ∃ its : List Value, Vals xs its ∧ h.IsList a its.toArray
  | .t a xs => ∃ its : List Value, Vals xs its ∧ h.IsTuple a its.toArray
  | .s _ => True
theorem Sc.nx {prog : Program} {w : World} (c : Sc) (it : Addr) (hne : ∀ a, c.src = some a → a ≠ it) : Nx prog w it c.n (c.St it) c.Lv (fun i v => ∃ x, c.at i x ∧ RelV x v) c.src := by
  cases c with
  | l a xs =>
    refine ⟨fun {A E s i Q} st lv hi q => ?_, fun {A E s i Q} hh st lv hi q => ?_, fun {i h h'} st k => ?_, fun {i h} st => ?_, fun {h h'} lv k => ?_⟩
    · obtain ⟨its, r, hl⟩ := lv
      have hi : i < xs.length := hi
      obtain ⟨u, hu, ru⟩ := r.get (i := i) (x := xs[i]) (by simp [hi])
      exact wpAny_nextOf_list_item st hl (x := u) (by simpa using hu) fun h' st' sb => q h' s.toks u ⟨xs[i], by show xs[i]? = _; simp [hi], ru⟩ st' sb
    · obtain ⟨its, r, hl⟩ := lv
      have hi : xs.length ≤ i := hi
      have := r.length
      exact wpAny_nextOf_list_end hh st hl (by simp; omega) q
    · obtain ⟨o, e, r⟩ := st
      exact ⟨o, k o e, r⟩
    · obtain ⟨o, e, r⟩ := st
      exact ⟨o, e⟩
    · obtain ⟨its, r, o, e, q⟩ := lv
      exact ⟨its, r, o, k a o rfl e, q⟩
  | t a xs =>
    refine ⟨fun {A E s i Q} st lv hi q => ?_, fun {A E s i Q} hh st lv hi q => ?_, fun {i h h'} st k => ?_, fun {i h} st => ?_, fun {h h'} lv k => ?_⟩
    · obtain ⟨its, r, hl⟩ := lv
      have hi : i < xs.length := hi
      obtain ⟨u, hu, ru⟩ := r.get (i := i) (x := xs[i]) (by simp [hi])
      exact RZ.nextOf_tuple_item st hl (x := u) (by simpa using hu) fun h' st' sb => q h' s.toks u ⟨xs[i], by show xs[i]? = _; simp [hi], ru⟩ st' sb
    · obtain ⟨its, r, hl⟩ := lv
      have hi : xs.length ≤ i := hi
      have := r.length
      exact RZ.nextOf_tuple_end hh st hl (by simp; omega) q
    · obtain ⟨o, e, r⟩ := st
      exact ⟨o, k o e, r⟩
    · obtain ⟨o, e, r⟩ := st
      exact ⟨o, e⟩
    · obtain ⟨its, r, o, e, q⟩ := lv
      exact ⟨its, r, o, k a o rfl e, q⟩
  | s x =>
    refine ⟨fun {A E s i Q} st lv hi q => ?_, fun {A E s i Q} hh st lv hi q => ?_, fun {i h h'} st k => ?_, fun {i h} st => ?_, fun {h h'} lv k => trivial⟩
    · obtain ⟨ty, t, hty, st⟩ := st
      have hi : i < x.cps.size := hi
      have hx : x.cps[i]? = some x.cps[i] := by simp [hi]
      rcases hty with rfl | rfl
      · exact wpAny_nextOf_ascii_item st hx fun h' st' sb => q h' _ _ ⟨.str ⟨#[x.cps[i]]⟩, ⟨_, hx, rfl⟩, ⟨_, rfl⟩⟩ ⟨_, t, .inl rfl, st'⟩ sb
      · exact wpAny_nextOf_wide_item st hx fun h' st' sb => q h' _ _ ⟨.str ⟨#[x.cps[i]]⟩, ⟨_, hx, rfl⟩, ⟨_, rfl⟩⟩ ⟨_, t, .inr rfl, st'⟩ sb
    · obtain ⟨ty, t, hty, st⟩ := st
      have hx : x.cps[i]? = none := Array.getElem?_eq_none hi
      rcases hty with rfl | rfl
      · exact wpAny_nextOf_ascii_end hh st hx q
      · exact wpAny_nextOf_wide_end hh st hx q
    · obtain ⟨ty, t, hty, o, e, r⟩ := st
      exact ⟨ty, t, hty, o, k o e, r⟩
    · obtain ⟨ty, t, hty, o, e, r⟩ := st
      exact ⟨o, e⟩

def Itg (K : PySem.W.Frag) (c1 c2 : Sc) : It :=
  ⟨fun i H => c1.ok K H ∧ c2.ok K H ∧ i < c1.n ∧ i < c2.n,
    fun i H v H' => ∃ T x y, v = .ref T ∧ H T = none ∧ H' = upd H T (.tup [x, y]) ∧ c1.at i x ∧ c2.at i y,
    fun i H => c1.ok K H ∧ c2.ok K H ∧ (c1.n ≤ i ∨ c2.n ≤ i)⟩
theorem Sc.live {X : Cx} {pins : List (Addr × Obj)} {σ : L2.St} {H : Hp} {s : Shared} {c : Sc} (I : Inv X pins σ H s) (h : c.ok X.K H) : c.Lv s.heap := by
  cases c with
  | l a xs =>
    obtain ⟨its, r, p, _⟩ := I.list h
    exact ⟨its, r, p.isList⟩
  | t a xs =>
    obtain ⟨its, r, p, _⟩ := I.tuple h
    exact ⟨its, r, p⟩
  | s x => trivial
theorem Sc.lt {X : Cx} {pins : List (Addr × Obj)} {σ : L2.St} {H : Hp} {s : Shared} {c : Sc} (I : Inv X pins σ H s) (h : c.ok X.K H) : ∀ a, c.src = some a → a < s.heap.objs.size := by
  intro a e
  cases c with
  | l b xs =>
    cases e
    obtain ⟨its, r, p, _⟩ := I.list h
    exact p.lt
  | t b xs =>
    cases e
    obtain ⟨its, r, p, _⟩ := I.tuple h
    exact p.lt
  | s x => cases e
theorem turn_g {P : Program} {w : World} {K : PySem.W.Frag} {elts : List Expr} {kk : Nat} {tpos : Pos} {c1 c2 : Sc} {z TI TO i1 i2 : Addr} (D : Apart z TI TO i1 i2 c1.src c2.src) :
    Turn P w K (.Tuple elts kk tpos) (Itg K c1 c2) [z, TI, TO, i1, i2] z (fun i h => IsZip h z TI TO .none ∧ IsPair h TI (.ref i1) (.ref i2) ∧ (∃ x y, IsPair h TO x y) ∧ c1.St i1 i h ∧ c2.St i2 i h) where
  mem := by simp
  obj := fun i h st c hc => by
    obtain ⟨hz, hTI, ⟨x, y, hTO⟩, h1, h2⟩ := st
    have field : ∀ {c : Sc} {it : Addr}, c.St it i h → ∃ o, h.get? it = some o ∧ ∀ v, o.data ≠ .cell v := by
      intro c it st
      cases c with
      | l a xs =>
        obtain ⟨o, e, _, d⟩ := st
        exact ⟨o, e, fun v q => by rw [d] at q; cases q⟩
      | t a xs =>
        obtain ⟨o, e, _, d⟩ := st
        exact ⟨o, e, fun v q => by rw [d] at q; cases q⟩
      | s x =>
        obtain ⟨_, _, _, o, e, _, d⟩ := st
        exact ⟨o, e, fun v q => by rw [d] at q; cases q⟩
    have e' : c = z ∨ c = TI ∨ c = TO ∨ c = i1 ∨ c = i2 := by simpa using hc
    rcases e' with q | q | q | q | q
    · rw [q]; exact ⟨_, hz, fun v q => nomatch q⟩
    · rw [q]; exact ⟨_, hTI, fun v q => nomatch q⟩
    · rw [q]; exact ⟨_, hTO, fun v q => nomatch q⟩
    · rw [q]; exact field h1
    · rw [q]; exact field h2
  keep := fun i h h' st k => by
    obtain ⟨hz, hTI, ⟨x, y, hTO⟩, h1, h2⟩ := st
    have N1 : Nx P w i1 c1.n (c1.St i1) c1.Lv (fun i v => ∃ x, c1.at i x ∧ RelV x v) c1.src := c1.nx i1 fun a e => (D.s1 a e).2.2.1
    have N2 : Nx P w i2 c2.n (c2.St i2) c2.Lv (fun i v => ∃ x, c2.at i x ∧ RelV x v) c2.src := c2.nx i2 fun a e => (D.s2 a e).2.2.2
    exact ⟨k z (by simp) _ hz, k TI (by simp) _ hTI, ⟨x, y, k TO (by simp) _ hTO⟩, N1.st h1 fun o q => k i1 (by simp) o q, N2.st h2 fun o q => k i2 (by simp) o q⟩
  item := by
    intro X hP hw hK hc i pins s σ H E I hf st hg
    subst hP hw hK
    obtain ⟨hz, hTI, ⟨x0, y0, hTO⟩, h1, h2⟩ := st
    obtain ⟨o1, o2, hx, hy⟩ := hg
    have N1 : Nx X.prog X.w i1 c1.n (c1.St i1) c1.Lv (fun i v => ∃ x, c1.at i x ∧ RelV x v) c1.src := c1.nx i1 fun a e => (D.s1 a e).2.2.1
    have N2 : Nx X.prog X.w i2 c2.n (c2.St i2) c2.Lv (fun i v => ∃ x, c2.at i x ∧ RelV x v) c2.src := c2.nx i2 fun a e => (D.s2 a e).2.2.2
    have hzl : z < s.heap.objs.size := Heap.lt_size hz
    refine py_item D N1 N2 hz hTI hTO h1 h2 (Sc.live I o1) (Sc.live I o2) hx hy fun h' tk u u2 ⟨x, hax, ru⟩ ⟨y, hay, ru2⟩ z' TO' h1' h2' hT hsz hk => ?_
    refine ⟨_, rfl, wpAny_letOwnedTupleGo_zip (s := { s with heap := h', toks := tk }) z' fun h'' z'' sb => ?_⟩
    have hT2 : h''.get? s.heap.objs.size = some { cls := .type "tuple", data := .seq #[u, u2] } := (sb.2 _ (Nat.ne_of_gt hzl)).trans hT
    have new : ObjOk X.prog X.w (upd H s.heap.objs.size (.tup [x, y])) h'' s.heap.objs.size (.tup [x, y]) :=
      ⟨by show 2 ≤ sizeLine; decide, [u, u2], .cons ru (.cons ru2 .nil), ⟨_, hT2, rfl, _, rfl⟩⟩
    have I1 : Inv X pins σ (upd H s.heap.objs.size (.tup [x, y])) { s with heap := h'', toks := tk } :=
      I.turnedNew (t' := tk) (ch := [z, TI, TO, i1, i2]) (fun c o hb q => (sb.2 c (fun q' => hb (by simp [q']))).trans (hk c o (fun q' => hb (by simp [q'])) (fun q' => hb (by simp [q'])) (fun q' => hb (by simp [q'])) (fun q' => hb (by simp [q'])) q)) hf (Nat.le_refl _) new
    refine ⟨.ref s.heap.objs.size, _, I1, rfl, ⟨_, x, y, rfl, I.hok.fresh (Nat.le_refl _), rfl, hax, hay⟩, ⟨z'', ?_, ⟨u, u2, ?_⟩, ?_, ?_⟩, fun c hcm => ?_⟩
    · exact (sb.2 _ D.TIz).trans (hk _ _ D.TIz D.TITO D.TIi1 D.TIi2 hTI)
    · exact (sb.2 _ D.TOz).trans TO'
    · exact N1.st h1' fun o q => (sb.2 _ D.i1z).trans q
    · exact N2.st h2' fun o q => (sb.2 _ D.i2z).trans q
    · have hlt : c < s.heap.objs.size := by
        have e' : c = z ∨ c = TI ∨ c = TO ∨ c = i1 ∨ c = i2 := by simpa using hcm
        rcases e' with q | q | q | q | q
        · rw [q]; exact hzl
        · rw [q]; exact Heap.lt_size hTI
        · rw [q]; exact Heap.lt_size hTO
        · rw [q]; obtain ⟨_, e1⟩ := N1.there h1; exact Heap.lt_size e1
        · rw [q]; obtain ⟨_, e2⟩ := N2.there h2; exact Heap.lt_size e2
      rw [upd_ne (Nat.ne_of_lt hlt)]
      exact (hf c hcm).1
  done := by
    intro X hP hw hK hc i pins s σ H E I hf st hg
    subst hP hw hK
    obtain ⟨hz, hTI, ⟨x0, y0, hTO⟩, h1, h2⟩ := st
    obtain ⟨o1, o2, hend⟩ := hg
    have N1 : Nx X.prog X.w i1 c1.n (c1.St i1) c1.Lv (fun i v => ∃ x, c1.at i x ∧ RelV x v) c1.src := c1.nx i1 fun a e => (D.s1 a e).2.2.1
    have N2 : Nx X.prog X.w i2 c2.n (c2.St i2) c2.Lv (fun i v => ∃ x, c2.at i x ∧ RelV x v) c2.src := c2.nx i2 fun a e => (D.s2 a e).2.2.2
    exact py_end (I.ok.hd hc) D N1 N2 hz hTI hTO h1 h2 (Sc.live I o1) (Sc.live I o2) hend fun h' tk hk => ⟨rfl, I.turnedL (t' := tk) (ch := [z, TI, TO, i1, i2]) (fun c o hb q =>
      hk c o (fun q' => hb (by simp [q'])) (fun q' => hb (by simp [q'])) (fun q' => hb (by simp [q'])) (fun q' => hb (by simp [q'])) q) hf⟩
  self := fun A i s Q E st h => wpAny_pyIter_zip st.1 h
end SW

/-! zip made, in a loop's head -/
namespace SWZ
open PySem
open PySem.Sem (wp)
abbrev zH1 (h : Heap) (t1 : String) (u1 : Value) : Heap := h.push (itObj t1 u1)
abbrev zH2 (h : Heap) (t1 : String) (u1 : Value) (t2 : String) (u2 : Value) : Heap := (zH1 h t1 u1).push (itObj t2 u2)
abbrev zH3 (h : Heap) (t1 : String) (u1 : Value) (t2 : String) (u2 : Value) : Heap := (zH2 h t1 u1 t2 u2).push { cls := .type "tuple", data := .seq #[.ref h.objs.size, .ref (zH1 h t1 u1).objs.size] }
abbrev zH4 (h : Heap) (t1 : String) (u1 : Value) (t2 : String) (u2 : Value) : Heap := (zH3 h t1 u1 t2 u2).push { cls := .type "tuple", data := .seq #[.none, .none] }
abbrev zH5 (h : Heap) (t1 : String) (u1 : Value) (t2 : String) (u2 : Value) : Heap := (zH4 h t1 u1 t2 u2).push { cls := .type "zip", data := .fields #[.none, .bool false, .bool false, .ref (zH2 h t1 u1 t2 u2).objs.size, .ref (zH3 h t1 u1 t2 u2).objs.size] }
/-- an iterator is made of u wherever L holds -/
def Mk1 (L : Heap → Prop) (u : Value) (t : String) : Prop := ∀ (prog : Program) (w : World) (A : Around) (E : Value → Shared → Prop) (s : Shared) (Q : Value → Shared → Prop), L s.heap → Q (.ref s.heap.objs.size) { s with heap := s.heap.push (itObj t u) } → wpAny (model prog w) A (pyIter u) Q E s
theorem meets_new {L1 L2 : Heap → Prop} {u1 u2 : Value} {t1 t2 : String} (m1 : Mk1 L1 u1 t1) (m2 : Mk1 L2 u2 t2) (hp : ∀ h o, L2 h → L2 (h.push o)) :
    Meets (Builtin.«zip.__new__» ⟨[.type "zip", u1, u2], []⟩) (fun _ R s => L1 s.heap ∧ L2 s.heap ∧
      R (.ok (.ret (.ref (zH4 s.heap t1 u1 t2 u2).objs.size))) { s with heap := zH5 s.heap t1 u1 t2 u2 }) :=
  .of_wp fun prog w A R s h => by
    obtain ⟨hp', g, d, tk, os⟩ := s; obtain ⟨hl1, hl2, h⟩ := h
    have hsub := sub_zip
    have hL2 : L2 (Shared.heap ⟨hp'.push (itObj t1 u1), g, d, tk, os⟩) := hp _ _ hl2
    have M1 := fun (A : Around) (E : Value → Shared → Prop) (Q : Value → Shared → Prop) (hQ : Q (.ref hp'.objs.size) ⟨hp'.push (itObj t1 u1), g, d, tk, os⟩) => m1 prog w A E ⟨hp', g, d, tk, os⟩ Q hl1 hQ
    have M2 := fun (A : Around) (E : Value → Shared → Prop) (Q : Value → Shared → Prop) (hQ : Q (.ref (hp'.push (itObj t1 u1)).objs.size) ⟨(hp'.push (itObj t1 u1)).push (itObj t2 u2), g, d, tk, os⟩) => m2 prog w A E ⟨hp'.push (itObj t1 u1), g, d, tk, os⟩ Q hL2 hQ
    wp_walk using M1 _ _ _, M2 _ _ _
    exact ⟨_, rfl, h⟩
section
variable {prog : Program} {w : World} {A : Around} {E : Value → Shared → Prop} {s : Shared}
theorem call_new {L1 L2 : Heap → Prop} {u1 u2 : Value} {t1 t2 : String} (m1 : Mk1 L1 u1 t1) (m2 : Mk1 L2 u2 t2) (hp : ∀ h o, L2 h → L2 (h.push o)) {Q : Value → Shared → Prop} (hl1 : L1 s.heap) (hl2 : L2 s.heap)
    (h : ∀ h', IsZip h' (s.heap.objs.size + 4) (s.heap.objs.size + 2) (s.heap.objs.size + 3) .none → IsPair h' (s.heap.objs.size + 2) (.ref s.heap.objs.size) (.ref (s.heap.objs.size + 1)) →
      IsPair h' (s.heap.objs.size + 3) .none .none → h'.get? s.heap.objs.size = some (itObj t1 u1) → h'.get? (s.heap.objs.size + 1) = some (itObj t2 u2) → h'.objs.size = s.heap.objs.size + 5 →
      (∀ c o, s.heap.get? c = some o → h'.get? c = some o) → Q (.ref (s.heap.objs.size + 4)) { s with heap := h' }) :
    wpAny (model prog w) A (call (.type "zip") [u1, u2]) Q E s := by
  refine callType_new F.called_zip (by decide) (F.typeCall_zip_2 _ _) (F.newCall_zip_2 _ _) (fun obj => F.args_object_init_3 obj _ _) F.entry_zip_new
    (meets_new m1 m2 hp) ⟨hl1, hl2, ?_⟩
  have z1 : (zH1 s.heap t1 u1).objs.size = s.heap.objs.size + 1 := Heap.size_push ..
  have z2 : (zH2 s.heap t1 u1 t2 u2).objs.size = s.heap.objs.size + 2 := by rw [Heap.size_push, z1]
  have z3 : (zH3 s.heap t1 u1 t2 u2).objs.size = s.heap.objs.size + 3 := by rw [Heap.size_push, z2]
  have z4 : (zH4 s.heap t1 u1 t2 u2).objs.size = s.heap.objs.size + 4 := by rw [Heap.size_push, z3]
  have z5 : (zH5 s.heap t1 u1 t2 u2).objs.size = s.heap.objs.size + 5 := by rw [Heap.size_push, z4]
  have g5 : (zH5 s.heap t1 u1 t2 u2).get? (zH4 s.heap t1 u1 t2 u2).objs.size = some _ := Heap.get?_push_size _ rfl
  have g4 : (zH5 s.heap t1 u1 t2 u2).get? (zH3 s.heap t1 u1 t2 u2).objs.size = some _ := Heap.get?_push_of_some _ (Heap.get?_push_size _ rfl)
  have g3 : (zH5 s.heap t1 u1 t2 u2).get? (zH2 s.heap t1 u1 t2 u2).objs.size = some _ := Heap.get?_push_of_some _ (Heap.get?_push_of_some _ (Heap.get?_push_size _ rfl))
  have g2 : (zH5 s.heap t1 u1 t2 u2).get? (zH1 s.heap t1 u1).objs.size = some _ := Heap.get?_push_of_some _ (Heap.get?_push_of_some _ (Heap.get?_push_of_some _ (Heap.get?_push_size _ rfl)))
  have g1 : (zH5 s.heap t1 u1 t2 u2).get? s.heap.objs.size = some _ := Heap.get?_push_of_some _ (Heap.get?_push_of_some _ (Heap.get?_push_of_some _ (Heap.get?_push_of_some _ (Heap.get?_push_size _ rfl))))
  show _ ∧ _
  rw [z2, z3, z4] at g5
  rw [z1, z2] at g3
  rw [z3] at g4
  rw [z1] at g2
  rw [z4]
  exact ⟨⟨_, g5, rfl⟩, h _ g5 g3 g4 g1 g2 z5 fun c o x =>
    Heap.get?_push_of_some _ (Heap.get?_push_of_some _ (Heap.get?_push_of_some _ (Heap.get?_push_of_some _ (Heap.get?_push_of_some _ x))))⟩
end
end SWZ

namespace SW
open PySem PySem.Spec L2 PyProof.Rows SWZ
/-- the value of a source -/
def Sc.isV : Sc → V → Prop
  | .l a _, v => v = .ref a
  | .t a _, v => v = .ref a
  | .s x, v => v = .str x
theorem Sc.mk (c : Sc) {v : V} {u : Value} (hv : c.isV v) (r : RelV v u) : ∃ ty, Mk1 c.Lv u ty ∧ ∀ (it : Addr) (h : Heap), h.get? it = some (itObj ty u) → c.St it 0 h := by
  cases c with
  | l a xs =>
    cases hv
    cases r
    refine ⟨"list_iterator", fun prog w A E s Q ⟨its, _, hl⟩ q => wpAny_pyIter_list hl q, fun it h e => ⟨_, e, rfl, rfl⟩⟩
  | t a xs =>
    cases hv
    cases r
    refine ⟨"tuple_iterator", fun prog w A E s Q ⟨its, _, hl⟩ q => wpAny_pyIter_tuple hl q, fun it h e => ⟨_, e, rfl, rfl⟩⟩
  | s x =>
    cases hv
    obtain ⟨t, rfl⟩ := r
    cases ha : x.cps.all (· < 128)
    · exact ⟨"str_iterator", fun prog w A E s Q _ q => wpAny_pyIter_wide ha q, fun it h e => ⟨_, t, .inr rfl, _, e, rfl, rfl⟩⟩
    · exact ⟨"str_ascii_iterator", fun prog w A E s Q _ q => wpAny_pyIter_ascii ha q, fun it h e => ⟨_, t, .inl rfl, _, e, rfl, rfl⟩⟩
theorem Sc.lvPush (c : Sc) : ∀ h o, c.Lv h → c.Lv (h.push o) := by
  intro h o lv
  cases c with
  | l a xs =>
    obtain ⟨its, r, q⟩ := lv
    exact ⟨its, r, q.push o⟩
  | t a xs =>
    obtain ⟨its, r, q⟩ := lv
    exact ⟨its, r, Heap.IsTuple.push q o⟩
  | s x => trivial
def iZipG (K : PySem.W.Frag) (ta : TA) : TI := fun σ H R => ta σ H fun vs H1 => ∃ (c1 c2 : Sc) (v1 v2 : V), vs = [v1, v2] ∧ c1.isV v1 ∧ c2.isV v2 ∧ c1.ok K H1 ∧ c2.ok K H1 ∧ R (Itg K c1 c2) H1
theorem pi_zipG {X : Cx} {e e2 : Expr} {ta : TA} {p pos tpos : Pos} {elts : List Expr} {kk : Nat} (hg : Gl X "zip") (hm : X.mg "zip" = none) (ha : PA X [e, e2] ta)
    (hs : starEach [e, e2] X.env = (false, eval e X.env) :: starEach [e2] X.env) (hpl : (backTo pos (starEach [e2] X.env)).any (·.1) = false) :
    PI X (.Tuple elts kk tpos) (.Call (.Name "zip" p) [e, e2] [] pos) (iZipG X.K ta) := by
  refine ⟨fun pins s σ H R I h => ?_⟩
  refine Call_ (ld_blt I hg hm PyProof.Rows.boot_zip (PyProof.Rows.callWith_type1 (thn (ha.run pos pins s σ H _ I h) fun us s1 ⟨vs, H1, I1, r1, q1⟩ => ?_) hs hpl))
  obtain ⟨c1, c2, v1, v2, ex, k1, k2, o1, o2, q⟩ := q1
  subst ex
  cases r1 with
  | cons r rr =>
    cases rr with
    | cons r' rr =>
      cases rr
      have fresh5 : ∀ c, c ∈ [s1.heap.objs.size + 4, s1.heap.objs.size + 2, s1.heap.objs.size + 3, s1.heap.objs.size, s1.heap.objs.size + 1] → FpOk X pins H1 c := fun c hcm => by
        have e' : c = s1.heap.objs.size + 4 ∨ c = s1.heap.objs.size + 2 ∨ c = s1.heap.objs.size + 3 ∨ c = s1.heap.objs.size ∨ c = s1.heap.objs.size + 1 := by simpa using hcm
        have hle : s1.heap.objs.size ≤ c := by
          rcases e' with z | z | z | z | z
          · rw [z]; exact Nat.le_add_right _ _
          · rw [z]; exact Nat.le_add_right _ _
          · rw [z]; exact Nat.le_add_right _ _
          · rw [z]; exact Nat.le_refl _
          · rw [z]; exact Nat.le_add_right _ _
        exact I1.fpOk hle (I1.hok.fresh hle)
      obtain ⟨t1, m1, st1⟩ := c1.mk k1 r
      obtain ⟨t2, m2, st2⟩ := c2.mk k2 r'
      refine call_new m1 m2 c2.lvPush (Sc.live I1 o1) (Sc.live I1 o2) fun h' hz hTI hTO g1 g2 hsz hk => wpAny_pyIter_zip hz ?_
      have I2 : Inv X pins σ H1 { s1 with heap := h' } := I1.kept (t' := s1.toks) hk
      have D : Apart (s1.heap.objs.size + 4) (s1.heap.objs.size + 2) (s1.heap.objs.size + 3) s1.heap.objs.size (s1.heap.objs.size + 1) c1.src c2.src := by
        have four : ∀ {c : Sc}, c.ok X.K H1 → ∀ a, c.src = some a → a ≠ s1.heap.objs.size + 4 ∧ a ≠ s1.heap.objs.size + 3 ∧ a ≠ s1.heap.objs.size ∧ a ≠ s1.heap.objs.size + 1 := fun o a e => by
          have h1 : (a : Nat) < s1.heap.objs.size := Sc.lt I1 o a e
          exact ⟨Nat.ne_of_lt (Nat.lt_of_lt_of_le h1 (Nat.le_add_right _ _)), Nat.ne_of_lt (Nat.lt_of_lt_of_le h1 (Nat.le_add_right _ _)), Nat.ne_of_lt h1, Nat.ne_of_lt (Nat.lt_of_lt_of_le h1 (Nat.le_add_right _ _))⟩
        refine ⟨?_, ?_, ?_, ?_, ?_, ?_, ?_, ?_, ?_, ?_, four o1, four o2⟩
        all_goals (intro z; have z' : (_ : Nat) = _ := z; omega)
      exact ⟨s1.heap.objs.size + 4, [s1.heap.objs.size + 4, s1.heap.objs.size + 2, s1.heap.objs.size + 3, s1.heap.objs.size, s1.heap.objs.size + 1], _, _, H1, rfl, I2, turn_g D, ⟨hz, hTI, ⟨_, _, hTO⟩, st1 _ _ g1, st2 _ _ g2⟩, fresh5, q⟩
end SW

/-! what a loop goes through -/
namespace SW
open PySem PySem.Spec L2 PyProof.Rows SWZ

abbrev MI := Env → R (List D × Env)
/-- the walk J gives the data ds, one after another -/
structure ItD (k : Kn) (J : It) (Hk F0 : Hp) (ds : List D) : Prop where
  stop : ∀ i H, Ex Hk H → Ex F0 H → ds.length ≤ i → J.stop i H
  go : ∀ i H, Ex Hk H → Ex F0 H → i < ds.length → J.go i H
  yld : ∀ {Hk2 F H : Hp} {σ : L2.St} {env : Env} (i : Nat) (x : V) (H' : Hp), Ex Hk Hk2 → Wd k Hk2 F H σ env → J.yld i H x H' → i < ds.length → ∃ d Hk3, ds[i]? = some d ∧ Ex Hk2 Hk3 ∧ Wd k Hk3 F H' σ env ∧ Rp k Hk3 x d
def WantI (k : Kn) (W : WX) (Hk F : Hp) (σ : L2.St) (r : R (List D × Env)) (Q : It → Hp → Prop) : Prop := match r with
  | .ok (ds, env') => ∀ J Hk' H', Ex Hk Hk' → Wd k Hk' F H' σ env' → ItD k J Hk' F ds → Q J H'
  | .exc c fs env' => ∀ cls dd Hk' H', Ex Hk Hk' → Wd k Hk' F H' σ env' → XcOk k Hk' H' c fs cls dd → W cls dd σ H'
  | .stuck => False
def tMI (k : Kn) (W : WX) (m : MI) : TI := fun σ H Q => ∃ Hk F env, Wd k Hk F H σ env ∧ WantI k W Hk F σ (m env) Q
theorem PI.imp {X : Cx} {tg e : Expr} {t t' : TI} (h : PI X tg e t) (i : ∀ σ H Q, t' σ H Q → t σ H Q) : PI X tg e t' := ⟨fun pins s σ H Q I q => h.run pins s σ H Q I (i σ H Q q)⟩
abbrev PMI (X : Cx) (G : Gn) (W : WX) (tg e : Expr) (m : MI) : Prop := PI X tg e (tMI (mkK X.K G) W m)

/-- the items of a list, a tuple, a text -/
def items : D → Option (List D)
  | .lst ds => some ds
  | .tup ds => some ds
  | .str s => some (s.map fun c => .str [c])
  | _ => none
/-- over a value (kept from now on) -/
def mItems (m : ME) : MI := fun env => R.bind (m env) fun p => match frz1 p.2 p.1 with
  | some (d, e) => match items d with
    | some ds => .ok (ds, e)
    | none => .stuck
  | none => .stuck
section
variable {k : Kn} {W : WX} {Hk F H : Hp} {σ : L2.St} {env : Env} {vs : List V} {xs : List Vr}
theorem WantI.bad {r : R (List D × Env)} {Q : It → Hp → Prop} (h : WantI k W Hk F σ r Q) : Bad k W Hk F σ r := by
  cases r with
  | ok p => exact ⟨(fun _ _ _ e => nomatch e), fun e => nomatch e⟩
  | exc c fs e' =>
    refine ⟨fun c2 f2 e2 e => ?_, fun e => nomatch e⟩
    cases e
    exact h
  | stuck => exact h.elim
theorem WantI.mono {Hk1 : Hp} {r : R (List D × Env)} {Q : It → Hp → Prop} (h : WantI k W Hk F σ r Q) (e : Ex Hk Hk1) : WantI k W Hk1 F σ r Q := by
  cases r with
  | ok p => exact fun J Hk' H' ex w i => h J Hk' H' (e.trans ex) w i
  | exc c fs e' => exact fun cls dd Hk' H' ex w x => h cls dd Hk' H' (e.trans ex) w x
  | stuck => exact h
/-- a source of data -/
def Sc.dt (k : Kn) (Hk : Hp) : Sc → List D → Prop
  | .l a xs, ds => Hk a = some (.lst xs) ∧ RpAll k Hk xs ds
  | .t a xs, ds => Hk a = some (.tup xs) ∧ RpAll k Hk xs ds
  | .s x, ds => okS x.cps.toList = true ∧ ds = x.cps.toList.map fun c => .str [c]
theorem Sc.dt.mono {c : Sc} {ds : List D} {Hk' : Hp} (h : c.dt k Hk ds) (e : Ex Hk Hk') : c.dt k Hk' ds := by
  cases c with
  | l a xs => exact ⟨e _ _ h.1, h.2.mono e⟩
  | t a xs => exact ⟨e _ _ h.1, h.2.mono e⟩
  | s x => exact h
theorem Sc.dt.len {c : Sc} {ds : List D} (h : c.dt k Hk ds) : ds.length = c.n := by
  cases c with
  | l a xs => exact h.2.len.symm
  | t a xs => exact h.2.len.symm
  | s x =>
    rw [h.2]
    simp [Sc.n]
theorem Sc.dt.ok {c : Sc} {ds : List D} (h : c.dt k Hk ds) (e : Ex Hk H) : c.ok k.K H := by
  cases c with
  | l a xs => exact SqL.of (e _ _ h.1)
  | t a xs => exact SqT.of (e _ _ h.1)
  | s x => trivial
theorem Sc.dt.at {c : Sc} {ds : List D} {i : Nat} {x : V} (h : c.dt k Hk ds) (hx : c.at i x) : ∃ d, ds[i]? = some d ∧ Rp k Hk x d := by
  have lst : ∀ {vs : List V} {ds : List D} (i : Nat), RpAll k Hk vs ds → vs[i]? = some x → ∃ d, ds[i]? = some d ∧ Rp k Hk x d := by
    intro vs
    induction vs with
    | nil => intro ds i r e; simp at e
    | cons v vs ih =>
      intro ds i r e
      cases r with
      | cons h r =>
        cases i with
        | zero =>
          simp at e
          subst e
          exact ⟨_, rfl, h⟩
        | succ i =>
          obtain ⟨d, h1, h2⟩ := ih i r (by simpa using e)
          exact ⟨d, by simpa using h1, h2⟩
  cases c with
  | l a xs => exact lst i h.2 hx
  | t a xs => exact lst i h.2 hx
  | s y =>
    obtain ⟨c, h1, rfl⟩ := hx
    have hc : y.cps.toList[i]? = some c := by simpa using h1
    refine ⟨.str [c], ?_, .str [c] ?_⟩
    · rw [h.2]
      simp [hc]
    · refine okS_sub h.1 fun d hd => ?_
      have : d = c := by simpa using hd
      subst this
      exact List.mem_of_getElem? hc
theorem rp_sc {v : V} {d : D} {ds : List D} (r : Rp k Hk v d) (e : items d = some ds) : ∃ c : Sc, c.isV v ∧ c.dt k Hk ds := by
  cases r with
  | lst h r => cases e; exact ⟨.l _ _, rfl, h, r⟩
  | tup h r => cases e; exact ⟨.t _ _, rfl, h, r⟩
  | str s h =>
    cases e
    refine ⟨.s (S s), rfl, by rw [S_cps]; exact h, by rw [S_cps]⟩
  | _ => cases e
/-- one source walked -/
def It1 (K : PySem.W.Frag) : Sc → It
  | .l a _ => Itl K a
  | .t a _ => Itt K a
  | .s x => Its x
theorem itd1 {c : Sc} {ds : List D} (h : c.dt k Hk ds) : ItD k (It1 k.K c) Hk F ds := by
  have hl := h.len
  cases c with
  | l a xs =>
    refine ⟨fun i H e _ hi => ⟨xs, SqL.of (e _ _ h.1), by rw [h.2.len]; exact hi⟩, fun i H e _ hi => ⟨xs, xs[i]'(by rw [h.2.len]; exact hi), SqL.of (e _ _ h.1), by simp⟩, fun {Hk2 F H σ env} i x H' ex w y hi => ?_⟩
    obtain ⟨e1, e2⟩ := y
    subst e1
    obtain ⟨d, h1, h2⟩ := (h.mono ex).at (show Sc.at (.l a xs) i x from e2 xs (SqL.of (w.ex _ _ (ex _ _ h.1))))
    exact ⟨d, Hk2, h1, Ex.refl _, w, h2⟩
  | t a xs =>
    refine ⟨fun i H e _ hi => ⟨xs, SqT.of (e _ _ h.1), by rw [h.2.len]; exact hi⟩, fun i H e _ hi => ⟨xs, xs[i]'(by rw [h.2.len]; exact hi), SqT.of (e _ _ h.1), by simp⟩, fun {Hk2 F H σ env} i x H' ex w y hi => ?_⟩
    obtain ⟨e1, e2⟩ := y
    subst e1
    obtain ⟨d, h1, h2⟩ := (h.mono ex).at (show Sc.at (.t a xs) i x from e2 xs (SqT.of (w.ex _ _ (ex _ _ h.1))))
    exact ⟨d, Hk2, h1, Ex.refl _, w, h2⟩
  | s z =>
    refine ⟨fun i H e _ hi => (by show z.cps.size ≤ i; rw [hl] at hi; exact hi), fun i H e _ hi => (by show i < z.cps.size; rw [hl] at hi; exact hi), fun {Hk2 F H σ env} i x H' ex w y hi => ?_⟩
    obtain ⟨e1, e2⟩ := y
    subst e1
    obtain ⟨d, h1, h2⟩ := (h.mono ex).at (show Sc.at (.s z) i x from e2)
    exact ⟨d, Hk2, h1, Ex.refl _, w, h2⟩
def iAny (K : PySem.W.Frag) (te : TE) : TI := fun σ H R => te σ H fun v H1 => ∃ c : Sc, c.isV v ∧ c.ok K H1 ∧ R (It1 K c) H1
theorem pi_any {X : Cx} {tg e : Expr} {te : TE} (he : PE X e te) : PI X tg e (iAny X.K te) := by
  refine ⟨fun pins s σ H R I h => ?_⟩
  refine thn (he.run pins s σ H _ I h) fun v s1 ⟨x, H1, I1, r1, c, hv, ho, q⟩ => ?_
  cases c with
  | l a xs =>
    cases hv
    cases r1
    obtain ⟨its, rv, p, hz⟩ := I1.list ho
    refine wpAny_pyIter_list p.isList ?_
    refine ⟨s1.heap.objs.size, [s1.heap.objs.size], _, _, H1, rfl, I1.kept (t' := s1.toks) fun b o e => Heap.get?_push_of_some _ e, turn_list a _, ⟨_, Heap.get?_push_size _ rfl, rfl, rfl⟩, fun b hb => ?_, q⟩
    have e : b = s1.heap.objs.size := by simpa using hb
    subst e
    exact I1.fpOk (Nat.le_refl _) (I1.hok.fresh (Nat.le_refl _))
  | t a xs =>
    cases hv
    cases r1
    obtain ⟨its, rv, p, hz⟩ := I1.tuple ho
    refine wpAny_pyIter_tuple (show s1.heap.IsTuple a its.toArray from p) ?_
    refine ⟨s1.heap.objs.size, [s1.heap.objs.size], _, _, H1, rfl, I1.kept (t' := s1.toks) fun b o e => Heap.get?_push_of_some _ e, turn_tuple a _, ⟨_, Heap.get?_push_size _ rfl, rfl, rfl⟩, fun b hb => ?_, q⟩
    have e : b = s1.heap.objs.size := by simpa using hb
    subst e
    exact I1.fpOk (Nat.le_refl _) (I1.hok.fresh (Nat.le_refl _))
  | s x =>
    cases hv
    obtain ⟨t, rfl⟩ := r1
    cases ha : x.cps.all (· < 128)
    · exact wpAny_pyIter_wide ha (pi_one (tk := s1.toks) I1 _ (turn_str _ x t "str_iterator" (.inr rfl)) ⟨_, Heap.get?_push_size _ rfl, rfl, rfl⟩ q)
    · exact wpAny_pyIter_ascii ha (pi_one (tk := s1.toks) I1 _ (turn_str _ x t "str_ascii_iterator" (.inl rfl)) ⟨_, Heap.get?_push_size _ rfl, rfl, rfl⟩ q)
theorem tMI_items {m : ME} {Q : It → Hp → Prop} (h : tMI k W (mItems m) σ H Q) : iAny k.K (tM k W m) σ H Q := by
  obtain ⟨Hk, F, env, w, h⟩ := h
  have b := h.bad
  refine seqE (Wl.nil w) b.exc b.ns fun x e1 v Hk1 H1 m1 ex1 w1 => ?_
  unfold mItems at h
  rw [m1] at h
  have h1 := WantI.mono h ex1
  rw [R.bind_ok] at h1
  simp only at h1
  have w1 : Wl k Hk1 F H1 σ e1 [v] [x] := w1
  split at h1
  · rename_i d e2 hd
    split at h1
    · rename_i ds hds
      obtain ⟨Hk2, ex2, w2, r2⟩ := w1.frz1 hd
      obtain ⟨c, hv, hc⟩ := rp_sc r2 hds
      exact ⟨c, hv, hc.ok w2.base.ex, h1 _ Hk2 H1 ex2 w2.base (itd1 hc)⟩
    · exact h1.elim
  · exact h1.elim

/-! ### zip -/
/-- zip of two values -/
def mZip (ma mb : ME) : MI := fun env => R.bind (ma env) fun p => R.bind (mb p.2) fun q => match frzs q.2 [p.1, q.1] with
  | some ([a, b], e) => match items a, items b with
    | some xs, some ys => .ok ((xs.zip ys).map fun z => .tup [z.1, z.2], e)
    | _, _ => .stuck
  | _ => .stuck
theorem itd2 {c1 c2 : Sc} {xs ys : List D} (h1 : c1.dt k Hk xs) (h2 : c2.dt k Hk ys) : ItD k (Itg k.K c1 c2) Hk F ((xs.zip ys).map fun z => .tup [z.1, z.2]) := by
  have l1 := h1.len
  have l2 := h2.len
  refine ⟨fun i H e _ hi => ⟨h1.ok e, h2.ok e, ?_⟩, fun i H e _ hi => ⟨h1.ok e, h2.ok e, ?_⟩, fun {Hk2 F H σ env} i x H' ex w y hi => ?_⟩
  · simp at hi
    omega
  · simp at hi
    omega
  · obtain ⟨T, u, v, rfl, hT, rfl, a1, a2⟩ := y
    obtain ⟨d1, g1, r1⟩ := (h1.mono ex).at a1
    obtain ⟨d2, g2, r2⟩ := (h2.mono ex).at a2
    have e := Ex.new (o := .tup [u, v]) (w.ex.free hT)
    refine ⟨.tup [d1, d2], _, ?_, e, w.growK hT, .tup upd_same (.cons (r1.mono e) (.cons (r2.mono e) .nil))⟩
    rw [List.getElem?_map, List.getElem?_zip_eq_some (z := (d1, d2)) |>.mpr ⟨g1, g2⟩]
    rfl
theorem tMI_zip {ma mb : ME} {Q : It → Hp → Prop} (h : tMI k W (mZip ma mb) σ H Q) : iZipG k.K (tCons (tM k W ma) (tCons (tM k W mb) tNil)) σ H Q := by
  obtain ⟨Hk, F, env, w, h⟩ := h
  have b := h.bad
  refine seqE (Wl.nil w) b.exc b.ns fun x e1 v Hk1 H1 m1 ex1 w1 => ?_
  unfold mZip at h
  rw [m1] at h
  have h1 := WantI.mono h ex1
  have b := h1.bad
  refine seqE w1 b.exc b.ns fun y e2 v2 Hk2 H2 m2 ex2 w2 => ?_
  rw [R.bind_ok] at h1
  simp only at h1
  rw [m2] at h1
  have h2 := WantI.mono h1 ex2
  rw [R.bind_ok] at h2
  simp only at h2
  have w2 : Wl k Hk2 F H2 σ e2 [v, v2] [x, y] := w2
  split at h2
  · rename_i a c e3 hf
    split at h2
    · rename_i xs ys hx hy
      obtain ⟨Hk3, ex3, w3, r3⟩ := w2.frzs hf
      cases r3 with
      | cons ra rr =>
        cases rr with
        | cons rb _ =>
          obtain ⟨c1, k1, d1⟩ := rp_sc ra hx
          obtain ⟨c2, k2, d2⟩ := rp_sc rb hy
          exact ⟨c1, c2, v, v2, rfl, k1, k2, d1.ok w3.ex, d2.ok w3.ex, h2 _ Hk3 H2 ex3 w3 (itd2 d1 d2)⟩
    · exact h2.elim
  · exact h2.elim

/-! ### range -/
def rng (lo : Int) (n : Nat) : List D := (List.range n).map fun i => .int (lo + (i : Nat))
def mRange1 (ms : MA) : MI := fun env => R.bind (ms env) fun p => match rds p.2 p.1 with
  | some [.int j] => if -1000000 ≤ j ∧ j ≤ 1000000 then .ok (rng 0 j.toNat, p.2) else .stuck
  | _ => .stuck
def mRange2 (ms : MA) : MI := fun env => R.bind (ms env) fun p => match rds p.2 p.1 with
  | some [.int i, .int j] => if (-1000000 ≤ i ∧ i ≤ 1000000) ∧ -1000000 ≤ j ∧ j ≤ 1000000 then .ok (rng i (j - i).toNat, p.2) else .stuck
  | _ => .stuck
theorem itdR {lo : Int} {n : Nat} : ItD k (Itr lo n) Hk F (rng lo n) := by
  have l : (rng lo n).length = n := by simp [rng]
  refine ⟨fun i H e _ hi => ?_, fun i H e _ hi => ?_, fun {Hk2 F H σ env} i x H' ex w y hi => ?_⟩
  · rw [l] at hi
    exact hi
  · rw [l] at hi
    exact hi
  · obtain ⟨rfl, rfl⟩ := y
    rw [l] at hi
    refine ⟨.int (lo + (i : Nat)), Hk2, ?_, Ex.refl _, w, .int _⟩
    simp [rng, hi]
theorem tMI_range1 {ms : MA} {Q : It → Hp → Prop} (h : tMI k W (mRange1 ms) σ H Q) : iRng1 (tMA k W ms) σ H Q := by
  obtain ⟨Hk, F, env, w, h⟩ := h
  have b := h.bad
  refine seqA (Wl.nil w) b.exc b.ns fun ys e1 ws Hk1 H1 m1 ex1 w1 => ?_
  unfold mRange1 at h
  rw [m1] at h
  have h1 := WantI.mono h ex1
  rw [R.bind_ok] at h1
  simp only at h1
  have w1 : Wl k Hk1 F H1 σ e1 ws ys := w1
  split at h1
  · rename_i j hj
    split at h1
    · rename_i hb
      obtain ⟨v, rfl, r⟩ := (w1.rdNs hj).one
      cases r.int
      exact ⟨j, rfl, by omega, by omega, h1 _ Hk1 H1 (Ex.refl _) w1.base itdR⟩
    · exact h1.elim
  · exact h1.elim
theorem tMI_range2 {ms : MA} {Q : It → Hp → Prop} (h : tMI k W (mRange2 ms) σ H Q) : iRng2 (tMA k W ms) σ H Q := by
  obtain ⟨Hk, F, env, w, h⟩ := h
  have b := h.bad
  refine seqA (Wl.nil w) b.exc b.ns fun ys e1 ws Hk1 H1 m1 ex1 w1 => ?_
  unfold mRange2 at h
  rw [m1] at h
  have h1 := WantI.mono h ex1
  rw [R.bind_ok] at h1
  simp only at h1
  have w1 : Wl k Hk1 F H1 σ e1 ws ys := w1
  split at h1
  · rename_i i j hj
    split at h1
    · rename_i hb
      obtain ⟨v, u, rfl, r1, r2⟩ := (w1.rdNs hj).two
      cases r1.int
      cases r2.int
      exact ⟨i, j, rfl, ⟨by omega, by omega, by omega, by omega⟩, h1 _ Hk1 H1 (Ex.refl _) w1.base itdR⟩
    · exact h1.elim
  · exact h1.elim
end
end SW

/-! targets, list comprehensions -/
namespace SW
open PySem PySem.Spec L2 PyProof.Rows SWZ

/-- what a value is stored to: a name, several -/
inductive Tg where
  | nm (i : Nat)
  | tp (ts : List Tg)
mutual
def asgT : Tg → D → Env → Option Env
  | .nm i, d, env => if i < env.length then some (env.set i (some (.val d))) else none
  | .tp ts, .tup ds, env => asgTs ts ds env
  | .tp _, _, _ => none
def asgTs : List Tg → List D → Env → Option Env
  | [], [], env => some env
  | t :: ts, d :: ds, env => match asgT t d env with
    | some e => asgTs ts ds e
    | none => none
  | _, _, _ => none
end
mutual
def tgSl : Tg → List Nat
  | .nm i => [i]
  | .tp ts => tgSls ts
def tgSls : List Tg → List Nat
  | [] => []
  | t :: ts => tgSl t ++ tgSls ts
end
mutual
def tG (K : PySem.W.Frag) : Tg → TG
  | .nm i => gName i
  | .tp ts => gTup K ts.length (tGs K ts)
def tGs (K : PySem.W.Frag) : List Tg → TGs
  | [] => gNil
  | t :: ts => gCons (tG K t) (tGs K ts)
end
section
variable {k : Kn} {W : WX} {Hk F H : Hp} {σ : L2.St} {env : Env}
theorem Wd.setV {v : V} {d : D} {i : Nat} (w : Wd k Hk F H σ env) (r : Rp k Hk v d) (hi : i < σ.length) : Wd k Hk F H (σ.set i (some v)) (env.set i (some (.val d))) := (w.pushV r).store hi
mutual
theorem tG_ok : ∀ (t : Tg) {v : V} {d : D} {σ : L2.St} {env e' : Env} {Q : L2.St → Hp → Prop}, Wd k Hk F H σ env → Rp k Hk v d → asgT t d env = some e' →
    (∀ σ', Wd k Hk F H σ' e' → (∀ j, j ∉ tgSl t → σ'[j]? = σ[j]?) → σ'.length = σ.length → Q σ' H) → tG k.K t v σ H Q
  | .nm i, v, d, σ, env, e', Q, w, r, e, q => by
    unfold asgT at e
    split at e
    · rename_i hi
      cases e
      have hi' : i < σ.length := by rw [w.len]; exact hi
      exact q _ (w.setV r hi') (fun j hj => by
        have : i ≠ j := fun z => hj (by simp [tgSl, z])
        rw [List.getElem?_set_ne this]) (by simp)
    · cases e
  | .tp ts, v, .tup ds, σ, env, e', Q, w, r, e, q => by
    cases r with
    | tup h r =>
      have hl : ∀ (ts : List Tg) (ds : List D) (env : Env), asgTs ts ds env = some e' → ts.length = ds.length := by
        intro ts
        induction ts with
        | nil => intro ds env e; cases ds with
          | nil => rfl
          | cons _ _ => simp [asgTs] at e
        | cons t ts ih => intro ds env e; cases ds with
          | nil => simp [asgTs] at e
          | cons d ds =>
            simp only [asgTs] at e
            split at e
            · simp [ih _ _ e]
            · cases e
      exact ⟨_, _, rfl, SqT.of (w.ex _ _ h), by rw [r.len, hl _ _ _ e], tGs_ok ts w r e q⟩
  | .tp _, _, .non, _, _, _, _, _, _, e, _ => by simp [asgT] at e
  | .tp _, _, .bl _, _, _, _, _, _, _, e, _ => by simp [asgT] at e
  | .tp _, _, .int _, _, _, _, _, _, _, e, _ => by simp [asgT] at e
  | .tp _, _, .str _, _, _, _, _, _, _, e, _ => by simp [asgT] at e
  | .tp _, _, .lst _, _, _, _, _, _, _, e, _ => by simp [asgT] at e
  | .tp _, _, .dic _ _, _, _, _, _, _, _, e, _ => by simp [asgT] at e
  | .tp _, _, .ins _ _, _, _, _, _, _, _, e, _ => by simp [asgT] at e
  | .tp _, _, .xc _, _, _, _, _, _, _, e, _ => by simp [asgT] at e
theorem tGs_ok : ∀ (ts : List Tg) {vs : List V} {ds : List D} {σ : L2.St} {env e' : Env} {Q : L2.St → Hp → Prop}, Wd k Hk F H σ env → RpAll k Hk vs ds → asgTs ts ds env = some e' →
    (∀ σ', Wd k Hk F H σ' e' → (∀ j, j ∉ tgSls ts → σ'[j]? = σ[j]?) → σ'.length = σ.length → Q σ' H) → tGs k.K ts vs σ H Q
  | [], _, [], _, _, _, _, w, r, e, q => by
    cases r
    cases e
    exact ⟨rfl, q _ w (fun _ _ => rfl) rfl⟩
  | [], _, _ :: _, _, _, _, _, _, _, e, _ => by simp [asgTs] at e
  | _ :: _, _, [], _, _, _, _, _, _, e, _ => by simp [asgTs] at e
  | t :: ts, _, d :: ds, σ, env, e', Q, w, r, e, q => by
    cases r with
    | cons h r =>
      simp only [asgTs] at e
      split at e
      · rename_i e1 he
        exact ⟨_, _, rfl, tG_ok t w h he fun σ' w' k1 l1 => tGs_ok ts w' r e fun σ2 w2 k2 l2 => q σ2 w2 (fun j hj => by
          rw [k2 j fun z => hj (by simp [tgSls, z]), k1 j fun z => hj (by simp [tgSls, z])]) (l2.trans l1)⟩
      · cases e
end

/-! ### a comprehension's own names -/
def wipeE (env : Env) : List Nat → Env
  | [] => env
  | v :: vs => (wipeE env vs).set v none
def backE (e0 : Env) : List Nat → Env → Env
  | [], e => e
  | v :: vs, e => match e0[v]? with
    | some (some (.val d)) => (backE e0 vs e).set v (some (.val d))
    | _ => backE e0 vs e
theorem Wd.wipe (w : Wd k Hk F H σ env) : ∀ vs, Wd k Hk F H (wipe σ vs) (wipeE env vs)
  | [] => w
  | v :: vs => (Wd.wipe w vs).forget v none
theorem wipeE_len (env : Env) : ∀ vs, (wipeE env vs).length = env.length
  | [] => rfl
  | v :: vs => by simp [wipeE, wipeE_len env vs]
theorem wipe_at (σ : L2.St) (j : Nat) : ∀ vs, (L2.wipe σ vs)[j]? = if j ∈ vs then (σ[j]?).map fun _ => none else σ[j]?
  | [] => by simp [L2.wipe]
  | v :: vs => by
    unfold L2.wipe
    by_cases e : v = j
    · subst e
      rw [if_pos (by simp)]
      by_cases h : v < (L2.wipe σ vs).length
      · rw [List.getElem?_set_self h]
        rw [wipe_length] at h
        simp [h]
      · rw [List.getElem?_eq_none (by simpa using h)]
        rw [wipe_length] at h
        rw [List.getElem?_eq_none (by omega)]
        rfl
    · rw [List.getElem?_set_ne e, wipe_at σ j vs]
      have : j ∈ v :: vs ↔ j ∈ vs := by simp [Ne.symm e]
      simp only [this]
theorem wipe_same {σ σ2 : L2.St} {vs : List Nat} (h : ∀ j, j ∉ vs → σ2[j]? = σ[j]?) (l : σ2.length = σ.length) : L2.wipe σ2 vs = L2.wipe σ vs := by
  apply List.ext_getElem?
  intro j
  rw [wipe_at, wipe_at]
  by_cases hj : j ∈ vs
  · rw [if_pos hj, if_pos hj]
    by_cases h2 : j < σ.length
    · have h3 : j < σ2.length := by omega
      simp [h2, h3]
    · rw [List.getElem?_eq_none (by omega), List.getElem?_eq_none (by omega)]
  · rw [if_neg hj, if_neg hj, h j hj]
theorem wipe_wipe {σ : L2.St} {vs : List Nat} : L2.wipe (L2.wipe σ vs) vs = L2.wipe σ vs := wipe_same (fun j hj => by rw [wipe_at, if_neg hj]) (wipe_length _ _)
theorem Sl.any : ∀ {σ σ' : L2.St} {env : Env} {l : List Addr}, Sl k Hk H σ env l → σ'.length = σ.length → (∀ j : Nat, env[j]? = some none ∨ σ'[j]? = σ[j]?) → Sl k Hk H σ' env l
  | [], [], _, _, .nil, _, _ => .nil
  | [], _ :: _, _, _, .nil, h, _ => by simp at h
  | _ :: _, [], _, _, _, h, _ => by simp at h
  | x :: σ, y :: σ', _, _, .no h, hl, hj => .no (Sl.any h (by simpa using hl) fun j => by simpa using hj (j + 1))
  | _ :: σ, y :: σ', _, _, .yes r h, hl, hj => by
    have h0 := hj 0
    simp at h0
    subst h0
    exact .yes r (Sl.any h (by simpa using hl) fun j => by simpa using hj (j + 1))
theorem wipeE_at (e : Env) (j : Nat) : ∀ vs, j ∈ vs → j < e.length → (wipeE e vs)[j]? = some none
  | [], h, _ => by simp at h
  | v :: vs, h, hl => by
    unfold wipeE
    by_cases e1 : v = j
    · subst e1
      rw [List.getElem?_set_self (by rw [wipeE_len]; exact hl)]
    · rw [List.getElem?_set_ne e1]
      exact wipeE_at e j vs (by simpa [Ne.symm e1] using h) hl
theorem Wd.unwipe {vs : List Nat} (w : Wd k Hk F H (L2.wipe σ vs) (wipeE env vs)) : Wd k Hk F H σ (wipeE env vs) := by
  obtain ⟨fp, hs, nd, hd⟩ := w.sl
  have hl := w.len
  rw [wipe_length, wipeE_len] at hl
  refine ⟨w.ex, w.fr, w.dj, fp, hs.any (wipe_length _ _).symm fun j => ?_, nd, hd⟩
  by_cases hj : j ∈ vs
  · by_cases h2 : j < env.length
    · exact .inl (wipeE_at env j vs hj h2)
    · right
      rw [List.getElem?_eq_none (by omega), List.getElem?_eq_none (by rw [wipe_length]; omega)]
  · right
    rw [wipe_at, if_neg hj]
theorem Wd.back {e0 e : Env} {Hk0 F0 H0 : Hp} (w0 : Wd k Hk0 F0 H0 σ e0) (ex : Ex Hk0 Hk) (w : Wd k Hk F H σ e) : ∀ vs, Wd k Hk F H σ (backE e0 vs e)
  | [] => w
  | v :: vs => by
    have ih := Wd.back w0 ex w vs
    unfold backE
    split
    · rename_i d hd
      obtain ⟨u, h1, h2⟩ := w0.take hd
      have h3 := ih.setV (h2.topV.mono ex) (i := v) (List.getElem?_eq_some_iff.mp h1).1
      have e1 : σ.set v (some u) = σ := by
        apply List.ext_getElem?
        intro j
        by_cases hj : v = j
        · subst hj
          rw [List.getElem?_set_self (List.getElem?_eq_some_iff.mp h1).1, h1]
        · rw [List.getElem?_set_ne hj]
      rw [e1] at h3
      exact h3
    · exact ih

def compLoop (t : Tg) (vs : List Nat) (mt : MT) (me : ME) : List D → List D → Env → R (List D × Env)
  | [], acc, env => .ok (acc, env)
  | d :: ds, acc, env => match asgT t d (wipeE env vs) with
    | none => .stuck
    | some e1 => match mt e1 with
      | .ok (true, e2) => match me e2 with
        | .ok (x, e3) => match frz1 e3 x with
          | some (y, e4) => if acc.length < LIM then compLoop t vs mt me ds (acc ++ [y]) e4 else .stuck
          | none => .stuck
        | _ => .stuck
      | .ok (false, e2) => compLoop t vs mt me ds acc e2
      | _ => .stuck
/-- [me for t in mi if mt] -/
def mComp (mi : MI) (t : Tg) (vs : List Nat) (mt : MT) (me : ME) : ME := fun env => R.bind (mi env) fun p => match compLoop t vs mt me p.1 [] p.2 with
  | .ok (acc, e2) => .ok (.ob (.lst acc), backE p.2 vs (wipeE e2 vs))
  | _ => .stuck
def mYes : MT := fun env => .ok (true, env)
abbrev W0 : WX := fun _ _ _ _ => False
theorem tMT_yes {Q : Bool → Hp → Prop} (h : tMT k W mYes σ H Q) : tYes σ H Q := by
  obtain ⟨Hk, F, env, w, h⟩ := h
  exact h Hk H (Ex.refl _) w
theorem comp_ok {t : Tg} {vs : List Nat} {mt : MT} {me : ME} {J : It} {ds accF : List D} {eF : Env} {Hk0 : Hp} {Qd : Addr → Hp → Prop} {Dl : Addr} {H1 : Hp} {e1 : Env} (hv : ∀ j ∈ tgSl t, j ∈ vs) (hJ : ItD k J Hk0 F ds) (w1 : Wd k Hk0 F H1 σ e1) (hD : H1 Dl = none)
    (hc : compLoop t vs mt me ds [] e1 = .ok (accF, eF)) (hq : ∀ Hk H, Ex Hk0 Hk → Wd k Hk F H (some (.ref Dl) :: L2.wipe σ vs) (some (.lst accF) :: wipeE eF vs) → Qd Dl H) :
    ∃ Wv : Nat → Nat → Hp → Prop, (∃ m, Wv 0 m (upd H1 Dl (.lst []))) ∧ ∀ i m H, Wv i m H → (J.stop i H ∧ Qd Dl H) ∨ (J.go i H ∧ ∃ Nx : Hp → Prop, (∀ H', Nx H' → ∃ m', m' < m ∧ Wv (i + 1) m' H') ∧ ∀ x H', J.yld i H x H' →
      tG k.K t x (L2.wipe σ vs) H' fun σ2 H2 => L2.wipe σ2 vs = L2.wipe σ vs ∧ tMT k W0 mt σ2 H2 fun b H3 => if b = true then tM k W0 me σ2 H3 fun y H4 => ∃ acc, H4 Dl = some (.lst acc) ∧ acc.length < sizeLine ∧ Nx (upd H4 Dl (.lst (acc ++ [y]))) else Nx H3) := by
  refine ⟨fun i m H => ∃ Hk env acc, m = ds.length - i ∧ i ≤ ds.length ∧ Ex Hk0 Hk ∧ Wd k Hk F H (some (.ref Dl) :: L2.wipe σ vs) (some (.lst acc) :: wipeE env vs) ∧ compLoop t vs mt me (ds.drop i) acc env = .ok (accF, eF), ⟨ds.length, Hk0, e1, [], by simp, Nat.zero_le _, Ex.refl _, ?_, by simpa using hc⟩, ?_⟩
  · exact (w1.wipe vs).push (Ex.new hD) (.lst upd_same .nil) (by simp) (fun a h => by simp at h; subst h; exact hD)
  rintro i m H ⟨Hk, env, acc, rfl, hi, ex, w, hc⟩
  by_cases hlt : i < ds.length
  · refine .inr ⟨hJ.go i H (ex.trans w.ex) w.fr hlt, fun H' => ∃ Hk env acc, Ex Hk0 Hk ∧ Wd k Hk F H' (some (.ref Dl) :: L2.wipe σ vs) (some (.lst acc) :: wipeE env vs) ∧ compLoop t vs mt me (ds.drop (i + 1)) acc env = .ok (accF, eF),
      fun H' ⟨Hk', env', acc', a, b, c⟩ => ⟨ds.length - (i + 1), by omega, Hk', env', acc', rfl, hlt, a, b, c⟩, fun x H' hy => ?_⟩
    obtain ⟨F2, w2, back⟩ := w.aside1
    obtain ⟨d, Hk3, hd, ex3, w3, r3⟩ := hJ.yld i x H' ex w2 hy hlt
    have hdrop : ds.drop i = d :: ds.drop (i + 1) := by
      rw [List.drop_eq_getElem_cons hlt]
      congr 1
      have := List.getElem?_eq_getElem hlt
      rw [hd] at this
      exact (Option.some.inj this).symm
    rw [hdrop] at hc
    unfold compLoop at hc
    split at hc
    · cases hc
    · rename_i e1' he1
      refine tG_ok t w3 r3 he1 fun σ2 w4 k4 l4 => ?_
      have hw : L2.wipe σ2 vs = L2.wipe σ vs := by
        rw [← wipe_wipe (σ := σ)]
        exact wipe_same (fun j hj => k4 j fun z => hj (hv j z)) l4
      refine ⟨hw, Hk3, F2, e1', w4, ?_⟩
      split at hc
      · rename_i e2 hm
        rw [hm]
        intro Hk4 H4 ex4 w5
        rw [if_pos rfl]
        refine ⟨Hk4, F2, e2, w5, ?_⟩
        split at hc
        · rename_i x2 e3 hm2
          rw [hm2]
          intro v Hk5 H5 ex5 w6
          split at hc
          · rename_i y e4 hf
            split at hc
            · rename_i hl
              obtain ⟨Hk6, ex6, w7, r7⟩ := w6.frz1 hf
              have w8 := back Hk6 H5 _ _ (((ex3.trans ex4).trans ex5).trans ex6) (w7.base.wipe vs)
              rw [hw] at w8
              obtain ⟨l, rl⟩ := w8.top
              cases rl with
              | lst hH rA =>
                rename_i accV
                refine ⟨accV, hH, by rw [rA.len]; exact Nat.lt_of_lt_of_le hl (by decide), Hk6, e4, acc ++ [y], ((((ex.trans ex3).trans ex4).trans ex5).trans ex6), ?_, hc⟩
                refine w8.mut fun l2 r2 n2 h2 => ?_
                cases r2 with
                | lst hH2 rA2 =>
                  rw [hH] at hH2
                  cases hH2
                  exact ⟨.lst upd_same (rA2.append (.cons r7 .nil)), fun a ha => upd_ne (by simpa using ha)⟩
            · cases hc
          · cases hc
        · cases hc
      · rename_i e2 hm
        rw [hm]
        intro Hk4 H4 ex4 w5
        rw [if_neg Bool.false_ne_true]
        have w8 := back Hk4 H4 _ _ (ex3.trans ex4) (w5.wipe vs)
        rw [hw] at w8
        exact ⟨Hk4, e2, acc, (ex.trans ex3).trans ex4, w8, hc⟩
      · cases hc
  · have e : i = ds.length := by omega
    subst e
    rw [List.drop_length] at hc
    unfold compLoop at hc
    cases hc
    exact .inl ⟨hJ.stop _ H (ex.trans w.ex) w.fr (Nat.le_refl _), hq Hk H ex w⟩
theorem tM_comp {mi : MI} {t : Tg} {vs : List Nat} {mt : MT} {me : ME} {Q : VK} (hv : ∀ j ∈ tgSl t, j ∈ vs) (h : tM k W (mComp mi t vs mt me) σ H Q) : tLc (tMI k W mi) (tG k.K t) (tMT k W0 mt) (tM k W0 me) vs σ H Q := by
  obtain ⟨Hk, F, env, w, h⟩ := h
  have b := h.bad
  refine ⟨Hk, F, env, w, ?_⟩
  unfold mComp at h
  cases m1 : mi env with
  | stuck => rw [m1] at h; exact h
  | exc c fs e' => rw [m1] at h; exact h
  | ok p =>
    obtain ⟨ds, e1⟩ := p
    rw [m1] at h
    intro J Hk1 H1 ex1 w1 hJ Dl hD
    have h1 := WantE.mono h ex1
    rw [R.bind_ok] at h1
    simp only at h1
    split at h1
    · rename_i acc e2 hc
      refine comp_ok (Qd := fun Dl H => Q (.ref Dl) H) hv hJ w1 hD hc fun Hk2 H2 ex2 w2 => ?_
      obtain ⟨F2, w3, back⟩ := w2.aside1
      have w4 := back Hk2 H2 _ _ (Ex.refl _) (w1.back ex2 w3.unwipe vs)
      exact h1 _ Hk2 H2 ex2 (Wl.one w4)
    · exact h1.elim
end
end SW

/-! statements -/
namespace SW
open PySem PySem.Spec L2 PyProof.Rows SWZ

/-- a statement's end -/
inductive RS where
  | nx (e : Env)
  | rt (x : Vr) (e : Env)
  | bk (e : Env)
  | ct (e : Env)
  | exc (c : Str) (fs : List (Str × D)) (e : Env)
  | stuck
abbrev MS := Env → RS
def R.sb {α : Type} : R α → (α → RS) → RS
  | .ok a, f => f a
  | .exc c fs e, _ => .exc c fs e
  | .stuck, _ => .stuck
/-- the parameters that others hold, and what stands in them -/
structure Pn where
  ms : List Bool
  vs : List V
def Pn.In (P : Pn) (σ : L2.St) : Prop := ∀ (i : Nat) (v : V), P.ms[i]? = some true → P.vs[i]? = some v → σ[i]? = some (some v)
theorem Pn.In.set {P : Pn} {σ : L2.St} {i : Nat} {x : Option V} (p : P.In σ) (h : (P.ms[i]? == some true) = false) : P.In (σ.set i x) := fun j v a b => by
  have : i ≠ j := fun z => by
    subst z
    rw [a] at h
    simp at h
  rw [List.getElem?_set_ne this]
  exact p j v a b
theorem Pn.In.same {P : Pn} {σ σ' : L2.St} {l : List Nat} (p : P.In σ) (h : ∀ j : Nat, j ∉ l → σ'[j]? = σ[j]?) (hl : l.all (fun i => !(P.ms[i]? == some true)) = true) : P.In σ' := fun j v a b => by
  rw [h j fun z => ?_]
  · exact p j v a b
  · have := List.all_eq_true.mp hl j z
    rw [a] at this
    simp at this
def WantS (k : Kn) (W : WX) (P : Pn) (Hk F : Hp) (D : Ends) : RS → Prop
  | .nx e => ∀ σ Hk' H', Ex Hk Hk' → Wd k Hk' F H' σ e → P.In σ → D.nx σ H'
  | .rt x e => ∀ v σ Hk' H', Ex Hk Hk' → Wl k Hk' F H' σ e [v] [x] → P.In σ → D.rt v H'
  | .bk e => ∀ σ Hk' H', Ex Hk Hk' → Wd k Hk' F H' σ e → P.In σ → D.bk σ H'
  | .ct e => ∀ σ Hk' H', Ex Hk Hk' → Wd k Hk' F H' σ e → P.In σ → D.ct σ H'
  | .exc c fs e => ∀ cls dd σ Hk' H', Ex Hk Hk' → Wd k Hk' F H' σ e → P.In σ → XcOk k Hk' H' c fs cls dd → W cls dd σ H'
  | .stuck => False
def tMS (k : Kn) (W : WX) (P : Pn) (m : MS) : TS := fun D σ H => ∃ Hk F env, Wd k Hk F H σ env ∧ P.In σ ∧ WantS k W P Hk F D (m env)
theorem PS.imp {X : Cx} {s : Stmt} {t t' : TS} (h : PS X s t) (i : ∀ D σ H, t' D σ H → t D σ H) : PS X s t' := ⟨fun pins s σ H D I q => h.run pins s σ H D I (i D σ H q)⟩
theorem PSs.imp {X : Cx} {s : List Stmt} {t t' : TS} (h : PSs X s t) (i : ∀ D σ H, t' D σ H → t D σ H) : PSs X s t' := ⟨fun pins s σ H D I q => h.run pins s σ H D I (i D σ H q)⟩
abbrev PMS (X : Cx) (G : Gn) (W : WX) (P : Pn) (s : Stmt) (m : MS) : Prop := PS X s (tMS (mkK X.K G) W P m)
abbrev PMSs (X : Cx) (G : Gn) (W : WX) (P : Pn) (s : List Stmt) (m : MS) : Prop := PSs X s (tMS (mkK X.K G) W P m)

/-! ### what statements come to -/
def mNext : MS := fun env => .nx env
def mBreak : MS := fun env => .bk env
def mCont : MS := fun env => .ct env
def mSeq (a b : MS) : MS := fun env => match a env with
  | .nx e => b e
  | r => r
def mIfS (t : MT) (a b : MS) : MS := fun env => R.sb (t env) fun p => if p.1 = true then a p.2 else b p.2
def mExpr (m : ME) : MS := fun env => R.sb (m env) fun p => .nx p.2
def mRet (m : ME) : MS := fun env => R.sb (m env) fun p => .rt p.1 p.2
def mRetN : MS := fun env => .rt (.ob (.val .non)) env
def setO (i : Nat) (o : O) (e : Env) : RS := if i < e.length then .nx (e.set i (some o)) else .stuck
/-- a name's new value: an object made here stays one's own -/
def mSet (i : Nat) (m : ME) : MS := fun env => R.sb (m env) fun p => match p.1 with
  | .ob o => setO i o p.2
  | .sl j => match frz1 p.2 (.sl j) with
    | some (d, e) => setO i (.val d) e
    | none => .stuck
/-- t = e -/
def mAsg (t : Tg) (m : ME) : MS := fun env => R.sb (m env) fun p => match frz1 p.2 p.1 with
  | some (d, e) => match asgT t d e with
    | some e2 => .nx e2
    | none => .stuck
  | none => .stuck
/-- a, b = e, f -/
def mPar (i j : Nat) (ms : MA) : MS := fun env => R.sb (ms env) fun p => match frzs p.2 p.1 with
  | some ([a, b], e) => if i < e.length ∧ j < e.length then .nx ((e.set i (some (.val a))).set j (some (.val b))) else .stuck
  | _ => .stuck
/-- a op= e -/
def mAug (f : D → D → Option O) (i : Nat) (m : ME) : MS := fun env => match env[i]? with
  | some (some (.val d)) => R.sb (m env) fun p => match (rd p.2 p.1).bind (f d) with
    | some o => setO i o p.2
    | none => .stuck
  | _ => .stuck
def mRaise (c : Str) : MS := fun env => .exc c [] env
def putD (kvs : List (D × D)) (d x : D) : List (D × D) := if (kvs.any fun p => eqD p.1 d) = true then kvs.map (fun p => if eqD p.1 d = true then (p.1, x) else p) else kvs ++ [(d, x)]
/-- d[k] = e, d one's own -/
def mDput (i : Nat) (mk mv : ME) : MS := fun env => R.sb (mv env) fun p => R.sb (mk p.2) fun q => match rd q.2 q.1, frz1 q.2 p.1 with
  | some y, some (x, e) => match e[i]? with
    | some (some (.dic t kvs)) => if keyOk t y = true ∧ kvs.length < LIM then .nx (e.set i (some (.dic t (putD kvs y x)))) else .stuck
    | _ => .stuck
  | _, _ => .stuck
def forLoop (t : Tg) (body : MS) : List D → Env → RS
  | [], env => .nx env
  | d :: ds, env => match asgT t d env with
    | none => .stuck
    | some e1 => match body e1 with
      | .nx e => forLoop t body ds e
      | .ct e => forLoop t body ds e
      | .bk e => .nx e
      | r => r
def mFor (mi : MI) (t : Tg) (body : MS) : MS := fun env => R.sb (mi env) fun p => forLoop t body p.1 p.2

section
variable {k : Kn} {W : WX} {P : Pn} {Hk F H : Hp} {σ : L2.St} {env : Env} {D : Ends}
theorem WantS.mono {Hk1 : Hp} {r : RS} (h : WantS k W P Hk F D r) (e : Ex Hk Hk1) : WantS k W P Hk1 F D r := by
  cases r with
  | nx e' => exact fun σ Hk' H' ex w p => h σ Hk' H' (e.trans ex) w p
  | rt x e' => exact fun v σ Hk' H' ex w p => h v σ Hk' H' (e.trans ex) w p
  | bk e' => exact fun σ Hk' H' ex w p => h σ Hk' H' (e.trans ex) w p
  | ct e' => exact fun σ Hk' H' ex w p => h σ Hk' H' (e.trans ex) w p
  | exc c fs e' => exact fun cls dd σ Hk' H' ex w p x => h cls dd σ Hk' H' (e.trans ex) w p x
  | stuck => exact h
theorem sb_ok {α : Type} {a : α} {f : α → RS} : R.sb (.ok a) f = f a := rfl
/-- an expression ahead of more -/
theorem seqES {m : ME} {f : Vr × Env → RS} {Kt : VK} (w : Wd k Hk F H σ env) (p : P.In σ) (h : WantS k W P Hk F D (R.sb (m env) f))
    (hk : ∀ x e' v Hk' H', Ex Hk Hk' → Wl k Hk' F H' σ e' [v] [x] → WantS k W P Hk' F D (f (x, e')) → Kt v H') : tM k W m σ H Kt := by
  refine ⟨Hk, F, env, w, ?_⟩
  cases e : m env with
  | stuck =>
    rw [e] at h
    exact h.elim
  | exc c fs e' =>
    rw [e] at h
    exact fun cls dd Hk' H' ex w' xc => h cls dd σ Hk' H' ex w' p xc
  | ok q =>
    obtain ⟨x, e'⟩ := q
    rw [e] at h
    exact fun v Hk' H' ex w' => hk x e' v Hk' H' ex w' (WantS.mono h ex)
theorem seqTS {m : MT} {f : Bool × Env → RS} {Kt : Bool → Hp → Prop} (w : Wd k Hk F H σ env) (p : P.In σ) (h : WantS k W P Hk F D (R.sb (m env) f))
    (hk : ∀ b e' Hk' H', Ex Hk Hk' → Wd k Hk' F H' σ e' → WantS k W P Hk' F D (f (b, e')) → Kt b H') : tMT k W m σ H Kt := by
  refine ⟨Hk, F, env, w, ?_⟩
  cases e : m env with
  | stuck =>
    rw [e] at h
    exact h.elim
  | exc c fs e' =>
    rw [e] at h
    exact fun cls dd Hk' H' ex w' xc => h cls dd σ Hk' H' ex w' p xc
  | ok q =>
    obtain ⟨x, e'⟩ := q
    rw [e] at h
    exact fun Hk' H' ex w' => hk x e' Hk' H' ex w' (WantS.mono h ex)
theorem seqAS {m : MA} {f : List Vr × Env → RS} {Kt : List V → Hp → Prop} (w : Wd k Hk F H σ env) (p : P.In σ) (h : WantS k W P Hk F D (R.sb (m env) f))
    (hk : ∀ xs e' vs Hk' H', Ex Hk Hk' → Wl k Hk' F H' σ e' vs xs → WantS k W P Hk' F D (f (xs, e')) → Kt vs H') : tMA k W m σ H Kt := by
  refine ⟨Hk, F, env, w, ?_⟩
  cases e : m env with
  | stuck =>
    rw [e] at h
    exact h.elim
  | exc c fs e' =>
    rw [e] at h
    exact fun cls dd Hk' H' ex w' xc => h cls dd σ Hk' H' ex w' p xc
  | ok q =>
    obtain ⟨x, e'⟩ := q
    rw [e] at h
    exact fun v Hk' H' ex w' => hk x e' v Hk' H' ex w' (WantS.mono h ex)
theorem seqIS {m : MI} {f : List SW.D × Env → RS} {Kt : It → Hp → Prop} (w : Wd k Hk F H σ env) (p : P.In σ) (h : WantS k W P Hk F D (R.sb (m env) f))
    (hk : ∀ ds e' J Hk' H', Ex Hk Hk' → Wd k Hk' F H' σ e' → ItD k J Hk' F ds → WantS k W P Hk' F D (f (ds, e')) → Kt J H') : tMI k W m σ H Kt := by
  refine ⟨Hk, F, env, w, ?_⟩
  cases e : m env with
  | stuck =>
    rw [e] at h
    exact h.elim
  | exc c fs e' =>
    rw [e] at h
    exact fun cls dd Hk' H' ex w' xc => h cls dd σ Hk' H' ex w' p xc
  | ok q =>
    obtain ⟨x, e'⟩ := q
    rw [e] at h
    exact fun J Hk' H' ex w' i => hk x e' J Hk' H' ex w' i (WantS.mono h ex)
theorem tMS_next (h : tMS k W P mNext D σ H) : tNext D σ H := by
  obtain ⟨Hk, F, env, w, p, h⟩ := h
  exact h σ Hk H (Ex.refl _) w p
theorem tMS_break (h : tMS k W P mBreak D σ H) : tBreak D σ H := by
  obtain ⟨Hk, F, env, w, p, h⟩ := h
  exact h σ Hk H (Ex.refl _) w p
theorem tMS_cont (h : tMS k W P mCont D σ H) : tCont D σ H := by
  obtain ⟨Hk, F, env, w, p, h⟩ := h
  exact h σ Hk H (Ex.refl _) w p
theorem tMS_seq {a b : MS} (h : tMS k W P (mSeq a b) D σ H) : tSeq (tMS k W P a) (tMS k W P b) D σ H := by
  obtain ⟨Hk, F, env, w, p, h⟩ := h
  refine ⟨Hk, F, env, w, p, ?_⟩
  unfold mSeq at h
  cases e : a env with
  | nx e1 =>
    rw [e] at h
    exact fun σ' Hk' H' ex w' p' => ⟨Hk', F, e1, w', p', WantS.mono h ex⟩
  | rt x e1 => rw [e] at h; exact h
  | bk e1 => rw [e] at h; exact h
  | ct e1 => rw [e] at h; exact h
  | exc c fs e1 => rw [e] at h; exact h
  | stuck => rw [e] at h; exact h
theorem tMS_if {t : MT} {a b : MS} (h : tMS k W P (mIfS t a b) D σ H) : tIfS (tMT k W t) (tMS k W P a) (tMS k W P b) D σ H := by
  obtain ⟨Hk, F, env, w, p, h⟩ := h
  refine seqTS w p h fun b e' Hk' H' ex w' h' => ?_
  cases b with
  | true => exact ⟨Hk', F, e', w', p, h'⟩
  | false => exact ⟨Hk', F, e', w', p, h'⟩
theorem tMS_expr {m : ME} (h : tMS k W P (mExpr m) D σ H) : tDrop (tM k W m) D σ H := by
  obtain ⟨Hk, F, env, w, p, h⟩ := h
  exact seqES w p h fun x e' v Hk' H' ex w' h' => h' σ Hk' H' (Ex.refl _) w'.base p
theorem tMS_ret {m : ME} (h : tMS k W P (mRet m) D σ H) : tRet (tM k W m) D σ H := by
  obtain ⟨Hk, F, env, w, p, h⟩ := h
  exact seqES w p h fun x e' v Hk' H' ex w' h' => h' v σ Hk' H' (Ex.refl _) w' p
theorem tMS_retN (h : tMS k W P mRetN D σ H) : tRetN D σ H := by
  obtain ⟨Hk, F, env, w, p, h⟩ := h
  exact h .non σ Hk H (Ex.refl _) (Wl.val w .non) p
theorem setO_ok {i : Nat} {o : O} {v : V} (w : Wd k Hk F H (some v :: σ) (some o :: env)) (p : P.In σ) (hi : (P.ms[i]? == some true) = false) (h : WantS k W P Hk F D (setO i o env)) : D.nx (σ.set i (some v)) H := by
  unfold setO at h
  split at h
  · rename_i hl
    have e := w.drop.len
    exact h _ Hk H (Ex.refl _) (w.store (by omega)) (p.set hi)
  · exact h.elim
theorem tMS_set {i : Nat} {m : ME} (hi : (P.ms[i]? == some true) = false) (h : tMS k W P (mSet i m) D σ H) : tAsg (tM k W m) (gName i) D σ H := by
  obtain ⟨Hk, F, env, w, p, h⟩ := h
  refine seqES w p h fun x e' v Hk' H' ex w' h' => ?_
  show D.nx _ _
  cases x with
  | ob o => exact setO_ok w'.w p hi h'
  | sl j =>
    simp only at h'
    split at h'
    · rename_i d e hd
      obtain ⟨Hk2, ex2, w2, r2⟩ := w'.frz1 hd
      exact setO_ok (w2.base.pushV r2) p hi (WantS.mono h' ex2)
    · exact h'.elim
theorem tMS_asg {t : Tg} {m : ME} (hi : (tgSl t).all (fun i => !(P.ms[i]? == some true)) = true) (h : tMS k W P (mAsg t m) D σ H) : tAsg (tM k W m) (tG k.K t) D σ H := by
  obtain ⟨Hk, F, env, w, p, h⟩ := h
  refine seqES w p h fun x e' v Hk' H' ex w' h' => ?_
  simp only at h'
  split at h'
  · rename_i d e hd
    obtain ⟨Hk2, ex2, w2, r2⟩ := w'.frz1 hd
    split at h'
    · rename_i e2 ha
      exact tG_ok t w2.base r2 ha fun σ' w3 same len => h' σ' Hk2 H' ex2 w3 (p.same same hi)
    · exact h'.elim
  · exact h'.elim
theorem tMS_par {i j : Nat} {ms : MA} (hi : (P.ms[i]? == some true) = false) (hj : (P.ms[j]? == some true) = false) (h : tMS k W P (mPar i j ms) D σ H) : tPar i j (tMA k W ms) D σ H := by
  obtain ⟨Hk, F, env, w, p, h⟩ := h
  refine seqAS w p h fun xs e' vs Hk' H' ex w' h' => ?_
  simp only at h'
  split at h'
  · rename_i a b e hd
    split at h'
    · rename_i hl
      obtain ⟨Hk2, ex2, w2, r2⟩ := w'.frzs hd
      cases r2 with
      | cons r2 r3 =>
        cases r3 with
        | cons r3 r4 =>
          cases r4
          have e1 := w2.len
          refine ⟨_, _, rfl, h' _ Hk2 H' ex2 ((w2.setV r2 (by omega)).setV r3 (by simp; omega)) ((p.set hi).set hj)⟩
    · exact h'.elim
  · exact h'.elim
theorem tMS_aug {f : SW.D → SW.D → Option O} {r : TIp} {i : Nat} {m : ME} (hs : OpS k r f) (hi : (P.ms[i]? == some true) = false) (h : tMS k W P (mAug f i m) D σ H) : tAug i (tM k W m) r D σ H := by
  obtain ⟨Hk, F, env, w, p, h⟩ := h
  unfold mAug at h
  split at h
  · rename_i d hd
    obtain ⟨v0, h0, w0⟩ := w.take hd
    have r0 := w0.topV
    refine ⟨v0, h0, seqES w p h fun x e' v Hk' H' ex w' h' => ?_⟩
    simp only at h'
    cases e : rd e' x with
    | none => rw [e] at h'; exact h'.elim
    | some y =>
      rw [e] at h'
      simp only [Option.bind] at h'
      cases e2 : f d y with
      | none => rw [e2] at h'; exact h'.elim
      | some o =>
        rw [e2] at h'
        refine hs w'.base (RpN.of (r0.mono ex)) (w'.rdN (j := 0) rfl rfl e) e2 fun z Hk2 H2 ex2 w2 => ?_
        exact setO_ok w2.w p hi (WantS.mono h' ex2)
  · exact h.elim
theorem tMS_raise {c : Str} {C : Addr} (hC : k.G c = some C) (h : tMS k W P (mRaise c) D σ H) : W (.ref C) none σ H := by
  obtain ⟨Hk, F, env, w, p, h⟩ := h
  exact h _ _ σ Hk H (Ex.refl _) w p ⟨C, hC, rfl, .inl ⟨rfl, rfl⟩⟩
theorem tMS_for {mi : MI} {t : Tg} {body : MS} (hi : (tgSl t).all (fun i => !(P.ms[i]? == some true)) = true) (h : tMS k W P (mFor mi t body) D σ H) : tFor (tMI k W mi) (tG k.K t) (tMS k W P body) D σ H := by
  obtain ⟨Hk, F, env, w, p, h⟩ := h
  refine seqIS w p h fun ds e' J Hk1 H1 ex w1 hJ h' => ?_
  simp only at h'
  refine ⟨fun i m σ H => ∃ Hk env, m = ds.length - i ∧ i ≤ ds.length ∧ Ex Hk1 Hk ∧ Wd k Hk F H σ env ∧ P.In σ ∧ WantS k W P Hk F D (forLoop t body (ds.drop i) env), ⟨ds.length, Hk1, e', by simp, Nat.zero_le _, Ex.refl _, w1, p, by simpa using h'⟩, ?_⟩
  rintro i m σ H ⟨Hk, env, rfl, hl, ex1, w2, p2, hw⟩
  by_cases hlt : i < ds.length
  · refine .inr ⟨hJ.go i H (ex1.trans w2.ex) w2.fr hlt, fun σ H => ∃ Hk env, Ex Hk1 Hk ∧ Wd k Hk F H σ env ∧ P.In σ ∧ WantS k W P Hk F D (forLoop t body (ds.drop (i + 1)) env),
      fun σ' H' ⟨Hk', env', a⟩ => ⟨ds.length - (i + 1), by omega, Hk', env', rfl, hlt, a⟩, fun x H' hy => ?_⟩
    obtain ⟨d, Hk3, hd, ex3, w3, r3⟩ := hJ.yld i x H' ex1 w2 hy hlt
    have hdrop : ds.drop i = d :: ds.drop (i + 1) := by
      rw [List.drop_eq_getElem_cons hlt]
      congr 1
      have := List.getElem?_eq_getElem hlt
      rw [hd] at this
      exact (Option.some.inj this).symm
    rw [hdrop] at hw
    unfold forLoop at hw
    split at hw
    · exact hw.elim
    · rename_i e1 he1
      refine tG_ok t w3 r3 he1 fun σ2 w4 same len => ⟨Hk3, F, e1, w4, p2.same same hi, ?_⟩
      have hw := WantS.mono hw ex3
      cases eb : body e1 with
      | nx e2 =>
        rw [eb] at hw
        exact fun σ5 Hk5 H5 ex5 w5 p5 => ⟨Hk5, e2, (ex1.trans ex3).trans ex5, w5, p5, WantS.mono hw ex5⟩
      | ct e2 =>
        rw [eb] at hw
        exact fun σ5 Hk5 H5 ex5 w5 p5 => ⟨Hk5, e2, (ex1.trans ex3).trans ex5, w5, p5, WantS.mono hw ex5⟩
      | bk e2 => rw [eb] at hw; exact hw
      | rt x2 e2 => rw [eb] at hw; exact hw
      | exc c fs e2 => rw [eb] at hw; exact hw
      | stuck => rw [eb] at hw; exact hw
  · have e : i = ds.length := by omega
    subst e
    rw [List.drop_length] at hw
    exact .inl ⟨hJ.stop _ H (ex1.trans w2.ex) w2.fr (Nat.le_refl _), hw σ Hk H (Ex.refl _) w2 p2⟩
end
end SW

/-! defs and their calls -/
namespace SW
open PySem PySem.Spec L2 PyProof.Rows SWZ

/-- a def's end: what it gives, what it leaves of the parameters that others hold -/
inductive RF where
  | ok (o : O) (io : List O)
  | exc (c : Str) (fs : List (Str × D)) (io : List O)
  | stuck
abbrev MF := List O → RF
def selV {α : Type} : List Bool → List α → List α
  | true :: ms, v :: vs => v :: selV ms vs
  | false :: ms, _ :: vs => selV ms vs
  | _, _ => []
def selO : List Bool → Env → Option (List O)
  | [], _ => some []
  | true :: ms, some o :: e => if o.nf = true then (selO ms e).map (o :: ·) else none
  | false :: ms, _ :: e => selO ms e
  | _, _ => none
def WantF (k : Kn) (Hk F : Hp) (sel : List V) (Q : VK) (E : XK) : RF → Prop
  | .ok o io => ∀ v Hk' H', Ex Hk Hk' → Wd k Hk' F H' (some v :: sel.map some) (some o :: io.map some) → Q v H'
  | .exc c fs io => ∀ cls dd Hk' H', Ex Hk Hk' → Wd k Hk' F H' (sel.map some) (io.map some) → XcOk k Hk' H' c fs cls dd → E cls dd H'
  | .stuck => False
/-- a def's promise, by its mirror; ms: which parameters others hold -/
def spM (k : Kn) (ms : List Bool) (m : MF) : Sp := fun vs H Q E => vs.length = ms.length ∧ ∃ Hk F os, Wd k Hk F H (vs.map some) (os.map some) ∧ WantF k Hk F (selV ms vs) Q E (m os)
def outF (ms : List Bool) (o : O) (e : Env) : RF := match o.nf, selO ms e with
  | true, some io => .ok o io
  | _, _ => .stuck
def endF (ms : List Bool) : RS → RF
  | .nx e => outF ms (.val .non) e
  | .rt (.ob o) e => outF ms o e
  | .rt (.sl i) e => if ms[i]? == some true then .stuck else match e[i]? with
    | some (some o) => outF ms o (e.set i none)
    | _ => .stuck
  | .exc c fs e => match selO ms e with
    | some io => .exc c fs io
    | none => .stuck
  | _ => .stuck
/-- a def: n names, ms its parameters, m its body -/
def mDef (n : Nat) (ms : List Bool) (m : MS) : MF := fun os => if os.length = ms.length then endF ms (m (os.map some ++ List.replicate (n - os.length) none)) else .stuck

section
variable {k : Kn} {W : WX} {Hk F H : Hp} {σ : L2.St} {env : Env} {Q : VK}
theorem Sl.sel : ∀ {ms : List Bool} {vs : List V} {σ : L2.St} {env : Env} {l : List Addr} {io : List O}, Sl k Hk H σ env l → vs.length = ms.length → (∀ (i : Nat) (v : V), ms[i]? = some true → vs[i]? = some v → σ[i]? = some (some v)) → selO ms env = some io →
    ∃ fp, Sl k Hk H ((selV ms vs).map some) (io.map some) fp ∧ fp.Sublist l
  | [], vs, σ, env, l, io, h, _, _, e => by
    simp only [selO] at e
    cases e
    refine ⟨[], ?_, by simp⟩
    cases vs <;> exact .nil
  | _ :: _, [], _, _, _, _, _, hl, _, _ => by simp at hl
  | true :: ms, v :: vs, _, some o :: env, _, io, .yes (v := v') (l1 := l1) r h, hl, hp, e => by
    simp only [selO] at e
    split at e
    rotate_left
    · cases e
    obtain ⟨io', h1, h2⟩ := Option.map_eq_some_iff.mp e
    subst h2
    obtain ⟨fp, h3, h4⟩ := Sl.sel (ms := ms) (vs := vs) h (by simpa using hl) (fun i v a b => by simpa using hp (i + 1) v (by simpa using a) (by simpa using b)) h1
    have := hp 0 v rfl rfl
    simp at this
    subst this
    exact ⟨l1 ++ fp, .yes r h3, List.Sublist.append (List.Sublist.refl _) h4⟩
  | true :: ms, v :: vs, _, none :: env, _, io, _, hl, hp, e => by simp [selO] at e
  | true :: ms, v :: vs, _, [], _, io, _, hl, hp, e => by simp [selO] at e
  | false :: ms, v :: vs, _, some o :: env, _, io, .yes (v := v') (l1 := l1) r h, hl, hp, e => by
    simp only [selO] at e
    obtain ⟨fp, h3, h4⟩ := Sl.sel (ms := ms) (vs := vs) h (by simpa using hl) (fun i v a b => by simpa using hp (i + 1) v (by simpa using a) (by simpa using b)) e
    exact ⟨fp, h3, h4.trans (List.sublist_append_right _ _)⟩
  | false :: ms, v :: vs, _, none :: env, _, io, .no h, hl, hp, e => by
    simp only [selO] at e
    obtain ⟨fp, h3, h4⟩ := Sl.sel (ms := ms) (vs := vs) h (by simpa using hl) (fun i v a b => by simpa using hp (i + 1) v (by simpa using a) (by simpa using b)) e
    exact ⟨fp, h3, h4⟩
  | false :: ms, v :: vs, _, [], _, io, _, hl, hp, e => by simp [selO] at e
/-- what others hold, out of the world at a def's end; one more on top -/
theorem Wd.sel {x : Option V} {y : Option O} {ms : List Bool} {vs : List V} {io : List O} (w : Wd k Hk F H (x :: σ) (y :: env)) (hl : vs.length = ms.length) (p : Pn.In ⟨ms, vs⟩ σ) (e : selO ms env = some io) :
    Wd k Hk F H (x :: (selV ms vs).map some) (y :: io.map some) := by
  obtain ⟨fp, hs, nd, hd⟩ := w.sl
  cases hs with
  | no hs =>
    obtain ⟨fp', h1, h2⟩ := hs.sel hl p e
    exact ⟨w.ex, w.fr, w.dj, _, .no h1, h2.nodup nd, fun a h => hd a (h2.subset h)⟩
  | yes r hs =>
    obtain ⟨fp', h1, h2⟩ := hs.sel hl p e
    rename_i l1 l
    have h3 : (l1 ++ fp').Sublist (l1 ++ l) := List.Sublist.append (List.Sublist.refl _) h2
    exact ⟨w.ex, w.fr, w.dj, _, .yes r h1, h3.nodup nd, fun a h => hd a (h3.subset h)⟩
theorem Wd.nope {x : Option V} (w : Wd k Hk F H σ env) : Wd k Hk F H (x :: σ) (none :: env) := by
  obtain ⟨fp, hs, nd, hd⟩ := w.sl
  exact ⟨w.ex, w.fr, w.dj, fp, .no hs, nd, hd⟩
theorem Sl.nones : ∀ n, Sl k Hk H (List.replicate n none) (List.replicate n none) []
  | 0 => .nil
  | n + 1 => .no (Sl.nones n)
theorem Wd.nones (w : Wd k Hk F H σ env) (n : Nat) : Wd k Hk F H (σ ++ List.replicate n none) (env ++ List.replicate n none) := by
  obtain ⟨fp, hs, nd, hd⟩ := w.sl
  have := (Sl.nones (k := k) (Hk := Hk) (H := H) n).append hs
  rw [List.append_nil] at this
  exact ⟨w.ex, w.fr, w.dj, fp, this, nd, hd⟩
theorem Sl.vals {vs : List V} {ds : List D} (r : RpAll k Hk vs ds) : Sl k Hk H (vs.map some) ((ds.map O.val).map some) [] := by
  induction vs generalizing ds with
  | nil => cases r; exact .nil
  | cons v vs ih =>
    cases r with
    | cons h r => exact .yes (l1 := []) (.val h) (ih r)
theorem Wd.vals {vs : List V} {ds : List D} (w : Wd k Hk F H σ env) (r : RpAll k Hk vs ds) : Wd k Hk F H (σ ++ vs.map some) (env ++ (ds.map O.val).map some) := by
  obtain ⟨fp, hs, nd, hd⟩ := w.sl
  have := (Sl.vals (H := H) r).append hs
  rw [List.append_nil] at this
  exact ⟨w.ex, w.fr, w.dj, fp, this, nd, hd⟩

theorem selO_nf : ∀ {ms : List Bool} {env : Env} {io : List O}, selO ms env = some io → nfE (io.map some) = true
  | [], _, _, e => by simp only [selO] at e; cases e; rfl
  | true :: ms, [], _, e => by simp [selO] at e
  | true :: ms, none :: env, _, e => by simp [selO] at e
  | true :: ms, some o :: env, io, e => by
    simp only [selO] at e
    split at e
    · rename_i ho
      obtain ⟨io', h1, h2⟩ := Option.map_eq_some_iff.mp e
      subst h2
      have := selO_nf h1
      simp only [nfE, List.map_cons, List.all_cons, ho, Bool.true_and] at this ⊢
      exact this
    · cases e
  | false :: ms, [], _, e => by simp [selO] at e
  | false :: ms, _ :: env, io, e => by
    simp only [selO] at e
    exact selO_nf e
/-- a body from its first world on -/
theorem def_core {k0 : Kn} {ms mp : List Bool} {m : MS} {vs : List V} {E : XK} {env0 : Env} {σ0 : L2.St} (gG : k0.G = k.G) (gK : k0.K = k.K) (gT : k.T = k0.T) (gB : k.B = k0.B)
    (hmp : ∀ (i : Nat), ms[i]? = some true → mp[i]? = some true) (hl : vs.length = ms.length) (w0 : Wd k Hk F H σ0 env0) (p0 : Pn.In ⟨mp, vs⟩ σ0) (h : WantF k0 Hk F (selV ms vs) Q E (endF ms (m env0))) :
    tMS k (fun cls d _ H => E cls d H) ⟨mp, vs⟩ m { nx := fun _ H' => Q .non H', rt := Q } σ0 H := by
  have ofK : ∀ {Hk F H : Hp} {σ : L2.St} {env : Env}, Wd k Hk F H σ env → nfE env = true → Wd k0 Hk F H σ env := fun w z => w.kn gG.symm gK.symm gT.symm (gB ▸ w.dj.b) (.inl z)
  have ofP : ∀ {σ : L2.St}, Pn.In ⟨mp, vs⟩ σ → Pn.In ⟨ms, vs⟩ σ := fun p i v a b => p i v (hmp i a) b
  refine ⟨Hk, F, env0, w0, p0, ?_⟩
  have out : ∀ {o : O} {e : Env} {v : V} {σ : L2.St} {Hk' H' : Hp}, WantF k0 Hk F (selV ms vs) Q E (outF ms o e) → Ex Hk Hk' → Wd k Hk' F H' (some v :: σ) (some o :: e) → Pn.In ⟨mp, vs⟩ σ → Q v H' := by
    intro o e v σ Hk' H' h ex w p
    unfold outF at h
    split at h
    · rename_i io ho hio
      refine h v Hk' H' ex (ofK (w.sel hl (ofP p) hio) ?_)
      have := selO_nf hio
      simp only [nfE, List.all_cons, ho, Bool.true_and] at this ⊢
      exact this
    · exact h.elim
  generalize m env0 = r at h
  cases r with
  | nx e => exact fun σ Hk' H' ex w p => out h ex (w.pushV .non) p
  | rt x e =>
    intro v σ Hk' H' ex w p
    cases x with
    | ob o => exact out h ex w.w p
    | sl i =>
      simp only [endF] at h
      split at h
      · exact h.elim
      · rename_i hi
        split at h
        · rename_i o ho
          have hv := w.sl 0 i v rfl rfl
          obtain ⟨v', h2, w2⟩ := w.base.take ho
          rw [hv] at h2
          cases h2
          exact out h ex w2 p
        · exact h.elim
  | bk e => exact h.elim
  | ct e => exact h.elim
  | exc c fs e =>
    intro cls dd σ Hk' H' ex w p xc
    simp only [endF] at h
    split at h
    · rename_i io hio
      refine h cls dd Hk' H' ex (ofK (w.nope (x := none) |>.sel hl (ofP p) hio).drop (selO_nf hio)) ?_
      obtain ⟨C, h1, h2, h3⟩ := xc
      refine ⟨C, gG ▸ h1, h2, h3.imp id fun ⟨z, d, ps, a, b, c⟩ => ⟨z, d, ps, a, b, c.kn gG.symm⟩⟩
    · exact h.elim
  | stuck => exact h.elim
/-- a def's body keeps the def's promise; k0: what its callers know -/
theorem def_ok0 {k0 : Kn} {N : List Str} {ms mp : List Bool} {m : MS} {vs : List V} {E : XK} (gG : k0.G = k.G) (gK : k0.K = k.K) (gT : k.T = k0.T) (gB : k.B = k0.B) (gL : ∀ j f Hk, k0.L j f Hk → k.L j f Hk)
    (hmp : ∀ (i : Nat), ms[i]? = some true → mp[i]? = some true) (h : spM k0 ms (mDef N.length ms m) vs H Q E) :
    tMS k (fun cls d _ H => E cls d H) ⟨mp, vs⟩ m { nx := fun _ H' => Q .non H', rt := Q } (L2.start N vs) H := by
  obtain ⟨hl, Hk, F, os, w, h⟩ := h
  have e0 : vs.length = os.length := by simpa using w.len
  unfold mDef at h
  split at h
  · rename_i h1
    refine def_core (env0 := os.map some ++ List.replicate (N.length - os.length) none) gG gK gT gB hmp hl ?_ ?_ h
    · unfold L2.start
      rw [e0]
      exact (w.nones _).kn gG gK gT (gB ▸ w.dj.b) (.inr gL)
    · intro i v _ b
      have hi : i < vs.length := (List.getElem?_eq_some_iff.mp b).1
      unfold L2.start
      rw [List.getElem?_append_left (by simpa using hi), List.getElem?_map]
      have b' : vs[i]? = some v := b
      rw [b']
      rfl
  · exact h.elim
theorem def_ok {N : List Str} {ms : List Bool} {m : MS} {vs : List V} {E : XK} (h : spM k.b ms (mDef N.length ms m) vs H Q E) :
    tMS k (fun cls d _ H => E cls d H) ⟨ms, vs⟩ m { nx := fun _ H' => Q .non H', rt := Q } (L2.start N vs) H := def_ok0 (k0 := k.b) rfl rfl rfl rfl (fun _ _ _ z => False.elim z) (fun _ z => z) h

/-! ### calls -/
def argsO : List Bool → List Vr → Env → Option (List O × List Nat × Env)
  | [], [], env => some ([], [], env)
  | false :: ms, x :: xs, env => match frz1 env x with
    | some (d, e) => match argsO ms xs e with
      | some (os, js, e2) => some (.val d :: os, js, e2)
      | none => none
    | none => none
  | true :: ms, .sl i :: xs, env => match env[i]? with
    | some (some o) => match o.nf, argsO ms xs (env.set i none) with
      | true, some (os, js, e2) => some (o :: os, i :: js, e2)
      | _, _ => none
    | _ => none
  | _, _, _ => none
def putB : Env → List Nat → List O → Option Env
  | env, [], [] => some env
  | env, i :: js, o :: os => match env[i]? with
    | some none => putB (env.set i (some o)) js os
    | _ => none
  | _, _, _ => none
def callE (e : Env) (js : List Nat) : RF → R (Vr × Env)
  | .ok o io => match putB e js io with
    | some e2 => .ok (.ob o, e2)
    | none => .stuck
  | .exc c fs io => match putB e js io with
    | some e2 => .exc c fs e2
    | none => .stuck
  | .stuck => .stuck
/-- a call of a def: its mirror m, ms which parameters it may change, ds the defaults that fill up -/
def mCall (m : MF) (ms : List Bool) (ds : List D) (ma : MA) : ME := fun env => R.bind (ma env) fun p => match argsO ms p.1 p.2 with
  | some (os, js, e) => callE e js (m (os ++ ds.map O.val))
  | none => .stuck

theorem frz1_len {env e : Env} {x : Vr} {d : D} (h : frz1 env x = some (d, e)) : env.length = e.length := by
  cases x with
  | ob o =>
    simp only [frz1] at h
    obtain ⟨a, h1, h2⟩ := Option.map_eq_some_iff.mp h
    cases h2
    rfl
  | sl i =>
    simp only [frz1] at h
    split at h
    · obtain ⟨a, h1, h2⟩ := Option.map_eq_some_iff.mp h
      cases h2
      simp
    · cases h
theorem argsO_len : ∀ {ms : List Bool} {xs : List Vr} {env e2 : Env} {os : List O} {js : List Nat}, argsO ms xs env = some (os, js, e2) → env.length = e2.length
  | [], [], env, e2, os, js, e => by
    simp only [argsO] at e
    cases e
    rfl
  | [], _ :: _, env, e2, os, js, e => by simp [argsO] at e
  | _ :: _, [], env, e2, os, js, e => by simp [argsO] at e
  | false :: ms, x :: xs, env, e2, os, js, e => by
    simp only [argsO] at e
    split at e
    · rename_i d e1 hd
      split at e
      · rename_i os' js' e3 ha
        cases e
        rw [frz1_len hd, argsO_len ha]
      · cases e
    · cases e
  | true :: ms, .ob _ :: xs, env, e2, os, js, e => by simp [argsO] at e
  | true :: ms, .sl i :: xs, env, e2, os, js, e => by
    simp only [argsO] at e
    split at e
    · split at e
      · rename_i os' js' e3 hn ha
        cases e
        rw [← argsO_len ha]
        simp
      · cases e
    · cases e
theorem argsO_nf : ∀ {ms : List Bool} {xs : List Vr} {env e2 : Env} {os : List O} {js : List Nat}, argsO ms xs env = some (os, js, e2) → nfE (os.map some) = true
  | [], [], env, e2, os, js, e => by
    simp only [argsO] at e
    cases e
    rfl
  | [], _ :: _, env, e2, os, js, e => by simp [argsO] at e
  | _ :: _, [], env, e2, os, js, e => by simp [argsO] at e
  | false :: ms, x :: xs, env, e2, os, js, e => by
    simp only [argsO] at e
    split at e
    · rename_i d e1 hd
      split at e
      · rename_i os' js' e3 ha
        cases e
        have := argsO_nf ha
        simpa [nfE, O.nf] using this
      · cases e
    · cases e
  | true :: ms, .ob _ :: xs, env, e2, os, js, e => by simp [argsO] at e
  | true :: ms, .sl i :: xs, env, e2, os, js, e => by
    simp only [argsO] at e
    split at e
    · split at e
      · rename_i os' js' e3 hn ha
        cases e
        have := argsO_nf ha
        simpa [nfE, hn] using this
      · cases e
    · cases e
inductive AtS (σ : L2.St) : List V → List Nat → Prop
  | nil : AtS σ [] []
  | cons {v : V} {i : Nat} {vs : List V} {js : List Nat} : σ[i]? = some (some v) → AtS σ vs js → AtS σ (v :: vs) (i :: js)
theorem argsO_ok : ∀ {ms : List Bool} {vs : List V} {xs : List Vr} {Hk F : Hp} {env e2 : Env} {os : List O} {js : List Nat}, Wl k Hk F H σ env vs xs → argsO ms xs env = some (os, js, e2) →
    ∃ Hk', Ex Hk Hk' ∧ Wd k Hk' F H (vs.map some ++ σ) (os.map some ++ e2) ∧ vs.length = ms.length ∧ AtS σ (selV ms vs) js
  | [], [], [], Hk, F, env, e2, os, js, w, e => by
    simp only [argsO] at e
    cases e
    exact ⟨Hk, Ex.refl _, w.base, rfl, .nil⟩
  | [], _ :: _, [], Hk, F, env, e2, os, js, w, e => by
    have := w.len
    simp at this
  | [], _, _ :: _, Hk, F, env, e2, os, js, w, e => by simp [argsO] at e
  | _ :: _, [], _ :: _, Hk, F, env, e2, os, js, w, e => by
    have := w.len
    simp at this
  | _ :: _, _, [], Hk, F, env, e2, os, js, w, e => by simp [argsO] at e
  | false :: ms, v :: vs, x :: xs, Hk, F, env, e2, os, js, w, e => by
    simp only [argsO] at e
    split at e
    · rename_i d e1 hd
      split at e
      · rename_i os' js' e3 ha
        cases e
        obtain ⟨Hk1, ex1, w1, r1⟩ := w.frz1 hd
        obtain ⟨Hk2, ex2, w2, l2, f2⟩ := argsO_ok w1 ha
        exact ⟨Hk2, ex1.trans ex2, w2.pushV (r1.mono ex2), by simpa using l2, f2⟩
      · cases e
    · cases e
  | true :: ms, v :: vs, .ob _ :: xs, Hk, F, env, e2, os, js, w, e => by simp [argsO] at e
  | true :: ms, v :: vs, .sl i :: xs, Hk, F, env, e2, os, js, w, e => by
    simp only [argsO] at e
    split at e
    · rename_i o ho
      split at e
      · rename_i os' js' e3 hn ha
        cases e
        have hv := w.sl 0 i v rfl rfl
        have wt := w.tail
        have hl := top_len wt.len
        have g : (topE xs ++ env)[(topE xs).length + i]? = some (some o) := by
          rw [List.getElem?_append_right (by omega)]
          simpa using ho
        obtain ⟨v', h1, w1⟩ := wt.w.take g
        rw [← hl, List.getElem?_append_right (by omega)] at h1
        simp at h1
        rw [hv] at h1
        cases h1
        rw [set_app] at w1
        obtain ⟨F2, w2, back⟩ := w1.aside1
        have w3 : Wl k Hk F2 H σ (env.set i none) vs xs := ⟨wt.len, w2, wt.sl⟩
        obtain ⟨Hk2, ex2, w4, l4, f4⟩ := argsO_ok w3 ha
        exact ⟨Hk2, ex2, back _ _ _ _ ex2 w4, by simpa using l4, .cons hv f4⟩
      · cases e
    · cases e
theorem putB_len : ∀ {js : List Nat} {io : List O} {e e2 : Env}, putB e js io = some e2 → js.length = io.length
  | [], [], _, _, _ => rfl
  | [], _ :: _, _, _, h => by simp [putB] at h
  | _ :: _, [], _, _, h => by simp [putB] at h
  | i :: js, o :: io, e, e2, h => by
    simp only [putB] at h
    split at h
    · simp [putB_len h]
    · cases h
theorem AtS.len : ∀ {sel : List V} {js : List Nat}, AtS σ sel js → sel.length = js.length
  | _, _, .nil => rfl
  | _, _, .cons _ r => by simp [AtS.len r]
theorem putB_ok : ∀ {js : List Nat} {sel : List V} {io : List O} {e e2 : Env} {x : Option V} {y : Option O}, AtS σ sel js → putB e js io = some e2 →
    Wd k Hk F H (x :: (sel.map some ++ σ)) (y :: (io.map some ++ e)) → Wd k Hk F H (x :: σ) (y :: e2)
  | [], _, [], e, e2, x, y, .nil, h, w => by
    simp only [putB] at h
    cases h
    exact w
  | [], _, _ :: _, _, _, _, _, .nil, h, _ => by simp [putB] at h
  | i :: js, _, [], _, _, _, _, _, h, _ => by simp [putB] at h
  | i :: js, _, o :: io, e, e2, x, y, .cons (v := v) (vs := sel) hv hr, h, w => by
    simp only [putB] at h
    split at h
    · rename_i hn
      have hl : sel.length = io.length := by rw [hr.len, putB_len h]
      have w1 : Wd k Hk F H (some v :: ((x :: sel.map some) ++ σ)) (some o :: ((y :: io.map some) ++ e)) := w.swap
      have g1 : ((y :: io.map some) ++ e)[(y :: io.map some).length + i]? = some none := by
        rw [List.getElem?_append_right (by omega)]
        simpa using hn
      have g2 : ((x :: sel.map some) ++ σ)[(y :: io.map some).length + i]? = some (some v) := by
        rw [List.getElem?_append_right (by simp [hl])]
        simp [hl]
        exact hv
      have w2 := w1.put g1 g2
      rw [set_app] at w2
      exact putB_ok hr h w2
    · cases h
theorem tM_call {m : MF} {ms : List Bool} {ds : List D} {dvs : List V} {ma : MA} (hd : ∀ H, RpAll k H dvs ds) (h : tM k W (mCall m ms ds ma) σ H Q) :
    tCallSD (spM k.b (ms ++ ds.map fun _ => false) m) dvs (fun σ cls d H => W cls d σ H) (tMA k W ma) σ H Q := by
  obtain ⟨Hk, F, env, w, h⟩ := h
  have b := h.bad
  refine seqA (Wl.nil w) b.exc b.ns fun ys e1 ws Hk1 H1 m1 ex1 w1 => ?_
  unfold mCall at h
  rw [m1] at h
  have h1 := WantE.mono h ex1
  rw [R.bind_ok] at h1
  simp only at h1
  have w1 : Wl k Hk1 F H1 σ e1 ws ys := w1
  split at h1
  · rename_i os js e2 ha
    obtain ⟨Hk2, ex2, w2, l2, f2⟩ := argsO_ok w1 ha
    have h2 := WantE.mono h1 ex2
    have el : ws.length = os.length := by
      have hw := w1.base.len
      have := w2.len
      have he : e1.length = e2.length := argsO_len ha
      simp at this
      omega
    obtain ⟨F2, w3, back⟩ := w2.aside (by simpa using el)
    have hsel : ∀ (ms : List Bool) (ws : List V), ws.length = ms.length → selV (ms ++ ds.map fun _ => false) (ws ++ dvs) = selV ms ws := by
      intro ms
      induction ms with
      | nil =>
        intro ws hw
        have : ws = [] := List.eq_nil_of_length_eq_zero hw
        subst this
        have : ∀ (dvs : List V) (ds : List D), selV (ds.map fun _ => false) dvs = [] := by
          intro dvs
          induction dvs with
          | nil => intro ds; cases ds <;> rfl
          | cons v vs ih =>
            intro ds
            cases ds with
            | nil => rfl
            | cons d ds => exact ih ds
        exact this dvs ds
      | cons b ms ih =>
        intro ws hw
        cases ws with
        | nil => simp at hw
        | cons w ws =>
          have := ih ws (by simpa using hw)
          cases b with
          | true => simp [selV, this]
          | false => simp [selV, this]
    refine ⟨by simp [l2, (hd H1).len], Hk2, F2, os ++ ds.map O.val, ?_, ?_⟩
    · rw [List.map_append, List.map_append]
      refine (w3.vals (hd Hk2)).toB ?_
      have := argsO_nf ha
      unfold nfE at this ⊢
      rw [List.all_append, this, Bool.true_and, List.all_eq_true]
      intro x hx
      simp at hx
      obtain ⟨d, _, rfl⟩ := hx
      rfl
    rw [hsel ms ws l2]
    generalize m (os ++ ds.map O.val) = r at h2
    cases r with
    | ok o io =>
      intro v Hk' H' ex w'
      simp only [callE] at h2
      split at h2
      · rename_i e3 hp
        exact h2 v Hk' H' ex (Wl.one (putB_ok f2 hp (back Hk' H' _ _ ex w'.ofB)))
      · exact h2.elim
    | exc c fs io =>
      intro cls dd Hk' H' ex w' xc
      simp only [callE] at h2
      split at h2
      · rename_i e3 hp
        obtain ⟨C, c1, c2, c3⟩ := xc
        exact h2 cls dd Hk' H' ex (putB_ok f2 hp (back Hk' H' _ _ ex w'.ofB).nope (x := none)).drop ⟨C, c1, c2, c3.imp id fun ⟨z, d, ps, a, b, c⟩ => ⟨z, d, ps, a, b, RpF.kn (k := k.b) (k' := k) rfl c⟩⟩
      · exact h2.elim
    | stuck => exact h2.elim
  · exact h1.elim
end
end SW

/-! stores into dicts, lists; displays of dicts; join; isinstance; raise -/
namespace SW
open PySem PySem.Spec L2 PyProof.Rows SWZ

section
variable {k : Kn} {W : WX} {P : Pn} {Hk F H : Hp} {σ : L2.St} {env : Env} {D : Ends} {Q : VK}
/-! ### keys with what a text may have -/
theorem Rp.keyS {v : V} {d : SW.D} (h : Rp k H v d) (e : isKey d = true) : ∃ y, v = kV y ∧ keyD y = d ∧ okK y = true := by
  cases h with
  | int i => exact ⟨.inl i, rfl, rfl, rfl⟩
  | str s h => exact ⟨.inr (S s), rfl, by show SW.D.str (S s).cps.toList = _; rw [S_cps], by show okS (S s).cps.toList = true; rw [S_cps]; exact h⟩
  | _ => cases e
theorem RpAll.keyS : ∀ {vs : List V} {ds : List SW.D}, RpAll k H vs ds → ds.all isKey = true → ∃ ys : List Key, vs = ys.map kV ∧ ys.map keyD = ds ∧ ys.all okK = true
  | _, _, .nil, _ => ⟨[], rfl, rfl, rfl⟩
  | _, _, .cons h r, e => by
    rw [List.all_cons, Bool.and_eq_true] at e
    obtain ⟨y, h1, h2, h5⟩ := h.keyS e.1
    obtain ⟨ys, h3, h4, h6⟩ := RpAll.keyS r e.2
    exact ⟨y :: ys, by rw [List.map_cons, h1, h3], by rw [List.map_cons, h2, h4], by rw [List.all_cons, h5, h6]; rfl⟩
theorem RpKV.any (y : Key) : ∀ {ps : List (Key × V)} {kvs : List (SW.D × SW.D)}, RpKV k H ps kvs → (ps.any fun kv => decide (kv.1 = y)) = kvs.any fun p => eqD p.1 (keyD y)
  | _, _, .nil => rfl
  | _, _, .cons _ h r => by simp [eqD_key, RpKV.any y r]
theorem RpKV.app : ∀ {ps qs : List (Key × V)} {kvs lvs : List (SW.D × SW.D)}, RpKV k H ps kvs → RpKV k H qs lvs → RpKV k H (ps ++ qs) (kvs ++ lvs)
  | _, _, _, _, .nil, q => q
  | _, _, _, _, .cons z h r, q => .cons z h (RpKV.app r q)
theorem RpKV.mapPut {y : Key} {v : V} {x : SW.D} (hv : Rp k H v x) : ∀ {ps : List (Key × V)} {kvs : List (SW.D × SW.D)}, RpKV k H ps kvs → RpKV k H (ps.map fun kv => if kv.1 = y then (kv.1, v) else kv) (kvs.map fun p => if eqD p.1 (keyD y) = true then (p.1, x) else p)
  | _, _, .nil => .nil
  | _, _, .cons (y := z) (v := u) (d := d) ok h r => by
    rw [List.map_cons, List.map_cons]
    by_cases e : z = y
    · simp only [eqD_key, e, decide_true, if_true]
      subst e
      exact .cons ok hv (RpKV.mapPut hv r)
    · simp only [eqD_key, e, decide_false, if_false, Bool.false_eq_true]
      exact .cons ok h (RpKV.mapPut hv r)
theorem RpKV.put {y : Key} {v : V} {x : SW.D} {ps : List (Key × V)} {kvs : List (SW.D × SW.D)} (r : RpKV k H ps kvs) (ok : okK y = true) (hv : Rp k H v x) : RpKV k H (putK ps y v) (putD kvs (keyD y) x) := by
  unfold putK putD
  rw [r.any y]
  split
  · exact r.mapPut hv
  · exact r.app (.cons ok hv .nil)
theorem RpKT.any (y : List Key) : ∀ {ps : List (List Key × V)} {kvs : List (SW.D × SW.D)}, RpKT k H ps kvs → (ps.any fun kv => decide (kv.1 = y)) = kvs.any fun p => eqD p.1 (.tup (y.map keyD))
  | _, _, .nil => rfl
  | _, _, .cons _ h r => by simp [eqD, eqDs_keys, RpKT.any y r]
theorem RpKT.app : ∀ {ps qs : List (List Key × V)} {kvs lvs : List (SW.D × SW.D)}, RpKT k H ps kvs → RpKT k H qs lvs → RpKT k H (ps ++ qs) (kvs ++ lvs)
  | _, _, _, _, .nil, q => q
  | _, _, _, _, .cons z h r, q => .cons z h (RpKT.app r q)
theorem RpKT.mapPut {y : List Key} {v : V} {x : SW.D} (hv : Rp k H v x) : ∀ {ps : List (List Key × V)} {kvs : List (SW.D × SW.D)}, RpKT k H ps kvs → RpKT k H (ps.map fun kv => if kv.1 = y then (kv.1, v) else kv) (kvs.map fun p => if eqD p.1 (.tup (y.map keyD)) = true then (p.1, x) else p)
  | _, _, .nil => .nil
  | _, _, .cons (y := z) (v := u) (d := d) ok h r => by
    rw [List.map_cons, List.map_cons]
    by_cases e : z = y
    · simp only [eqD, eqDs_keys, e, decide_true, if_true]
      subst e
      exact .cons ok hv (RpKT.mapPut hv r)
    · simp only [eqD, eqDs_keys, e, decide_false, if_false, Bool.false_eq_true]
      exact .cons ok h (RpKT.mapPut hv r)
theorem RpKT.put {y : List Key} {v : V} {x : SW.D} {ps : List (List Key × V)} {kvs : List (SW.D × SW.D)} (r : RpKT k H ps kvs) (ok : y.all okK = true) (hv : Rp k H v x) : RpKT k H (putK ps y v) (putD kvs (.tup (y.map keyD)) x) := by
  unfold putK putD
  rw [r.any y]
  split
  · exact r.mapPut hv
  · exact r.app (.cons ok hv .nil)

/-! ### statements over several values -/
theorem seqEW {m : ME} {f : Vr × Env → RS} {Kt : VK} {vs : List V} {xs : List Vr} (w : Wl k Hk F H σ env vs xs) (p : P.In σ) (h : WantS k W P Hk F D (R.sb (m env) f))
    (hk : ∀ x e' v Hk' H', Ex Hk Hk' → Wl k Hk' F H' σ e' (vs ++ [v]) (xs ++ [x]) → WantS k W P Hk' F D (f (x, e')) → Kt v H') : tM k W m σ H Kt := by
  obtain ⟨F2, w2, back⟩ := w.aside
  refine ⟨Hk, F2, env, w2, ?_⟩
  cases e : m env with
  | stuck =>
    rw [e] at h
    exact h.elim
  | exc c fs e' =>
    rw [e] at h
    exact fun cls dd Hk' H' ex w' xc => h cls dd σ Hk' H' ex (back Hk' H' e' [] [] ex (Wl.nil w')).base p xc
  | ok q =>
    obtain ⟨x, e'⟩ := q
    rw [e] at h
    exact fun v Hk' H' ex w' => hk x e' v Hk' H' ex (back Hk' H' e' [v] [x] ex w') (WantS.mono h ex)
/-- d[k] = e, d one's own: the dict's slot is looked at ahead of the key -/
def mPut (i : Nat) (mk mv : ME) : MS := fun env => R.sb (mv env) fun p => match p.2[i]? with
  | some (some (.dic _ _)) => R.sb (mk p.2) fun q => match frz1 q.2 p.1 with
    | some (x, e) => match frz1 e q.1 with
      | some (y, e2) => match e2[i]? with
        | some (some (.dic t kvs)) => if keyOk t y = true ∧ kvs.length < LIM then .nx (e2.set i (some (.dic t (putD kvs y x)))) else .stuck
        | _ => .stuck
      | none => .stuck
    | none => .stuck
  | _ => .stuck
theorem tMS_put {i : Nat} {mk mv : ME} (h : tMS k W P (mPut i mk mv) D σ H) : sDPut (tVar i) (tM k W mk) (tM k W mv) D σ H := by
  obtain ⟨Hk, F, env, w, p, h⟩ := h
  refine seqES w p h fun x e1 v Hk1 H1 ex1 w1 h1 => ?_
  simp only at h1
  split at h1
  · rename_i t0 kvs0 hd0
    obtain ⟨u0, hu0, _⟩ := w1.base.take hd0
    refine ⟨u0, hu0, seqEW w1 p h1 fun y e2 u Hk2 H2 ex2 w2 h2 => ?_⟩
    have w2 : Wl k Hk2 F H2 σ e2 [v, u] [x, y] := w2
    simp only at h2
    split at h2
    · rename_i dx e3 hx
      obtain ⟨Hk3, ex3, w3, r3⟩ := w2.frz1 hx
      split at h2
      · rename_i dy e4 hy
        obtain ⟨Hk4, ex4, w4, r4⟩ := w3.frz1 hy
        have rx := r3.mono ex4
        split at h2
        · rename_i t kvs hd
          split at h2
          · rename_i hc
            obtain ⟨hk, hl⟩ := hc
            have hl2 : kvs.length < sizeLine := Nat.lt_of_lt_of_le hl (by decide)
            obtain ⟨u1, hu1, w5⟩ := w4.base.take hd
            rw [hu0] at hu1
            cases hu1
            have back : ∀ {H5 : Hp} {kvs2 : List (SW.D × SW.D)}, Wd k Hk4 F H5 (some u0 :: σ) (some (.dic t kvs2) :: e4.set i none) → Wd k Hk4 F H5 σ (e4.set i (some (.dic t kvs2))) := fun w => by
              have hi : i < e4.length := (List.getElem?_eq_some_iff.mp hd).1
              have := w.put (i := i) (by rw [List.getElem?_set_self hi]) hu0
              simpa using this
            obtain ⟨l, ro⟩ := w5.top
            have fin : ∀ {H5 : Hp}, Wd k Hk4 F H5 (some u0 :: σ) (some (.dic t (putD kvs dy dx)) :: e4.set i none) → D.nx σ H5 := fun w => h2 σ Hk4 _ (ex3.trans ex4) (back w) p
            cases ro with
            | @dic a ps _ hH rA =>
              obtain ⟨ky, e1, e2, e3⟩ := r4.keyS hk
              subst e1 e2
              refine ⟨a, _, rfl, DPut.k hH (by rw [kv_len rA]; exact hl2), fin (w5.mut fun l2 r2 n2 h2 => ?_)⟩
              cases r2 with
              | dic hH2 rA2 =>
                rw [hH] at hH2
                cases hH2
                exact ⟨.dic upd_same (rA2.put e3 rx), fun b hb => upd_ne (by simpa using hb)⟩
            | @dicT a ps _ hH rA =>
              cases r4 with
              | tup hT rT =>
                rename_i b xs ds
                obtain ⟨ky, e1, e2, e3⟩ := rT.keyS hk
                subst e1 e2
                refine ⟨a, _, rfl, DPut.t hH (w5.ex _ _ hT) (by rw [kt_len rA]; exact hl2), fin (w5.mut fun l2 r2 n2 h2 => ?_)⟩
                cases r2 with
                | dicT hH2 rA2 =>
                  rw [hH] at hH2
                  cases hH2
                  exact ⟨.dicT upd_same (rA2.put e3 rx), fun b hb => upd_ne (by simpa using hb)⟩
              | _ => cases hk
          · exact h2.elim
        · exact h2.elim
      · exact h2.elim
    · exact h2.elim
  · exact h1.elim

/-! ### xs.append(e), xs one's own -/
def mAppend (i : Nat) (m : ME) : ME := fun env => match env[i]? with
  | some (some (.lst _)) => R.bind (m env) fun p => match frz1 p.2 p.1 with
    | some (d, e) => match e[i]? with
      | some (some (.lst ds)) => if ds.length < LIM then .ok (.ob (.val .non), e.set i (some (.lst (ds ++ [d])))) else .stuck
      | _ => .stuck
    | none => .stuck
  | _ => .stuck
theorem tM_append {i : Nat} {m : ME} (h : tM k W (mAppend i m) σ H Q) : tBM k.K "list" rAppend (tVar i) (tCons (tM k W m) tNil) σ H Q := by
  obtain ⟨Hk, F, env, w, h⟩ := h
  unfold mAppend at h
  split at h
  · rename_i ds0 hd0
    obtain ⟨u0, hu0, w0⟩ := w.take hd0
    refine ⟨u0, hu0, ?_, ?_⟩
    · obtain ⟨l, ro⟩ := w0.top
      cases ro with
      | lst hH rA => exact .inl ⟨rfl, _, SqL.of hH⟩
    · have b := h.bad
      refine seqE (Wl.nil w) b.exc b.ns fun x e1 v Hk1 H1 m1 ex1 w1 => ?_
      rw [m1] at h
      have h1 := WantE.mono h ex1
      rw [R.bind_ok] at h1
      simp only at h1
      have w1 : Wl k Hk1 F H1 σ e1 [v] [x] := w1
      split at h1
      · rename_i d e2 hd
        obtain ⟨Hk2, ex2, w2, r2⟩ := w1.frz1 hd
        split at h1
        · rename_i ds hds
          split at h1
          · rename_i hl
            obtain ⟨u1, hu1, w3⟩ := w2.base.take hds
            rw [hu0] at hu1
            cases hu1
            obtain ⟨l, ro⟩ := w3.top
            cases ro with
            | lst hH rA =>
              rename_i a xs
              refine ⟨a, xs, v, rfl, rfl, hH, by rw [rA.len]; exact Nat.lt_of_lt_of_le hl (by decide), h1 _ Hk2 _ ex2 (Wl.val ?_ .non)⟩
              have w4 : Wd k Hk2 F (upd H1 a (.lst (xs ++ [v]))) (some (.ref a) :: σ) (some (.lst (ds ++ [d])) :: e2.set i none) := w3.mut fun l2 r3 n2 h2 => by
                cases r3 with
                | lst hH2 rA2 =>
                  rw [hH] at hH2
                  cases hH2
                  exact ⟨.lst upd_same (rA2.append (.cons r2 .nil)), fun b hb => upd_ne (by simpa using hb)⟩
              have hi : i < e2.length := (List.getElem?_eq_some_iff.mp hds).1
              have := w4.put (i := i) (by rw [List.getElem?_set_self hi]) hu0
              simpa using this
          · exact h1.elim
        · exact h1.elim
      · exact h1.elim
  · exact h.elim

/-! ### isinstance -/
def tyD : SW.D → Option String
  | .non => some "NoneType"
  | .bl _ => some "bool"
  | .int _ => some "int"
  | .str _ => some "str"
  | .lst _ => some "list"
  | .tup _ => some "tuple"
  | .dic _ _ => some "dict"
  | .ins _ _ => none
  | .xc _ => none
def isTy (a b : String) : Bool := a == b || (a == "bool" && b == "int")
def tys : List String := ["NoneType", "bool", "int", "str", "list", "tuple", "dict"]
def mIsi (T : String) (m : ME) : ME := fun env => R.bind (m env) fun p => match (rd p.2 p.1).bind tyD with
  | some t => .ok (.ob (.val (.bl (isTy t T))), p.2)
  | none => .stuck
theorem kit_tab : tys.all (fun a => ["bool", "int", "str", "list", "tuple", "dict"].all fun b => decide (kitB a b = some (isTy a b))) = true := by decide +kernel
theorem tyD_mem {d : SW.D} {t : String} (h : tyD d = some t) : t ∈ tys := by
  cases d <;> simp [tyD] at h <;> subst h <;> simp [tys]
theorem tyX {v : V} {d : SW.D} {t : String} (ex : Ex Hk H) (r : RpN k Hk H v d) (h : tyD d = some t) : TyX k.K H v (.type t) := by
  cases d with
  | non => cases h; rw [r.non]; exact .base .non
  | bl b => cases h; rw [r.bl]; exact .base (.bl _)
  | int i => cases h; rw [r.int]; exact .base (.int _)
  | str s => cases h; rw [r.str.1]; exact .base (.str _)
  | lst ds =>
    cases h
    obtain ⟨a, xs, rfl, h1, _⟩ := r.lst ex
    exact .base (.lst h1)
  | tup ds =>
    cases h
    obtain ⟨a, xs, rfl, h1, _⟩ := r.tup ex
    exact .base (.tup (ex _ _ h1))
  | dic t kvs =>
    cases h
    obtain ⟨a, rfl, ⟨_, ps, h1, _⟩ | ⟨_, ps, h1, _⟩⟩ := r.dic ex
    · exact .base (.dK h1)
    · exact .base (.dT h1)
  | ins c fs => cases h
  | xc c => cases h
theorem tM_isi {T : String} {m : ME} (hT : T ∈ ["bool", "int", "str", "list", "tuple", "dict"]) (h : tM k W (mIsi T m) σ H Q) : tCB (rIsi k.K) (tCons (tM k W m) (tCons (tC (.ty T)) tNil)) σ H Q := by
  obtain ⟨Hk, F, env, w, h⟩ := h
  have b := h.bad
  refine seqE (Wl.nil w) b.exc b.ns fun x e1 v Hk1 H1 m1 ex1 w1 => ?_
  unfold mIsi at h
  rw [m1] at h
  have h1 := WantE.mono h ex1
  rw [R.bind_ok] at h1
  simp only at h1
  have w1 : Wl k Hk1 F H1 σ e1 [v] [x] := w1
  split at h1
  · rename_i t ht
    obtain ⟨d, hd, ht⟩ := Option.bind_eq_some_iff.mp ht
    have hk := List.all_eq_true.mp (List.all_eq_true.mp kit_tab t (tyD_mem ht)) T hT
    exact ⟨v, .ty T, .type t, .type T, _, rfl, .ty T, tyX w1.base.ex (w1.rdN (j := 0) rfl rfl hd) ht, kit_ty (of_decide_eq_true hk), h1 _ Hk1 H1 (Ex.refl _) (Wl.val w1.base (.bl _))⟩
  · exact h1.elim

/-! ### sep.join(xs) -/
def joinD (a : List Nat) (ss : List (List Nat)) : List Nat := TL.joinL a ss
def fJoin : SW.D → SW.D → Option O
  | .str a, .lst ds => match txts ds with
    | some ss => if (ss.map List.length).sum + ss.length * a.length ≤ LIM then some (.val (.str (joinD a ss))) else none
    | none => none
  | .str a, .tup ds => match txts ds with
    | some ss => if (ss.map List.length).sum + ss.length * a.length ≤ LIM then some (.val (.str (joinD a ss))) else none
    | none => none
  | _, _ => none
def isStr : SW.D → Bool
  | .str _ => true
  | _ => false
def mJoin (f : SW.D → SW.D → Option O) (ma mb : ME) : ME := fun env => R.bind (ma env) fun p => match (rd p.2 p.1).map isStr with
  | some true => R.bind (mb p.2) fun q => ofO q.2 (ap2 f (rd q.2 p.1) (rd q.2 q.1))
  | _ => .stuck
theorem joinD_mem {a : List Nat} : ∀ {ss : List (List Nat)} {c : Nat}, c ∈ joinD a ss → c ∈ a ∨ ∃ s ∈ ss, c ∈ s
  | [], c, h => by simp [joinD, TL.joinL] at h
  | [s], c, h => .inr ⟨s, by simp, by simpa [joinD, TL.joinL] using h⟩
  | s :: t :: r, c, h => by
    have e : joinD a (s :: t :: r) = s ++ (a ++ joinD a (t :: r)) := rfl
    rw [e] at h
    rcases List.mem_append.mp h with h | h
    · exact .inr ⟨s, by simp, h⟩
    · rcases List.mem_append.mp h with h | h
      · exact .inl h
      · rcases joinD_mem h with h | ⟨u, hu, hc⟩
        · exact .inl h
        · exact .inr ⟨u, by simp [List.mem_cons.mp hu], hc⟩
theorem okS_join {a : List Nat} {ss : List (List Nat)} (ha : okS a = true) (hs : ∀ s ∈ ss, okS s = true) : okS (joinD a ss) = true := by
  unfold okS at *
  rw [List.all_eq_true] at *
  intro c hc
  rcases joinD_mem hc with h | ⟨s, h1, h2⟩
  · exact ha c h
  · have := hs s h1
    rw [List.all_eq_true] at this
    exact this c h2
theorem S_is (l : List Nat) : SW.S l = SX.S l := rfl
def rJoin (K : PySem.W.Frag) : V → List V → Hp → VK → Prop := fun x xs H Q => ∃ a p, ∃ ys : List Str, x = .str a ∧ xs = [.ref p] ∧ (SqL K H p (ys.map V.str) ∨ SqT K H p (ys.map V.str)) ∧
    (ys.map (·.length)).sum + ys.length * a.length ≤ 16777216 ∧ Q (.str (Txt.join a ys)) H
theorem s_join {x y : V} {a b : SW.D} {o : O} (w : Wd k Hk F H σ env) (ra : RpN k Hk H x a) (rb : RpN k Hk H y b) (e : fJoin a b = some o) (q : ∀ v Hk' H', Ex Hk Hk' → Wl k Hk' F H' σ env [v] [.ob o] → Q v H') : rJoin k.K x [y] H Q := by
  have lens : ∀ ss : List (List Nat), ((ss.map S).map (·.length)).sum = (ss.map List.length).sum := fun ss => by
    rw [List.map_map]
    exact congrArg List.sum (List.map_congr_left fun s _ => S_len s)
  have jn : ∀ (a : List Nat) (ss : List (List Nat)), Txt.join (S a) (ss.map S) = S (joinD a ss) := fun a ss => SX.join_S a ss
  unfold fJoin at e
  split at e
  · split at e
    · rename_i s ds ss hss
      split at e
      · rename_i hl
        cases e
        obtain ⟨rfl, ka⟩ := ra.str
        obtain ⟨p, xs, rfl, h1, r1⟩ := rb.lst w.ex
        obtain ⟨rfl, hs⟩ := strs_V r1 hss
        refine ⟨_, p, ss.map S, rfl, rfl, .inl (SqL.of h1), by rw [lens, List.length_map, S_len]; exact Nat.le_trans hl (by decide), ?_⟩
        rw [jn]
        exact q _ Hk H (Ex.refl _) (Wl.val w (.str _ (okS_join ka hs)))
      · cases e
    · cases e
  · split at e
    · rename_i s ds ss hss
      split at e
      · rename_i hl
        cases e
        obtain ⟨rfl, ka⟩ := ra.str
        obtain ⟨p, xs, rfl, h1, r1⟩ := rb.tup w.ex
        obtain ⟨rfl, hs⟩ := strs_V r1 hss
        refine ⟨_, p, ss.map S, rfl, rfl, .inr (SqT.of (w.ex _ _ h1)), by rw [lens, List.length_map, S_len]; exact Nat.le_trans hl (by decide), ?_⟩
        rw [jn]
        exact q _ Hk H (Ex.refl _) (Wl.val w (.str _ (okS_join ka hs)))
      · cases e
    · cases e
  · cases e
theorem tM_join {ma mb : ME} (h : tM k W (mJoin fJoin ma mb) σ H Q) : tM1 (rJoin k.K) (tM k W ma) (tM k W mb) σ H Q := by
  obtain ⟨Hk, F, env, w, h⟩ := h
  have b := h.bad
  refine seqE (Wl.nil w) b.exc b.ns fun x e1 v Hk1 H1 m1 ex1 w1 => ?_
  unfold mJoin at h
  rw [m1] at h
  have h1 := WantE.mono h ex1
  rw [R.bind_ok] at h1
  simp only at h1
  have w1 : Wl k Hk1 F H1 σ e1 [v] [x] := w1
  split at h1
  · rename_i hs
    obtain ⟨d, hd, hs⟩ := Option.map_eq_some_iff.mp hs
    refine ⟨?_, ?_⟩
    · cases d with
      | str s => exact ⟨_, (w1.rdN (j := 0) rfl rfl hd).str.1⟩
      | _ => cases hs
    · have b := h1.bad
      refine seqE w1 b.exc b.ns fun y e2 v2 Hk2 H2 m2 ex2 w2 => ?_
      rw [m2] at h1
      have h2 := WantE.mono h1 ex2
      rw [R.bind_ok] at h2
      simp only at h2
      have w2 : Wl k Hk2 F H2 σ e2 [v, v2] [x, y] := w2
      cases e : ap2 fJoin (rd e2 x) (rd e2 y) with
      | none =>
        rw [e] at h2
        exact h2.elim
      | some o =>
        rw [e] at h2
        obtain ⟨a, b, ea, eb, ef⟩ := ap2_some e
        exact s_join w2.base (w2.rdN (j := 0) rfl rfl ea) (w2.rdN (j := 1) rfl rfl eb) ef h2
  · exact h1.elim
end
end SW

/-! displays of dicts; the law's drawing state; comprehensions over a dict of one's own -/
namespace SW
open PySem PySem.Spec L2 PyProof.Rows SWZ

def mPairs : List (ME × ME) → MA
  | [] => mNil
  | p :: r => mCons p.1 (mCons p.2 (mPairs r))
def pairUp : List V → List (V × V)
  | a :: b :: r => (a, b) :: pairUp r
  | _ => []
def dispD : List D → Option (List (D × D))
  | [] => some []
  | a :: b :: r => if isKey a = true then (dispD r).map ((a, b) :: ·) else none
  | _ => none
def mergeD (kvs : List (D × D)) : List (D × D) := kvs.foldl (fun acc kv => putD acc kv.1 kv.2) []
/-- {k: v, ..} -/
def mDisp (ps : List (ME × ME)) : ME := fun env => R.bind (mPairs ps env) fun p => match frzs p.2 p.1 with
  | some (ds, e) => match dispD ds with
    | some kvs => if kvs.length ≤ 15 then .ok (.ob (.dic false (mergeD kvs)), e) else .stuck
    | none => .stuck
  | none => .stuck
def intsD : List D → Option (List Int)
  | [] => some []
  | .int i :: ds => (intsD ds).map (i :: ·)
  | _ => none
/-- the law's drawing state, made -/
def mStDisp (ps : List (ME × ME)) : ME := fun env => R.bind (mPairs ps env) fun p => match p.1 with
  | [.ob (.val (.str k1)), .sl i, .ob (.val (.str k2)), x, .ob (.val (.str k3)), .ob (.val (.int r)), .ob (.val (.str k4)), .ob (.val (.int t))] =>
    if k1 = [103, 114, 101, 97, 116] ∧ k2 = [99, 101, 108, 108, 115] ∧ k3 = [114, 101, 115, 116] ∧ k4 = [116, 117, 114, 110] then
      match frz1 p.2 x with
      | some (.lst cs, e) => match e[i]? with
        | some (some (.lst gs)) => match intsD gs, intsD cs with
          | some gi, some ci => .ok (.ob (.st gi ci r t), e.set i none)
          | _, _ => .stuck
        | _ => .stuck
      | _ => .stuck
    else .stuck
  | _ => .stuck
def stS : Bool → Str
  | true => "turn"
  | false => "rest"
def mStG (i : Nat) (b : Bool) : ME := fun env => match env[i]? with
  | some (some (.st _ _ r t)) => .ok (.ob (.val (.int (if b then t else r))), env)
  | _ => .stuck
def mStPut (i : Nat) (b : Bool) (m : ME) : MS := fun env => R.sb (m env) fun p => match rd p.2 p.1 with
  | some (.int z) => match p.2[i]? with
    | some (some (.st gs cs r t)) => .nx (p.2.set i (some (if b then .st gs cs r z else .st gs cs z t)))
    | _ => .stuck
  | _ => .stuck
/-- state['great'] != [] -/
def mStAny (i : Nat) : ME := fun env => match env[i]? with
  | some (some (.st gs _ _ _)) => .ok (.ob (.val (.bl (!gs.isEmpty))), env)
  | _ => .stuck
/-- state['great'].pop(0) -/
def mStPop (i : Nat) : ME := fun env => match env[i]? with
  | some (some (.st (g :: gs) cs r t)) => if gs.length < LIM then .ok (.ob (.val (.int g)), env.set i (some (.st gs cs r t))) else .stuck
  | _ => .stuck
def mStCells (i : Nat) : MI := fun env => match env[i]? with
  | some (some (.st _ cs _ _)) => .ok (cs.map .int, env)
  | _ => .stuck
def mCompK (i : Nat) (t : Tg) (vs : List Nat) (mt : MT) (me : ME) : ME := fun env => match env[i]? with
  | some (some (.dic false kvs)) => match compLoop t vs mt me (kvs.map (·.1)) [] (env.set i none) with
    | .ok (acc, e2) => .ok (.ob (.lst acc), (backE (env.set i none) vs (wipeE e2 vs)).set i (some (.dic false kvs)))
    | _ => .stuck
  | _ => .stuck

section
variable {k : Kn} {W : WX} {P : Pn} {Hk F H : Hp} {σ : L2.St} {env : Env} {D : Ends} {Q : VK}
theorem WantE.imp {r : R (Vr × Env)} {Q Q' : VK} (h : WantE k W Hk F σ r Q) (i : ∀ v H, Q v H → Q' v H) : WantE k W Hk F σ r Q' := by
  cases r with
  | ok p => exact fun v Hk' H' ex w => i _ _ (h v Hk' H' ex w)
  | exc c fs e => exact h
  | stuck => exact h
theorem tM_imp {m : ME} {Q Q' : VK} (h : tM k W m σ H Q) (i : ∀ v H, Q v H → Q' v H) : tM k W m σ H Q' := by
  obtain ⟨Hk, F, env, w, h⟩ := h
  exact ⟨Hk, F, env, w, h.imp i⟩
theorem tPairs_ok : ∀ (ps : List (ME × ME)) {H : Hp} {Q : List (V × V) → Hp → Prop}, tMA k W (mPairs ps) σ H (fun vs H' => Q (pairUp vs) H') → tPairs (ps.map fun p => (tM k W p.1, tM k W p.2)) σ H Q
  | [], H, Q, h => tMA_nil (Q := fun vs H' => Q (pairUp vs) H') h
  | p :: r, H, Q, h => by
    have h1 := tMA_cons (Q := fun vs H' => Q (pairUp vs) H') h
    refine tM_imp h1 fun x H1 h2 => ?_
    have h3 := tMA_cons (Q := fun vs H' => Q (pairUp (x :: vs)) H') h2
    exact tM_imp h3 fun y H2 h4 => tPairs_ok r h4
theorem disp_V : ∀ {vs : List V} {ds : List SW.D} {kvs : List (SW.D × SW.D)}, RpAll k H vs ds → dispD ds = some kvs → ∃ ps : List (Key × V), pairUp vs = ps.map (fun kv => (kV kv.1, kv.2)) ∧ RpKV k H ps kvs
  | _, _, _, .nil, e => by
    cases e
    exact ⟨[], rfl, .nil⟩
  | _, _, _, .cons h .nil, e => by simp [dispD] at e
  | _, _, _, .cons h (.cons h2 r), e => by
    simp only [dispD] at e
    split at e
    · rename_i hk
      obtain ⟨kvs', e1, e2⟩ := Option.map_eq_some_iff.mp e
      subst e2
      obtain ⟨y, rfl, rfl, ok⟩ := h.keyS hk
      obtain ⟨ps, e3, r3⟩ := disp_V r e1
      exact ⟨(y, _) :: ps, by rw [pairUp, e3]; rfl, .cons ok h2 r3⟩
    · cases e
theorem RpKV.merge : ∀ {ps acc : List (Key × V)} {kvs accD : List (SW.D × SW.D)}, RpKV k H ps kvs → RpKV k H acc accD → RpKV k H (mergeK acc ps) (kvs.foldl (fun acc kv => putD acc kv.1 kv.2) accD)
  | _, _, _, _, .nil, q => q
  | _, _, _, _, .cons ok h r, q => by
    have := RpKV.merge r (q.put ok h)
    exact this
theorem tM_disp {ps : List (ME × ME)} (h : tM k W (mDisp ps) σ H Q) : tDisp (ps.map fun p => (tM k W p.1, tM k W p.2)) σ H Q := by
  obtain ⟨Hk, F, env, w, h⟩ := h
  intro p hp
  have w1 : Wl k Hk F (upd H p (.dK [])) σ env [.ref p] [.ob (.dic false [])] := Wl.one (w.push (Ex.new hp) (.dic upd_same .nil) (by simp) (fun a h => by simp at h; subst h; exact hp))
  obtain ⟨F2, w2, back⟩ := w1.aside
  refine tPairs_ok ps ⟨Hk, F2, env, w2, ?_⟩
  unfold mDisp at h
  cases m1 : mPairs ps env with
  | stuck => rw [m1] at h; exact h
  | exc c fs e' =>
    rw [m1] at h
    exact fun cls dd Hk' H' ex w' xc => h cls dd Hk' H' ex (back Hk' H' e' [] [] ex (Wl.nil w')).base xc
  | ok q =>
    obtain ⟨ys, e1⟩ := q
    rw [m1] at h
    intro ws Hk1 H1 ex1 w3
    have h1 := WantE.mono h ex1
    rw [R.bind_ok] at h1
    simp only at h1
    split at h1
    · rename_i ds e2 hf
      split at h1
      · rename_i kvs hk
        split at h1
        · rename_i hl
          obtain ⟨Hk2, ex2, w4, r4⟩ := w3.frzs hf
          obtain ⟨qs, e5, r5⟩ := disp_V r4 hk
          have w6 := (back Hk2 H1 e2 [] [] (ex1.trans ex2) (Wl.nil w4)).w
          have w6 : Wd k Hk2 F H1 (some (.ref p) :: σ) (some (.dic false []) :: e2) := w6
          have w7 : Wd k Hk2 F (upd H1 p (.dK (mergeK [] qs))) (some (.ref p) :: σ) (some (.dic false (mergeD kvs)) :: e2) := w6.mut fun l r n h => by
            cases r with
            | dic hH rA => exact ⟨.dic upd_same (RpKV.merge r5 .nil), fun b hb => upd_ne (by simpa using hb)⟩
          obtain ⟨l, r⟩ := w6.top
          cases r with
          | dic hH rA =>
            cases rA
            exact ⟨hH, qs, e5, by rw [kv_len r5]; exact hl, h1 _ Hk2 _ ex2 (Wl.one w7)⟩
        · exact h1.elim
      · exact h1.elim
    · exact h1.elim

/-! ### the drawing state -/
theorem ints_V : ∀ {vs : List V} {ds : List SW.D} {is : List Int}, RpAll k H vs ds → intsD ds = some is → vs = is.map V.int ∧ ds = is.map SW.D.int
  | _, _, _, .nil, e => by
    cases e
    exact ⟨rfl, rfl⟩
  | _, _, _, .cons h r, e => by
    cases h with
    | int i =>
      simp only [intsD] at e
      obtain ⟨is', h1, h2⟩ := Option.map_eq_some_iff.mp e
      subst h2
      obtain ⟨rfl, rfl⟩ := ints_V r h1
      exact ⟨rfl, rfl⟩
    | _ => simp [intsD] at e
theorem rp_ints : ∀ is : List Int, RpAll k H (is.map V.int) (is.map SW.D.int)
  | [] => .nil
  | i :: is => .cons (.int i) (rp_ints is)
theorem st_take {i : Nat} {gs cs : List Int} {r t : Int} (w : Wd k Hk F H σ env) (h : env[i]? = some (some (.st gs cs r t))) :
    ∃ a g c, σ[i]? = some (some (.ref a)) ∧ H a = some (.dK (stPs g c r t)) ∧ H g = some (.lst (gs.map V.int)) ∧ Hk c = some (.lst (cs.map V.int)) ∧ a ≠ g ∧ Wd k Hk F H (some (.ref a) :: σ) (some (.st gs cs r t) :: env.set i none) := by
  obtain ⟨v, h1, w1⟩ := w.take h
  obtain ⟨fp, hs, nd, hd⟩ := w1.sl
  cases hs with
  | yes ro hs =>
    cases ro with
    | st h2 h3 h4 =>
      refine ⟨_, _, _, h1, h2, h3, h4, ?_, w1⟩
      intro z
      subst z
      simp at nd
theorem st_back {i : Nat} {a : Addr} {o o0 : O} (w : Wd k Hk F H (some (.ref a) :: σ) (some o :: env.set i none)) (h : env[i]? = some (some o0)) (hs : σ[i]? = some (some (.ref a))) : Wd k Hk F H σ (env.set i (some o)) := by
  have hi : i < env.length := (List.getElem?_eq_some_iff.mp h).1
  have := w.put (i := i) (by rw [List.getElem?_set_self hi]) hs
  simpa using this
theorem val_rest {g c : Addr} {r t : Int} : valV (stPs g c r t) (.inr "rest") = some (.int r) := rfl
theorem val_turn {g c : Addr} {r t : Int} : valV (stPs g c r t) (.inr "turn") = some (.int t) := rfl
theorem val_great {g c : Addr} {r t : Int} : valV (stPs g c r t) (.inr "great") = some (.ref g) := rfl
theorem val_cells {g c : Addr} {r t : Int} : valV (stPs g c r t) (.inr "cells") = some (.ref c) := rfl
theorem put_rest {g c : Addr} {r t z : Int} : putK (stPs g c r t) (.inr "rest") (.int z) = stPs g c z t := rfl
theorem put_turn {g c : Addr} {r t z : Int} : putK (stPs g c r t) (.inr "turn") (.int z) = stPs g c r z := rfl
theorem tM_stG {i : Nat} {b : Bool} (h : tM k W (mStG i b) σ H Q) : tOp (rIx2 k.K) (tVar i) (tC (.str (stS b))) σ H Q := by
  obtain ⟨Hk, F, env, w, h⟩ := h
  unfold mStG at h
  split at h
  · rename_i gs cs r t hi
    obtain ⟨a, g, c, h1, h2, h3, h4, hn, w1⟩ := st_take w hi
    refine ⟨_, h1, .inr ⟨a, .int (if b then t else r), rfl, ?_, h _ Hk H (Ex.refl _) (Wl.val w (.int _))⟩⟩
    cases b with
    | true => exact val_turn ▸ DGet.k (k := .inr "turn") h2
    | false => exact val_rest ▸ DGet.k (k := .inr "rest") h2
  · exact h.elim
theorem tMS_stPut {i : Nat} {b : Bool} {m : ME} (hi : (P.ms[i]? == some true) = true) (h : tMS k W P (mStPut i b m) D σ H) : sDPut (tVar i) (tC (.str (stS b))) (tM k W m) D σ H := by
  obtain ⟨Hk, F, env, w, p, h⟩ := h
  refine seqES w p h fun x e1 v Hk1 H1 ex1 w1 h1 => ?_
  simp only at h1
  split at h1
  · rename_i z hz
    split at h1
    · rename_i gs cs r t hi
      have hv := (w1.rdN (j := 0) rfl rfl hz).int
      subst hv
      obtain ⟨a, g, c, h2, h3, h4, h5, hn, w2⟩ := st_take w1.base hi
      have w3 : ∀ b : Bool, Wd k Hk1 F (upd H1 a (.dK (if b then stPs g c r z else stPs g c z t))) (some (.ref a) :: σ) (some (if b then .st gs cs r z else .st gs cs z t) :: e1.set i none) := fun b => by
        obtain ⟨fp, hs, nd, hd⟩ := w2.sl
        refine w2.mut fun l ro n h => ?_
        cases ro with
        | @st _ g' c' _ _ _ _ k1 k2 k3 =>
          rw [h3] at k1
          have e1 : g = g' := by
            have := congrArg (fun u : HO => match u with | .dK ps => valV ps (.inr "great") | _ => none) (Option.some.inj k1)
            exact V.ref.inj (Option.some.inj this)
          have e2 : c = c' := by
            have := congrArg (fun u : HO => match u with | .dK ps => valV ps (.inr "cells") | _ => none) (Option.some.inj k1)
            exact V.ref.inj (Option.some.inj this)
          subst e1 e2
          refine ⟨?_, fun b hb => upd_ne (by simp at hb; exact hb.1)⟩
          cases b with
          | true => exact .st upd_same (by rw [upd_ne (Ne.symm hn)]; exact k2) k3
          | false => exact .st upd_same (by rw [upd_ne (Ne.symm hn)]; exact k2) k3
      refine ⟨_, h2, a, _, rfl, DPut.k (k := .inr (stS b)) h3 (by show 4 < sizeLine; decide), ?_⟩
      have e : putK (stPs g c r t) (.inr (stS b)) (.int z) = if b then stPs g c r z else stPs g c z t := by
        cases b with
        | true => exact put_turn
        | false => exact put_rest
      rw [e]
      exact h1 σ Hk1 _ (Ex.refl _) (st_back (w3 b) hi h2) p
    · exact h1.elim
  · exact h1.elim
theorem tM_stAny {i : Nat} (h : tM k W (mStAny i) σ H Q) : tOp (rNeD k.K) (tOp (rIx2 k.K) (tVar i) (tC (.str "great"))) (tLst tNil) σ H Q := by
  obtain ⟨Hk, F, env, w, h⟩ := h
  unfold mStAny at h
  split at h
  · rename_i gs cs r t hi
    obtain ⟨a, g, c, h1, h2, h3, h4, hn, w1⟩ := st_take w hi
    refine ⟨_, h1, .inr ⟨a, .ref g, rfl, val_great ▸ DGet.k (k := .inr "great") h2, ?_⟩⟩
    refine ⟨Nat.zero_le _, fun p hp => ?_⟩
    have w2 : Wd k Hk F (upd H p (.lst [])) σ env := w.grow (Ex.new hp)
    have rg : RpN k Hk (upd H p (.lst [])) (.ref g) (.lst (gs.map .int)) := ⟨.lst _, _, .lst (Ex.new hp _ _ h3) (rp_ints gs), rfl⟩
    have rp : RpN k Hk (upd H p (.lst [])) (.ref p) (.lst []) := ⟨.lst _, _, .lst upd_same .nil, rfl⟩
    refine s_ne w2 rg rp (o := .val (.bl (!gs.isEmpty))) ?_ fun v Hk' H' ex w3 => h v Hk' H' ex w3
    have hp : ∀ gs : List Int, plains (gs.map SW.D.int) 63 = true := fun gs => by
      induction gs with
      | nil => rfl
      | cons g gs ih => simp [plains, plain, ih]
    have h1 : plain (.lst (gs.map .int)) 64 = true := by
      unfold plain
      rw [hp gs]
      rfl
    have h2 : plain (.lst []) 64 = true := rfl
    unfold fNe
    rw [h1, h2]
    cases gs <;> rfl
  · exact h.elim
theorem tM_stPop {i : Nat} (h : tM k W (mStPop i) σ H Q) : tBM k.K "list" rPopAt (tOp (rIx2 k.K) (tVar i) (tC (.str "great"))) (tCons (tC (.int 0)) tNil) σ H Q := by
  obtain ⟨Hk, F, env, w, h⟩ := h
  unfold mStPop at h
  split at h
  · rename_i g0 gs cs r t hi
    split at h
    · rename_i hl
      obtain ⟨a, g, c, h1, h2, h3, h4, hn, w1⟩ := st_take w hi
      refine ⟨_, h1, .inr ⟨a, .ref g, rfl, val_great ▸ DGet.k (k := .inr "great") h2, ?_, ?_⟩⟩
      · exact .inl ⟨rfl, _, SqL.of h3⟩
      refine ⟨g, _, 0, 0, .int g0, rfl, rfl, h3, by decide, by decide, ?_, rfl, ?_⟩
      · unfold seqIndex?
        simp
      · have w2 : Wd k Hk F (upd H g (.lst (((g0 :: gs).map V.int).eraseIdx 0))) (some (.ref a) :: σ) (some (.st gs cs r t) :: env.set i none) := w1.mut fun l ro n hh => by
          cases ro with
          | @st _ g' c' _ _ _ _ k1 k2 k3 =>
            rw [h2] at k1
            have e1 : g = g' := by
              have := congrArg (fun u : HO => match u with | .dK ps => valV ps (.inr "great") | _ => none) (Option.some.inj k1)
              exact V.ref.inj (Option.some.inj this)
            have e2 : c = c' := by
              have := congrArg (fun u : HO => match u with | .dK ps => valV ps (.inr "cells") | _ => none) (Option.some.inj k1)
              exact V.ref.inj (Option.some.inj this)
            subst e1 e2
            exact ⟨.st (by rw [upd_ne hn]; exact h2) upd_same k3, fun b hb => upd_ne (by simp at hb; exact hb.2)⟩
        exact h _ Hk _ (Ex.refl _) (Wl.val (st_back w2 hi h1) (.int _))
    · exact h.elim
  · exact h.elim
theorem tMI_stCells {i : Nat} {Q : It → Hp → Prop} (h : tMI k W (mStCells i) σ H Q) : iAny k.K (tOp (rIx2 k.K) (tVar i) (tC (.str "cells"))) σ H Q := by
  obtain ⟨Hk, F, env, w, h⟩ := h
  unfold mStCells at h
  split at h
  · rename_i gs cs r t hi
    obtain ⟨a, g, c, h1, h2, h3, h4, hn, w1⟩ := st_take w hi
    refine ⟨_, h1, .inr ⟨a, .ref c, rfl, val_cells ▸ DGet.k (k := .inr "cells") h2, .l c (cs.map V.int), rfl, SqL.of (w.ex _ _ h4), ?_⟩⟩
    exact h _ Hk H (Ex.refl _) w (itd1 (c := .l c (cs.map V.int)) ⟨h4, rp_ints cs⟩)
  · exact h.elim
theorem tM_stDisp {ps : List (ME × ME)} (h : tM k W (mStDisp ps) σ H Q) : tDisp (ps.map fun p => (tM k W p.1, tM k W p.2)) σ H Q := by
  obtain ⟨Hk, F, env, w, h⟩ := h
  intro p hp
  have w1 : Wl k Hk F (upd H p (.dK [])) σ env [.ref p] [.ob (.dic false [])] := Wl.one (w.push (Ex.new hp) (.dic upd_same .nil) (by simp) (fun a h => by simp at h; subst h; exact hp))
  obtain ⟨F2, w2, back⟩ := w1.aside
  refine tPairs_ok ps ⟨Hk, F2, env, w2, ?_⟩
  unfold mStDisp at h
  cases m1 : mPairs ps env with
  | stuck => rw [m1] at h; exact h
  | exc c fs e' =>
    rw [m1] at h
    exact fun cls dd Hk' H' ex w' xc => h cls dd Hk' H' ex (back Hk' H' e' [] [] ex (Wl.nil w')).base xc
  | ok q =>
    obtain ⟨ys, e1⟩ := q
    rw [m1] at h
    intro ws Hk1 H1 ex1 w3
    have h1 := WantE.mono h ex1
    rw [R.bind_ok] at h1
    simp only at h1
    split at h1
    · rename_i k1 i k2 x k3 r k4 t
      split at h1
      · rename_i hk
        obtain ⟨rfl, rfl, rfl, rfl⟩ := hk
        split at h1
        · rename_i cs e2 hx
          split at h1
          · rename_i gs hgs
            split at h1
            · rename_i gi ci hgi hci
              match ws, w3.len with
              | [v1, v2, v3, v4, v5, v6, v7, v8], _ =>
                have q1 := (w3.rdN (j := 0) rfl rfl rfl).str.1
                have q3 := (w3.rdN (j := 2) rfl rfl rfl).str.1
                have q5 := (w3.rdN (j := 4) rfl rfl rfl).str.1
                have q6 := (w3.rdN (j := 5) rfl rfl rfl).int
                have q7 := (w3.rdN (j := 6) rfl rfl rfl).str.1
                have q8 := (w3.rdN (j := 7) rfl rfl rfl).int
                subst q1 q3 q5 q6 q7 q8
                have q2 := w3.sl 1 i v2 rfl rfl
                obtain ⟨Hk2, ex2, w4, r4⟩ := w3.tail.tail.tail.frz1 hx
                have w6 := (back Hk2 H1 e2 [] [] (ex1.trans ex2) (Wl.nil w4.base)).w
                have w6 : Wd k Hk2 F H1 (some (.ref p) :: σ) (some (.dic false []) :: e2) := w6
                have hgs' : (some (O.dic false []) :: e2)[i + 1]? = some (some (.lst gs)) := by simpa using hgs
                obtain ⟨v2', q2', w7⟩ := w6.take hgs'
                have : v2 = v2' := by
                  have z : σ[i]? = some (some v2') := by simpa using q2'
                  rw [q2] at z
                  exact (Option.some.inj (Option.some.inj z))
                subst this
                obtain ⟨fp, hs, nd, hd⟩ := w7.sl
                have q6 := w6
                cases hs with
                | yes ro hs =>
                  cases ro with
                  | @lst g gv _ hg rg =>
                    cases hs with
                    | @yes _ _ _ _ _ l2 ro hs3 =>
                      cases ro with
                      | dic hH rA =>
                        cases rA
                        obtain ⟨rfl, rfl⟩ := ints_V rg hgi
                        obtain ⟨c, cv, rfl, hc, rc⟩ := RpN.lst (w7.ex) (RpN.of (H := H1) r4)
                        have hcK : Hk2 c = some (.lst cv) := by
                          cases r4 with
                          | lst h5 r5 =>
                            have := w7.ex _ _ h5
                            rw [hc] at this
                            cases this
                            exact h5
                        obtain ⟨rfl, rfl⟩ := ints_V rc hci
                        refine ⟨hH, [(.inr "great", .ref g), (.inr "cells", .ref c), (.inr "rest", .int r), (.inr "turn", .int t)], rfl, (by show 4 ≤ 15; decide), ?_⟩
                        have em : mergeK [] [((.inr "great" : Key), V.ref g), (.inr "cells", .ref c), (.inr "rest", .int r), (.inr "turn", .int t)] = stPs g c r t := rfl
                        rw [em]
                        have ngp : g ≠ p := by
                          intro z
                          subst z
                          simp at nd
                        have npl : ∀ b ∈ l2, b ≠ p := fun b hb z => by
                          subst z
                          simp at nd
                          exact nd.2.1 hb
                        have ngl : ∀ b ∈ l2, b ≠ g := fun b hb z => by
                          subst z
                          simp at nd
                          exact nd.1.2 hb
                        have hp2 := hd p (by simp)
                        have hg2 := hd g (by simp)
                        refine h1 _ Hk2 _ ex2 (Wl.one ⟨fun b o e => ?_, fun b o e => ?_, w7.dj.to (Ex.refl _) w7.dj.d (fun q _ ⟨ps, hq⟩ ha hb => ⟨ha, hb, upd_ne (ne_of hq hH (fun z => nomatch z))⟩), [p, g] ++ l2, .yes (.st upd_same (by rw [upd_ne ngp]; exact hg) hcK) (hs3.mono (H' := upd H1 p (.dK (stPs g c r t))) (Ex.refl _) fun b hb => upd_ne (npl b hb)), ?_, ?_⟩)
                        · have : b ≠ p := fun z => by
                            subst z
                            rw [hp2.1] at e
                            cases e
                          rw [upd_ne this]
                          exact w7.ex b o e
                        · have : b ≠ p := fun z => by
                            subst z
                            rw [hp2.2] at e
                            cases e
                          rw [upd_ne this]
                          exact w7.fr b o e
                        · have hn : l2.Nodup := by
                            simp at nd
                            exact nd.2.2
                          refine List.nodup_append.mpr ⟨by simp; exact Ne.symm ngp, hn, fun b hb c hc z => ?_⟩
                          subst z
                          simp at hb
                          rcases hb with z | z
                          · exact npl b hc z
                          · exact ngl b hc z
                        · intro b hb
                          rcases List.mem_append.mp hb with hb | hb
                          · simp at hb
                            rcases hb with z | z
                            · subst z; exact hp2
                            · subst z; exact hg2
                          · exact hd b (by simp [hb])
            · exact h1.elim
          · exact h1.elim
        · exact h1.elim
      · exact h1.elim
    · exact h1.elim

/-! ### [e for t in d if c], d one's own -/
theorem Wd.lock {a : Addr} {kvs : List (SW.D × SW.D)} {x : HO} (w : Wd k Hk F H (some (.ref a) :: σ) (some (.dic false kvs) :: env)) : ∃ ps, H a = some (.dK ps) ∧ RpKV k Hk ps kvs ∧ ∃ F2, F2 a = some x ∧ Wd k Hk F2 (upd H a x) σ env ∧
    ∀ Hk' H' τ η, Ex Hk Hk' → Wd k Hk' F2 H' τ η → Wd k Hk' F (upd H' a (.dK ps)) (some (.ref a) :: τ) (some (.dic false kvs) :: η) := by
  obtain ⟨fp, hs, nd, hd⟩ := w.sl
  cases hs with
  | @yes _ _ _ _ l1 l2 ro hs =>
    cases ro with
    | @dic _ ps _ hH rA =>
      have ka := hd a (by simp)
      have nl : ∀ b ∈ l2, b ≠ a := fun b hb z => by
        subst z
        simp at nd
        exact nd.1 hb
      refine ⟨ps, hH, rA, upd F a x, upd_same, ⟨fun b o e => ?_, fun b o e => ?_, w.dj.to (Ex.refl _) (fun b e => ?_) (fun q _ ⟨ps', hq⟩ ha hb => ⟨ha, by rw [upd_ne (ne_of hq hH (fun z => nomatch z))]; exact hb, upd_ne (ne_of hq hH (fun z => nomatch z))⟩), l2, hs.mono (Ex.refl _) fun b hb => upd_ne (nl b hb), (List.nodup_append.mp nd).2.1, fun b hb => ⟨(hd b (by simp [hb])).1, by rw [upd_ne (nl b hb)]; exact (hd b (by simp [hb])).2⟩⟩, fun Hk' H' τ η ex w' => ?_⟩
      · have : b ≠ a := fun z => by
          subst z
          rw [ka.1] at e
          cases e
        rw [upd_ne this]
        exact w.ex b o e
      · by_cases z : b = a
        · subst z
          rw [upd_same] at e ⊢
          exact e
        · rw [upd_ne z] at e ⊢
          exact w.fr b o e
      · by_cases z : b = a
        · subst z
          exact ka.1
        · rw [upd_ne z] at e
          exact w.dj.d b e
      · obtain ⟨fp', hs', nd', hd'⟩ := w'.sl
        have k' : Hk' a = none := w'.dj.d a (by rw [upd_same]; simp)
        have nl' : ∀ b ∈ fp', b ≠ a := fun b hb z => by
          have := (hd' b hb).2
          rw [z, upd_same] at this
          cases this
        refine ⟨fun b o e => ?_, fun b o e => ?_, w'.dj.to (Ex.refl _) (fun b e => ?_) (fun q _ ⟨ps', hq⟩ ha hb => by
          have z : q.1 ≠ a := fun z => by
            rw [z, upd_same] at hb
            cases hb
          exact ⟨ha, by rw [upd_ne z] at hb; exact hb, upd_ne z⟩), [a] ++ fp', .yes (.dic upd_same (rA.mono ex)) (hs'.mono (Ex.refl _) fun b hb => upd_ne (nl' b hb)), ?_, fun b hb => ?_⟩
        · have : b ≠ a := fun z => by
            subst z
            rw [k'] at e
            cases e
          rw [upd_ne this]
          exact w'.ex b o e
        · have z : b ≠ a := fun z => by
            subst z
            rw [ka.2] at e
            cases e
          rw [upd_ne z]
          exact w'.fr b o (by rw [upd_ne z]; exact e)
        · have z : b ≠ a := fun z => by
            subst z
            exact e ka.2
          exact w'.dj.d b (by rw [upd_ne z]; exact e)
        · simp
          exact ⟨fun z => nl' a z rfl, nd'⟩
        · rcases List.mem_append.mp hb with hb | hb
          · simp at hb
            subst hb
            exact ⟨k', ka.2⟩
          · refine ⟨(hd' b hb).1, ?_⟩
            have := (hd' b hb).2
            rw [upd_ne (nl' b hb)] at this
            exact this
theorem kv_at : ∀ {ps : List (Key × V)} {kvs : List (SW.D × SW.D)} {i : Nat} {y : Key} {v : V}, RpKV k Hk ps kvs → ps[i]? = some (y, v) → okK y = true ∧ (kvs.map (·.1))[i]? = some (keyD y)
  | _, _, _, _, _, .nil, e => by simp at e
  | _, _, 0, _, _, .cons ok h r, e => by
    simp at e
    obtain ⟨rfl, rfl⟩ := e
    exact ⟨ok, rfl⟩
  | _, _, i + 1, y, v, .cons ok h r, e => by
    have := kv_at (i := i) (y := y) (v := v) r (by simpa using e)
    simpa using this
theorem itdK {a : Addr} {od : Obj} {ps : List (Key × V)} {kvs : List (SW.D × SW.D)} (hF : F a = some (.frz od (.dK ps))) (r : RpKV k Hk ps kvs) : ItD k (Itk a od ps) Hk F (kvs.map (·.1)) := by
  have hl : ps.length = kvs.length := kv_len r
  refine ⟨fun i H e f hi => ⟨f _ _ hF, ?_⟩, fun i H e f hi => ⟨f _ _ hF, ?_⟩, fun {Hk2 F2 H σ env} i x H' ex w y hi => ?_⟩
  · simp at hi
    omega
  · simp at hi
    omega
  · obtain ⟨rfl, y, v, h1, rfl⟩ := y
    obtain ⟨ok, h2⟩ := kv_at r h1
    exact ⟨_, Hk2, h2, Ex.refl _, w, key_rp ok⟩
theorem tM_compK {i : Nat} {t : Tg} {vs : List Nat} {mt : MT} {me : ME} (hv : ∀ j ∈ tgSl t, j ∈ vs) (h : tM k W (mCompK i t vs mt me) σ H Q) :
    tLockE (tLc (iKeys (tVar i)) (tG k.K t) (tMT k W0 mt) (tM k W0 me) vs) σ H Q := by
  obtain ⟨Hk, F, env, w, h⟩ := h
  unfold mCompK at h
  split at h
  · rename_i kvs hi
    obtain ⟨v, h1, w1⟩ := w.take hi
    obtain ⟨l, ro⟩ := w1.top
    cases ro with
    | @dic a ps0 _ hH rA =>
      refine ⟨a, _, hH, trivial, fun od => ?_⟩
      obtain ⟨ps, hH2, r2, F2, hF2, w2, back⟩ := w1.lock (x := .frz od (.dK ps0))
      rw [hH] at hH2
      cases hH2
      refine ⟨_, h1, a, od, rfl, .inl ⟨ps0, upd_same, fun Dl hD => ?_⟩⟩
      split at h
      · rename_i acc e2 hc
        refine comp_ok (Qd := fun Dl H' => H' a = some (.frz od (.dK ps0)) ∧ Q (.ref Dl) (upd H' a (.dK ps0))) hv (itdK hF2 r2) w2 hD hc fun Hk2 H2 ex2 w3 => ?_
        refine ⟨w3.fr _ _ hF2, ?_⟩
        obtain ⟨F3, w4, back3⟩ := w3.aside1
        have w5 := back3 Hk2 H2 _ _ (Ex.refl _) (w2.back ex2 w4.unwipe vs)
        have w6 := (back Hk2 H2 _ _ ex2 w5).swap
        obtain ⟨F4, w7, back4⟩ := w6.aside1
        have hi2 : i < env.length := (List.getElem?_eq_some_iff.mp hi).1
        have bl : ∀ (e0 : Env) (vs : List Nat) (e : Env), (backE e0 vs e).length = e.length := fun e0 vs e => by
          induction vs with
          | nil => rfl
          | cons v vs ih =>
            unfold backE
            split
            · simp [ih]
            · exact ih
        have w8 := w7.store (i := i) (List.getElem?_eq_some_iff.mp h1).1
        have e8 : σ.set i (some (.ref a)) = σ := by
          apply List.ext_getElem?
          intro j
          by_cases hj : i = j
          · subst hj
            rw [List.getElem?_set_self (List.getElem?_eq_some_iff.mp h1).1, h1]
          · rw [List.getElem?_set_ne hj]
        rw [e8] at w8
        exact h _ Hk2 _ ex2 (Wl.one (back4 Hk2 _ _ _ (Ex.refl _) w8))
      · exact h.elim
  · exact h.elim
end
end SW

/-! the words that a printed derivation is made of -/
namespace SW
open PySem PySem.Spec L2 PyProof.Rows SWZ

/-! ### the script -/
def mScrItems (i : Nat) : MI := fun env => match env[i]? with
  | some (some (.scr ns)) => .ok (ns.map .int, env)
  | _ => .stuck
def mScrList (i : Nat) : ME := fun env => match env[i]? with
  | some (some (.scr ns)) => .ok (.ob (.lst (ns.map .int)), env)
  | _ => .stuck
section
variable {k : Kn} {W : WX} {Hk F H : Hp} {σ : L2.St} {env : Env} {Q : VK}
theorem itdS {a : Addr} {xs : List V} {ds : List D} (h : SqL k.K Hk a xs) (r : RpAll k Hk xs ds) : ItD k (Itl k.K a) Hk F ds := by
  refine ⟨fun i H e _ hi => ⟨xs, e.l h, by rw [r.len]; exact hi⟩, fun i H e _ hi => ⟨xs, xs[i]'(by rw [r.len]; exact hi), e.l h, by simp⟩, fun {Hk2 F H σ env} i x H' ex w y hi => ?_⟩
  obtain ⟨e1, e2⟩ := y
  subst e1
  have hx := e2 xs (w.ex.l (ex.l h))
  have get : ∀ {vs : List V} {ds : List D} (i : Nat), RpAll k Hk vs ds → vs[i]? = some x → ∃ d, ds[i]? = some d ∧ Rp k Hk x d := by
    intro vs
    induction vs with
    | nil => intro ds i r e; simp at e
    | cons v vs ih =>
      intro ds i r e
      cases r with
      | cons h r =>
        cases i with
        | zero =>
          simp at e
          subst e
          exact ⟨_, rfl, h⟩
        | succ i =>
          obtain ⟨d, h1, h2⟩ := ih i r (by simpa using e)
          exact ⟨d, by simpa using h1, h2⟩
  obtain ⟨d, h1, h2⟩ := get i r hx
  exact ⟨d, Hk2, h1, Ex.refl _, w, h2.mono ex⟩
theorem tMI_scr {i : Nat} {Q : It → Hp → Prop} (h : tMI k W (mScrItems i) σ H Q) : iAny k.K (tVar i) σ H Q := by
  obtain ⟨Hk, F, env, w, h⟩ := h
  unfold mScrItems at h
  split at h
  · rename_i ns hi
    obtain ⟨v, h1, w1⟩ := w.take hi
    obtain ⟨l, ro⟩ := w1.top
    cases ro with
    | @scr a _ hs =>
      exact ⟨_, h1, .l a (ns.map V.int), rfl, w.ex.l hs, h _ Hk H (Ex.refl _) w (itdS hs (rp_ints ns))⟩
  · exact h.elim
theorem tM_scrList {i : Nat} (h : tM k W (mScrList i) σ H Q) : tCB (rListA k.K) (tCons (tVar i) tNil) σ H Q := by
  obtain ⟨Hk, F, env, w, h⟩ := h
  unfold mScrList at h
  split at h
  · rename_i ns hi
    obtain ⟨v, h1, w1⟩ := w.take hi
    obtain ⟨l, ro⟩ := w1.top
    cases ro with
    | @scr a _ hs =>
      exact ⟨_, h1, .inl ⟨a, _, rfl, .inl (w.ex.l hs), fun p hp => h _ Hk _ (Ex.refl _) (Wl.newL w hp (rp_ints ns))⟩⟩
  · exact h.elim
theorem tMT_yes0 {Q : Bool → Hp → Prop} (h : tMT k W mYes σ H Q) : tYes σ H Q := tMT_yes h
end

section
variable {X : Cx} {G : Gn} {W : WX} {P : Pn} {pos : Pos}

theorem _root_.L2.PE.imp {e : Expr} {t t' : TE} (h : PE X e t) (i : ∀ σ H Q, t' σ H Q → t σ H Q) : PE X e t' := SW.PE.imp h i
theorem _root_.L2.PT.imp {e : Expr} {t t' : TT} (h : PT X e t) (i : ∀ σ H Q, t' σ H Q → t σ H Q) : PT X e t' := SW.PT.imp h i
theorem _root_.L2.PW.imp {e : Expr} {t t' : TT} (h : PW X e t) (i : ∀ σ H Q, t' σ H Q → t σ H Q) : PW X e t' := SW.PW.imp h i
theorem _root_.L2.PA.imp {es : List Expr} {t t' : TA} (h : PA X es t) (i : ∀ σ H Q, t' σ H Q → t σ H Q) : PA X es t' := SW.PA.imp h i
theorem _root_.L2.PI.imp {tg e : Expr} {t t' : TI} (h : PI X tg e t) (i : ∀ σ H Q, t' σ H Q → t σ H Q) : PI X tg e t' := SW.PI.imp h i
/-! ### names, constants -/
theorem q_var (i : Nat) {x : Str} (hN : X.N[i]? = some x := by rfl) (hv : Vis X.env.scope x := by first | exact Or.inl rfl | exact Or.inr (Or.inl rfl) | exact Or.inr (Or.inr rfl)) (hd : (x == ("__debug__" : Str)) = false := by decide)
    (hcd : (x == ("__classdict__" : Str)) = false := by decide) : PM X G W (.Name x pos) (mVar i) := (pe_var hN hv hd hcd).imp fun _ _ _ => tM_var
theorem q_int {i : Int} {j : Nat} : PM X G W (.Constant (.int i) j pos) (mC (.int i)) := pe_int.imp fun _ _ _ => tM_c fun _ => .int _
theorem q_bl {b : Bool} {j : Nat} : PM X G W (.Constant (.bool b) j pos) (mC (.bl b)) := pe_bl.imp fun _ _ _ => tM_c fun _ => .bl _
theorem q_non {j : Nat} : PM X G W (.Constant .none j pos) (mC .non) := pe_non.imp fun _ _ _ => tM_c fun _ => .non
theorem q_str (l : List Nat) {x : Str} {j : Nat} (h : x = S l := by first | rfl | decide +kernel) (ok : okS l = true := by rfl) : PM X G W (.Constant (.str x) j pos) (mC (.str l)) := by
  subst h
  exact pe_str.imp fun _ _ _ => tM_c fun _ => .str _ ok
theorem q_gint {x : Str} {i : Int} {t : Nat} (hg : Gl X x) (hm : X.mg x = some (.int i t)) (hd : (x == ("__debug__" : Str)) = false := by decide) : PM X G W (.Name x pos) (mC (.int i)) := (pe_glob hg hm (v := .int i) ⟨t, rfl⟩ hd).imp fun _ _ _ => tM_c fun _ => .int _
theorem q_gstr (l : List Nat) {x : Str} {t : Nat} (hg : Gl X x) (hm : X.mg x = some (.str (S l) t)) (ok : okS l = true := by rfl) (hd : (x == ("__debug__" : Str)) = false := by decide) : PM X G W (.Name x pos) (mC (.str l)) :=
  (pe_glob hg hm (v := .str (S l)) ⟨t, rfl⟩ hd).imp fun _ _ _ => tM_c fun _ => .str _ ok

/-! ### operators -/
variable {a b c : Expr} {ma mb mc : ME}
theorem q_op {op : Operator} {r : R2} {f : D → D → Option O} (ho : OpR X (binaryOp op) r) (hs : OpS (mkK X.K G) r f) (ha : PM X G W a ma) (hb : PM X G W b mb) : PM X G W (.BinOp a op b pos) (mOp2 f ma mb) := (pe_op ho ha hb).imp fun _ _ _ => tM_op2 hs
theorem q_add (ha : PM X G W a ma) (hb : PM X G W b mb) : PM X G W (.BinOp a .Add b pos) (mOp2 fAdd ma mb) := q_op op_add2 s_add ha hb
theorem q_sub (ha : PM X G W a ma) (hb : PM X G W b mb) : PM X G W (.BinOp a .Sub b pos) (mOp2 fSub ma mb) := q_op op_sub s_sub ha hb
theorem q_mul (ha : PM X G W a ma) (hb : PM X G W b mb) : PM X G W (.BinOp a .Mult b pos) (mOp2 fMul ma mb) := q_op op_mul2 s_mul ha hb
theorem q_div (ha : PM X G W a ma) (hb : PM X G W b mb) : PM X G W (.BinOp a .FloorDiv b pos) (mOp2 fDiv ma mb) := q_op op_fdiv s_div ha hb
theorem q_mod (ha : PM X G W a ma) (hb : PM X G W b mb) : PM X G W (.BinOp a .Mod b pos) (mOp2 fMod ma mb) := q_op op_mod s_mod ha hb
theorem q_pow (ha : PM X G W a ma) (hb : PM X G W b mb) : PM X G W (.BinOp a .Pow b pos) (mOp2 fPow ma mb) := q_op op_pow s_pow ha hb
theorem q_cmp {op : CmpOp} {r : R2} {f : D → D → Option O} (ho : OpR X (compareOp op) r) (hs : OpS (mkK X.K G) r f) (ha : PM X G W a ma) (hb : PM X G W b mb) (hm : behindInMarks op b = false) : PM X G W (.Compare a [op] [b] pos) (mOp2 f ma mb) := (pe_cmpR ho ha hb hm).imp fun _ _ _ => tM_op2 hs
theorem q_eq (hu : X.A.units + 64 < cLine) (ha : PM X G W a ma) (hb : PM X G W b mb) : PM X G W (.Compare a [.Eq] [b] pos) (mOp2 fEq ma mb) := q_cmp (op_eqD hu) s_eq ha hb (nomark _)
theorem q_ne (hu : X.A.units + 64 < cLine) (ha : PM X G W a ma) (hb : PM X G W b mb) : PM X G W (.Compare a [.NotEq] [b] pos) (mOp2 fNe ma mb) := q_cmp (op_neD hu) s_ne ha hb (nomark _)
theorem q_lt (ha : PM X G W a ma) (hb : PM X G W b mb) : PM X G W (.Compare a [.Lt] [b] pos) (mOp2 fLt ma mb) := q_cmp op_lt2 s_lt ha hb (nomark _)
theorem q_le (ha : PM X G W a ma) (hb : PM X G W b mb) : PM X G W (.Compare a [.LtE] [b] pos) (mOp2 fLe ma mb) := q_cmp op_le2 s_le ha hb (nomark _)
theorem q_gt (ha : PM X G W a ma) (hb : PM X G W b mb) : PM X G W (.Compare a [.Gt] [b] pos) (mOp2 fGt ma mb) := q_cmp op_gt2 s_gt ha hb (nomark _)
theorem q_ge (ha : PM X G W a ma) (hb : PM X G W b mb) : PM X G W (.Compare a [.GtE] [b] pos) (mOp2 fGe ma mb) := q_cmp op_ge2 s_ge ha hb (nomark _)
theorem q_in (hu : X.A.units + 1 < cLine) (ha : PM X G W a ma) (hb : PM X G W b mb) (hm : behindInMarks .In b = false := by rfl) : PM X G W (.Compare a [.In] [b] pos) (mOp2 (fIn false) ma mb) := q_cmp (op_in2 hu) s_in ha hb hm
theorem q_notin (hu : X.A.units + 1 < cLine) (ha : PM X G W a ma) (hb : PM X G W b mb) (hm : behindInMarks .NotIn b = false := by rfl) : PM X G W (.Compare a [.NotIn] [b] pos) (mOp2 (fIn true) ma mb) := q_cmp (op_notin2 hu) s_in ha hb hm
theorem q_ch {op op' : CmpOp} {r r' : R2} {f g : D → D → Option O} (ho : OpR X (compareOp op) r) (hs : OpS (mkK X.K G) r f) (ho' : OpR X (compareOp op') r') (hs' : OpS (mkK X.K G) r' g) (ha : PM X G W a ma) (hb : PM X G W b mb) (hc : PM X G W c mc)
    (hm : lastMarks [op, op'] [b, c] = false := by with_unfolding_all rfl) : PM X G W (.Compare a [op, op'] [b, c] pos) (mChain f g ma mb mc) := (pe_chain ho ho' ha hb hc hm).imp fun _ _ _ => tM_chain hs hs'
theorem q_lele (ha : PM X G W a ma) (hb : PM X G W b mb) (hc : PM X G W c mc) (hm : lastMarks [.LtE, .LtE] [b, c] = false := by with_unfolding_all rfl) : PM X G W (.Compare a [.LtE, .LtE] [b, c] pos) (mChain fLe fLe ma mb mc) := q_ch op_le2 s_le op_le2 s_le ha hb hc hm
theorem q_lelt (ha : PM X G W a ma) (hb : PM X G W b mb) (hc : PM X G W c mc) (hm : lastMarks [.LtE, .Lt] [b, c] = false := by with_unfolding_all rfl) : PM X G W (.Compare a [.LtE, .Lt] [b, c] pos) (mChain fLe fLt ma mb mc) := q_ch op_le2 s_le op_lt2 s_lt ha hb hc hm
theorem q_not (ha : PM X G W a ma) : PM X G W (.UnaryOp .Not a pos) (mOfT (mNot (mBool ma))) := (pe_not ha).imp fun _ _ _ => tM_notV
theorem q_one {op : BoolOp} (ha : PM X G W a ma) : PM X G W (.BoolOp op [a] pos) ma := pe_one ha
theorem q_and {rest : List Expr} (ha : PM X G W a ma) (hb : PM X G W (.BoolOp .And (b :: rest) pos) mb) : PM X G W (.BoolOp .And (a :: b :: rest) pos) (mAndV ma mb) := (pe_and ha hb).imp fun _ _ _ => tM_andV
theorem q_or {rest : List Expr} (ha : PM X G W a ma) (hb : PM X G W (.BoolOp .Or (b :: rest) pos) mb) : PM X G W (.BoolOp .Or (a :: b :: rest) pos) (mOrV ma mb) := (pe_or ha hb).imp fun _ _ _ => tM_orV
theorem q_ifx {mt : MT} (hc : PMT X G W c mt) (ha : PM X G W a ma) (hb : PM X G W b mb) : PM X G W (.IfExp c a b pos) (mIf mt ma mb) := (pe_ifExp hc ha hb).imp fun _ _ _ => tM_if
theorem q_ix (hu : X.A.units + 1 < cLine) (ha : PM X G W a ma) (hb : PM X G W b mb) (hs : PlainIx b := by intro _ _; rfl) : PM X G W (.Subscript a b pos) (mOp2 fIx ma mb) := (pe_ix (ix_any hu) ha hb hs).imp fun _ _ _ => tM_op2 s_ix
abbrev PMO (X : Cx) (G : Gn) (W : WX) (e : Option Expr) (m : MO) : Prop := PO X e (tMO (mkK X.K G) W m)
theorem PO.imp {e : Option Expr} {t t' : TO} (h : PO X e t) (i : ∀ σ H Q, t' σ H Q → t σ H Q) : PO X e t' := ⟨fun pins s σ H Q I q => h.run pins s σ H Q I (i σ H Q q)⟩
theorem q_no : PMO X G W none mNoPart := PO.imp po_none fun _ _ _ => tMO_no
theorem q_part (ha : PM X G W a ma) : PMO X G W (some a) (mPart ma) := PO.imp (po_some ha) fun _ _ _ => tMO_part
theorem q_cut {lo hi : Option Expr} {ml mh : MO} {p2 : Pos} (ha : PM X G W a ma) (hl : PMO X G W lo ml) (hh : PMO X G W hi mh) : PM X G W (.Subscript a (.Slice lo hi none p2) pos) (mCut ma ml mh) := (pe_slice sl_any ha hl hh).imp fun _ _ _ => tM_cut
theorem q_rev {j : Nat} {p1 p2 p3 : Pos} (ha : PM X G W a ma) : PM X G W (.Subscript a (.Slice none none (some (.UnaryOp .USub (.Constant (.int 1) j p1) p2)) p3) pos) (mOp1 fRev ma) := (pe_rev ha).imp fun _ _ _ => tM_op1 s_rev

/-! ### tests -/
variable {mt mu : MT}
theorem t_bool (ha : PM X G W a ma) (he : ∀ whole, isTrue a X.env whole = (do let v ← whole; standAt a.pos; holding [v] (truthy v)) := by intro _; rfl) : PMT X G W a (mBool ma) := (pt_val ha he).imp fun _ _ _ => tMT_bool
theorem t_tru (ha : PM X G W a ma) (he : ∀ whole, isTrue a X.env whole = (do let v ← whole; standAt a.pos; holding [v] (truthy v)) := by intro _; rfl) : PMT X G W a (mTru ma) := (pt_truth ha he).imp fun _ _ _ => tMT_tru
theorem t_not (ha : PMT X G W a mt) : PMT X G W (.UnaryOp .Not a pos) (mNot mt) := (pt_not ha).imp fun _ _ _ => tMT_not
theorem t_cmp {op : CmpOp} {r : R2} {f : D → D → Option O} (ho : OpR X (compareOp op) r) (hs : OpS (mkK X.K G) r f) (ha : PM X G W a ma) (hb : PM X G W b mb) (hm : behindInMarks op b = false) : PMT X G W (.Compare a [op] [b] pos) (mBool (mOp2 f ma mb)) :=
  (pt_cmpR ho ha hb hm).imp fun _ _ _ h => tM_op2 hs (tMT_bool h)
theorem t_eq (hu : X.A.units + 64 < cLine) (ha : PM X G W a ma) (hb : PM X G W b mb) : PMT X G W (.Compare a [.Eq] [b] pos) (mBool (mOp2 fEq ma mb)) := t_cmp (op_eqD hu) s_eq ha hb (nomark _)
theorem t_ne (hu : X.A.units + 64 < cLine) (ha : PM X G W a ma) (hb : PM X G W b mb) : PMT X G W (.Compare a [.NotEq] [b] pos) (mBool (mOp2 fNe ma mb)) := t_cmp (op_neD hu) s_ne ha hb (nomark _)
theorem t_lt (ha : PM X G W a ma) (hb : PM X G W b mb) : PMT X G W (.Compare a [.Lt] [b] pos) (mBool (mOp2 fLt ma mb)) := t_cmp op_lt2 s_lt ha hb (nomark _)
theorem t_le (ha : PM X G W a ma) (hb : PM X G W b mb) : PMT X G W (.Compare a [.LtE] [b] pos) (mBool (mOp2 fLe ma mb)) := t_cmp op_le2 s_le ha hb (nomark _)
theorem t_gt (ha : PM X G W a ma) (hb : PM X G W b mb) : PMT X G W (.Compare a [.Gt] [b] pos) (mBool (mOp2 fGt ma mb)) := t_cmp op_gt2 s_gt ha hb (nomark _)
theorem t_ge (ha : PM X G W a ma) (hb : PM X G W b mb) : PMT X G W (.Compare a [.GtE] [b] pos) (mBool (mOp2 fGe ma mb)) := t_cmp op_ge2 s_ge ha hb (nomark _)
theorem t_in (hu : X.A.units + 1 < cLine) (ha : PM X G W a ma) (hb : PM X G W b mb) (hm : behindInMarks .In b = false := by rfl) : PMT X G W (.Compare a [.In] [b] pos) (mBool (mOp2 (fIn false) ma mb)) := t_cmp (op_in2 hu) s_in ha hb hm
theorem t_notin (hu : X.A.units + 1 < cLine) (ha : PM X G W a ma) (hb : PM X G W b mb) (hm : behindInMarks .NotIn b = false := by rfl) : PMT X G W (.Compare a [.NotIn] [b] pos) (mBool (mOp2 (fIn true) ma mb)) := t_cmp (op_notin2 hu) s_in ha hb hm
theorem t_ch {op op' : CmpOp} {r r' : R2} {f g : D → D → Option O} (ho : OpR X (compareOp op) r) (hs : OpS (mkK X.K G) r f) (ho' : OpR X (compareOp op') r') (hs' : OpS (mkK X.K G) r' g) (ha : PM X G W a ma) (hb : PM X G W b mb) (hc : PM X G W c mc)
    (hm : lastMarks [op, op'] [b, c] = false := by with_unfolding_all rfl) : PMT X G W (.Compare a [op, op'] [b, c] pos) (mBool (mChain f g ma mb mc)) := (pt_chain ho ho' ha hb hc hm).imp fun _ _ _ h => tM_chain hs hs' (tMT_bool h)
theorem t_lele (ha : PM X G W a ma) (hb : PM X G W b mb) (hc : PM X G W c mc) (hm : lastMarks [.LtE, .LtE] [b, c] = false := by with_unfolding_all rfl) : PMT X G W (.Compare a [.LtE, .LtE] [b, c] pos) (mBool (mChain fLe fLe ma mb mc)) := t_ch op_le2 s_le op_le2 s_le ha hb hc hm
theorem t_lelt (ha : PM X G W a ma) (hb : PM X G W b mb) (hc : PM X G W c mc) (hm : lastMarks [.LtE, .Lt] [b, c] = false := by with_unfolding_all rfl) : PMT X G W (.Compare a [.LtE, .Lt] [b, c] pos) (mBool (mChain fLe fLt ma mb mc)) := t_ch op_le2 s_le op_lt2 s_lt ha hb hc hm
theorem w_and1 (ha : PMT X G W a mt) : PMW X G W (.BoolOp .And [a] pos) mt := pw_and1 ha
theorem w_or1 (ha : PMT X G W a mt) : PMW X G W (.BoolOp .Or [a] pos) mt := pw_or1 ha
theorem w_and {rest : List Expr} (ha : PMT X G W a mt) (hb : PMW X G W (.BoolOp .And (b :: rest) pos) mu) : PMW X G W (.BoolOp .And (a :: b :: rest) pos) (mAnd mt mu) := (pw_and ha hb).imp fun _ _ _ => tMT_and
theorem w_or {rest : List Expr} (ha : PMT X G W a mt) (hb : PMW X G W (.BoolOp .Or (b :: rest) pos) mu) : PMW X G W (.BoolOp .Or (a :: b :: rest) pos) (mOr mt mu) := (pw_or ha hb).imp fun _ _ _ => tMT_or

/-! ### arguments, displays, calls -/
variable {es : List Expr} {ms : MA} {e : Expr} {me : ME}
theorem a_nil : PMA X G W [] mNil := pa_nil.imp fun _ _ _ => tMA_nil
theorem a_cons (ha : PM X G W e me) (hr : PMA X G W es ms) (hs : starEach (e :: es) X.env = (false, eval e X.env) :: starEach es X.env := by rfl) : PMA X G W (e :: es) (mCons me ms) := (pa_cons ha hr hs).imp fun _ _ _ => tMA_cons
theorem q_tup {x1} (h : PMA X G W es ms) : PM X G W (.Tuple es x1 pos) (mTup ms) := (pe_tup h).imp fun _ _ _ => tM_tup
theorem q_lst (h : PMA X G W es ms) : PM X G W (.List es pos) (mLst ms) := (pe_lst h).imp fun _ _ _ => tM_lst
theorem q_cb {id : String} {r : List V → Hp → VK → Prop} {f : List D → Option O} {x : Str} {p : Pos} (hc : CallR X (.builtin id) r) (hs : CallS (mkK X.K G) r f) (hg : Gl X x) (hm : X.mg x = none) (hv : bootBuiltins x = some (.builtin id)) (ha : PMA X G W (e :: es) ms)
    (hn : x ≠ "__name__" := by decide) (hdb : (x == ("__debug__" : Str)) = false := by decide)
    (he : starEach (e :: es) X.env = (false, eval e X.env) :: starEach es X.env := by rfl) (hpl : (backTo pos (starEach es X.env)).any (·.1) = false := by rfl) : PM X G W (.Call (.Name x p) (e :: es) [] pos) (mCB f ms) :=
  (pe_callB hc hg hm hv ha hn hdb he hpl).imp fun _ _ _ => tM_cb hs
theorem q_ct {T : String} {r : List V → Hp → VK → Prop} {f : List D → Option O} {x : Str} {p : Pos} (hc : CallR X (.type T) r) (hs : CallS (mkK X.K G) r f) (hg : Gl X x) (hm : X.mg x = none) (hv : bootBuiltins x = some (.type T)) (ha : PMA X G W (e :: es) ms)
    (hn : x ≠ "__name__" := by decide) (hdb : (x == ("__debug__" : Str)) = false := by decide)
    (he : starEach (e :: es) X.env = (false, eval e X.env) :: starEach es X.env := by rfl) (hpl : (backTo pos (starEach es X.env)).any (·.1) = false := by rfl) : PM X G W (.Call (.Name x p) (e :: es) [] pos) (mCB f ms) :=
  (pe_callTy hc hg hm hv ha hn hdb he hpl).imp fun _ _ _ => tM_cb hs
theorem q_isi {T : String} {x y : Str} {p p2 : Pos} (hT : T ∈ ["bool", "int", "str", "list", "tuple", "dict"]) (hx : x = "isinstance") (hg : Gl X x) (hm : X.mg x = none) (hv : bootBuiltins x = some (.builtin "isinstance")) (hgy : Gl X y) (hmy : X.mg y = none) (hvy : bootBuiltins y = some (.type T)) (ha : PM X G W e me)
    (hn : x ≠ "__name__" := by decide) (hdb : (x == ("__debug__" : Str)) = false := by decide) (hny : y ≠ "__name__" := by decide) (hdby : (y == ("__debug__" : Str)) = false := by decide)
    (hs : starEach [e, .Name y p2] X.env = (false, eval e X.env) :: starEach [.Name y p2] X.env := by rfl) (hpl : (backTo pos (starEach [.Name y p2] X.env)).any (·.1) = false := by rfl) : PM X G W (.Call (.Name x p) [e, .Name y p2] [] pos) (mIsi T me) :=
  (pe_callB call_isi hg hm hv (pa_cons ha (pa_cons (pe_bltn hgy hmy hvy (v := .ty T) rfl hny hdby) pa_nil) hs) hn hdb hs hpl).imp fun _ _ _ => tM_isi hT
theorem q_join {apos : Pos} (ha : PM X G W a ma) (hb : PM X G W b mb) (hs : starEach [b] X.env = [(false, eval b X.env)] := by rfl) (hbase : attributeBase a "join" X.env (eval a X.env) = eval a X.env := by rfl) (hline : (apos.endLine == pos.line) = true := by rfl) :
    PM X G W (.Call (.Attribute a "join" apos) [b] [] pos) (mJoin fJoin ma mb) := (pe_join ha hb hs hbase hline).imp fun _ _ _ => tM_join
theorem q_append (i : Nat) {x : Str} {apos p : Pos} (hN : X.N[i]? = some x := by rfl) (hv : Vis X.env.scope x := by first | exact Or.inl rfl | exact Or.inr (Or.inl rfl) | exact Or.inr (Or.inr rfl)) (hd : (x == ("__debug__" : Str)) = false := by decide)
    (hcd : (x == ("__classdict__" : Str)) = false := by decide) (ha : PM X G W e me)
    (hbase : attributeBase (.Name x p) "append" X.env (eval (.Name x p) X.env) = eval (.Name x p) X.env := by rfl)
    (hfew : ((backTo pos (starEach [e] X.env)).all (fun x => !x.1) && (backToKw pos (keywordEach [] X.env)).all (fun x => x.1.isSome)
      && decide (([e] : List Expr).length + ([] : List Keyword).length + (if ([] : List Keyword).isEmpty then 0 else 1) < 30)) = true := by rfl)
    (hline : (apos.endLine == pos.line) = true := by rfl) (hs : starEach [e] X.env = (false, eval e X.env) :: starEach [] X.env := by rfl) (hplain : (backTo pos (starEach [] X.env)).any (·.1) = false := by rfl) :
    PM X G W (.Call (.Attribute (.Name x p) "append" apos) [e] [] pos) (mAppend i me) :=
  (pe_bm PySem.F.plainAttrs_list PySem.F.slot_list_append PySem.F.type_list_append mt_append (pe_var hN hv hd hcd) (pa_cons ha pa_nil hs) hbase hfew hline hs hplain).imp fun _ _ _ => tM_append
theorem q_call {f : Addr} {fd : FuncData} {ps : List Str} {x : Str} {p : Pos} {lv : Nat} {m : MF} {dvs : List V} {dsV : List Value} (mo : List Bool) (ds : List D) (F : FnOk X.prog X.w X.K X.mg X.base (L2.CX X.prog X.w) lv f fd ps (spM (mkK X.K G).b (mo ++ ds.map fun _ => false) m)) (hr : Room lv X.A) (hg : Gl X x)
    (hm : X.mg x = some (.ref f)) (hk : PySem.W.keepIn X.K (.ref f) = true) (hb : Binds X.K fd ps dsV) (hd : Vals dvs dsV) (hD : ∀ H, RpAll (mkK X.K G) H dvs ds) (tk : Takes X W) (ha : PMA X G W (e :: es) ms)
    (hdb : (x == ("__debug__" : Str)) = false := by decide) (he : starEach (e :: es) X.env = (false, eval e X.env) :: starEach es X.env := by rfl) (hpl : (backTo pos (starEach es X.env)).any (·.1) = false := by rfl) :
    PM X G W (.Call (.Name x p) (e :: es) [] pos) (mCall m mo ds ms) := (pe_callSD F hr hg hm hk hb hd (fun σ => passAt tk σ) ha hdb he hpl).imp fun _ _ _ => tM_call hD

/-! ### what is walked -/
variable {tg : Expr} {mi : MI}
theorem i_any (ha : PM X G W a ma) : PMI X G W tg a (mItems ma) := (pi_any ha).imp fun _ _ _ => tMI_items
theorem i_scr (i : Nat) {x : Str} {p : Pos} (hN : X.N[i]? = some x := by rfl) (hv : Vis X.env.scope x := by first | exact Or.inl rfl | exact Or.inr (Or.inl rfl) | exact Or.inr (Or.inr rfl)) (hd : (x == ("__debug__" : Str)) = false := by decide)
    (hcd : (x == ("__classdict__" : Str)) = false := by decide) : PMI X G W tg (.Name x p) (mScrItems i) := (pi_any (pe_var hN hv hd hcd)).imp fun _ _ _ => tMI_scr
end
end SW

/-! the words of a printed derivation: blocks, statements, defs, the drawing state -/
namespace SW
open PySem PySem.Spec L2 PyProof.Rows SWZ
def fAddI : D → D → Option O
  | .int i, .int j => some (.val (.int (i + j)))
  | _, _ => none
section
variable {X : Cx} {G : Gn} {W : WX} {P : Pn} {pos : Pos} {a b c e elt iter tg : Expr} {ma mb me : ME} {mt : MT} {mi : MI}
theorem s_ipadd {k : Kn} : OpS k (ipI fun i j => i + j) fAddI := by
  intro Hk F H σ env x y a b o Q w ra rb e q
  unfold fAddI at e
  split at e
  · cases e
    cases ra.int
    cases rb.int
    exact ⟨_, _, rfl, rfl, q _ Hk H (Ex.refl _) (Wl.val w (.int _))⟩
  · cases e
/-! ### what is walked -/
theorem i_rng1 {p : Pos} (hg : Gl X "range") (hm : X.mg "range" = none) (ha : PMA X G W [a] (mCons ma mNil)) (hs : starEach [a] X.env = [(false, eval a X.env)] := by rfl) : PMI X G W tg (.Call (.Name "range" p) [a] [] pos) (mRange1 (mCons ma mNil)) :=
  (pi_range1 hg hm ha hs).imp fun _ _ _ => tMI_range1
theorem i_rng2 {p : Pos} (hg : Gl X "range") (hm : X.mg "range" = none) (ha : PMA X G W [a, b] (mCons ma (mCons mb mNil))) (hs : starEach [a, b] X.env = [(false, eval a X.env), (false, eval b X.env)] := by rfl) (hs2 : starEach [b] X.env = [(false, eval b X.env)] := by rfl) :
    PMI X G W tg (.Call (.Name "range" p) [a, b] [] pos) (mRange2 (mCons ma (mCons mb mNil))) := (pi_range2 hg hm ha hs hs2).imp fun _ _ _ => tMI_range2

theorem i_zip {p tpos : Pos} {elts : List Expr} {kk : Nat} (hg : Gl X "zip") (hm : X.mg "zip" = none) (ha : PM X G W a ma) (hb : PM X G W b mb) (hs : starEach [a, b] X.env = (false, eval a X.env) :: starEach [b] X.env := by rfl)
    (hs2 : starEach [b] X.env = (false, eval b X.env) :: starEach [] X.env := by rfl) (hpl : (backTo pos (starEach [b] X.env)).any (·.1) = false := by rfl) : PMI X G W (.Tuple elts kk tpos) (.Call (.Name "zip" p) [a, b] [] pos) (mZip ma mb) :=
  (pi_zipG hg hm (pa_cons ha (pa_cons hb pa_nil hs2) hs) hs hpl).imp fun _ _ _ => tMI_zip
/-! ### targets -/
theorem g_nm (i : Nat) {x : Str} (hN : X.N.Nodup) (hi : X.N[i]? = some x := by rfl) (hx : Loc X.env.scope x := by first | exact Or.inl rfl | exact Or.inr rfl) (hf : X.fn x = true ∨ X.env.scope.names.lookup x = some .local := by first | exact .inl rfl | exact .inr rfl) : PG X (.Name x pos) (tG X.K (.nm i)) := pg_name hN hi hx hf
theorem gs_nil : PGs X [] (tGs X.K []) := pgs_nil
theorem gs_cons {es : List Expr} {t : Tg} {ts : List Tg} (h1 : PG X e (tG X.K t)) (h2 : PGs X es (tGs X.K ts)) (hs : (assignEach (e :: es) X.env).map (·.2) = assign e X.env :: (assignEach es X.env).map (·.2) := by rfl) : PGs X (e :: es) (tGs X.K (t :: ts)) := pgs_cons h1 h2 hs
theorem g_tp {es : List Expr} {k : Nat} {ts : List Tg} (hc : X.calm = true) (h : PGs X es (tGs X.K ts)) (hn : (assignEach es X.env).length = ts.length := by rfl) (hst : (assignEach es X.env).findIdx? (·.1) = none := by rfl) : PG X (.Tuple es k pos) (tG X.K (.tp ts)) := pg_tup hc h hn hst

/-! ### blocks -/
abbrev PMTs (X : Cx) (G : Gn) (ifs : List Expr) (m : MT) : Prop := PTs X ifs (tMT (mkK X.K G) W0 m)
theorem ts_nil : PMTs X G [] mYes := ⟨fun pins s σ H Q I h => pts_nil.run pins s σ H Q I (tMT_yes h)⟩
theorem ts_one (h : PMT X G W0 c mt) : PMTs X G [c] mt := pts_one h
theorem q_lc {ifs : List Expr} {scope : Scope} (own : List (Str × Nat)) {t : Tg} (hc : X.calm = true) (hN : X.N.Nodup) (ok : BlkOk X.N X.env.scope scope own) (hv : ∀ j ∈ tgSl t, j ∈ own.map (·.2)) (hi : PMI X G W tg iter mi)
    (hg : ∀ (s : Shared) (H : Hp) (C : Addr) (cl : List (Str × Addr)) (fp : List Addr), PG (X.blk s H scope (compEnvC scope cl C X.env) fp) tg (tG X.K t)) (ht : ∀ (s : Shared) (H : Hp) (C : Addr) (cl : List (Str × Addr)) (fp : List Addr), PMTs (X.blk s H scope (compEnvC scope cl C X.env) fp) G ifs mt)
    (he : ∀ (s : Shared) (H : Hp) (C : Addr) (cl : List (Str × Addr)) (fp : List Addr), PM (X.blk s H scope (compEnvC scope cl C X.env) fp) G W0 elt me) (hs : ∀ x, foldedSetIterable iter X.env x = pure x := by intro _; rfl) :
    PM X G W (.ListComp elt [⟨tg, iter, ifs, 0⟩] scope pos) (mComp mi t (own.map (·.2)) mt me) := (pe_lc hc hN hi ok hg ht he hs).imp fun _ _ _ => tM_comp hv
theorem q_lcK {ifs : List Expr} {scope : Scope} {x : Str} {p : Pos} (own : List (Str × Nat)) (i : Nat) {t : Tg} (hc : X.calm = true) (hN : X.N.Nodup) (ok : BlkOk X.N X.env.scope scope own) (hv : ∀ j ∈ tgSl t, j ∈ own.map (·.2))
    (hg : ∀ (s : Shared) (H : Hp) (C : Addr) (cl : List (Str × Addr)) (fp : List Addr), PG (X.blk s H scope (compEnvC scope cl C X.env) fp) tg (tG X.K t)) (ht : ∀ (s : Shared) (H : Hp) (C : Addr) (cl : List (Str × Addr)) (fp : List Addr), PMTs (X.blk s H scope (compEnvC scope cl C X.env) fp) G ifs mt)
    (he : ∀ (s : Shared) (H : Hp) (C : Addr) (cl : List (Str × Addr)) (fp : List Addr), PM (X.blk s H scope (compEnvC scope cl C X.env) fp) G W0 elt me)
    (hNi : X.N[i]? = some x := by rfl) (hx : Vis X.env.scope x := by first | exact Or.inl rfl | exact Or.inr (Or.inl rfl) | exact Or.inr (Or.inr rfl)) (hd : (x == ("__debug__" : Str)) = false := by decide) (hcd : (x == ("__classdict__" : Str)) = false := by decide)
    (hs : ∀ v, foldedSetIterable (.Name x p) X.env v = pure v := by intro _; rfl) :
    PM X G W (.ListComp elt [⟨tg, .Name x p, ifs, 0⟩] scope pos) (mCompK i t (own.map (·.2)) mt me) := (pe_lock (pe_lc hc hN (pi_keys (pe_var hNi hx hd hcd)) ok hg ht he hs)).imp fun _ _ _ => tM_compK hv

/-! ### statements -/
variable {st : Stmt} {sts : List Stmt} {m m1 m2 : MS}
theorem _root_.L2.PS.imp {t t' : TS} (h : PS X st t) (i : ∀ D σ H, t' D σ H → t D σ H) : PS X st t' := SW.PS.imp h i
theorem _root_.L2.PSs.imp {t t' : TS} (h : PSs X sts t) (i : ∀ D σ H, t' D σ H → t D σ H) : PSs X sts t' := SW.PSs.imp h i
theorem z_nil : PMSs X G W P [] mNext := pss_nil.imp fun _ _ _ => tMS_next
theorem z_cons (h1 : PMS X G W P st m1) (h2 : PMSs X G W P sts m2) : PMSs X G W P (st :: sts) (mSeq m1 m2) := (pss_cons h1 h2).imp fun _ _ _ => tMS_seq
theorem z_one (h1 : PMS X G W P st m1) : PMSs X G W P [st] m1 := pss_one h1
theorem z_pass : PMS X G W P (.Pass pos) mNext := ps_pass.imp fun _ _ _ => tMS_next
theorem z_break : PMS X G W P (.Break pos) mBreak := ps_break.imp fun _ _ _ => tMS_break
theorem z_cont : PMS X G W P (.Continue pos) mCont := ps_continue.imp fun _ _ _ => tMS_cont
theorem z_if {p q : List Stmt} (hc : PMT X G W c mt) (ha : PMSs X G W P p m1) (hb : PMSs X G W P q m2) : PMS X G W P (.If c p q pos) (mIfS mt m1 m2) := (ps_if hc ha hb).imp fun _ _ _ => tMS_if
theorem z_ret (he : PM X G W e me) : PMS X G W P (.Return (some e) pos) (mRet me) := (ps_ret he).imp fun _ _ _ => tMS_ret
theorem z_retN : PMS X G W P (.Return none pos) mRetN := ps_retN.imp fun _ _ _ => tMS_retN
theorem z_expr (he : PM X G W e me) (hs : swapsWith e none pos.line X.env = pure false := by rfl) : PMS X G W P (.Expr e pos) (mExpr me) := (ps_expr he hs).imp fun _ _ _ => tMS_expr
theorem z_set (i : Nat) {x : Str} {pos' : Pos} (hN : X.N.Nodup) (hp : (P.ms[i]? == some true) = false) (he : PM X G W e me) (hi : X.N[i]? = some x := by rfl) (hx : Loc X.env.scope x := by first | exact Or.inl rfl | exact Or.inr rfl) (hs : swapsWith e (some (.Name x pos')) pos.line X.env = pure false := by rfl)
    (hf : X.fn x = true ∨ X.env.scope.names.lookup x = some .local := by first | exact .inl rfl | exact .inr rfl) : PMS X G W P (.Assign [.Name x pos'] e pos) (mSet i me) := (ps_set hN hi hx he hs hf).imp fun _ _ _ => tMS_set hp
theorem z_setLc (i : Nat) {y : Str} {py spos : Pos} {ifs : List Expr} {scope : Scope} (own : List (Str × Nat)) {t : Tg} (hc : X.calm = true) (hN : X.N.Nodup) (hp : (P.ms[i]? == some true) = false) (ok : BlkOk X.N X.env.scope scope own) (hv : ∀ j ∈ tgSl t, j ∈ own.map (·.2))
    (hsw : swapsWith (.ListComp elt [⟨tg, iter, ifs, 0⟩] scope pos) (some (.Name y py)) spos.line X.env = pure true) (hi : PMI X G W tg iter mi)
    (hg : ∀ (s : Shared) (H : Hp) (C : Addr) (cl : List (Str × Addr)) (fp : List Addr), PG (X.blk s H scope (compEnvC scope cl C X.env) fp) tg (tG X.K t)) (ht : ∀ (s : Shared) (H : Hp) (C : Addr) (cl : List (Str × Addr)) (fp : List Addr), PMTs (X.blk s H scope (compEnvC scope cl C X.env) fp) G ifs mt)
    (he : ∀ (s : Shared) (H : Hp) (C : Addr) (cl : List (Str × Addr)) (fp : List Addr), PM (X.blk s H scope (compEnvC scope cl C X.env) fp) G W0 elt me)
    (hy : X.N[i]? = some y := by rfl) (hyl : X.env.scope.names.lookup y = some .local := by rfl) (hs : ∀ x, foldedSetIterable iter X.env x = pure x := by intro _; rfl) :
    PMS X G W P (.Assign [.Name y py] (.ListComp elt [⟨tg, iter, ifs, 0⟩] scope pos) spos) (mSet i (mComp mi t (own.map (·.2)) mt me)) :=
  (ps_setLc hc hN hy hyl hsw hi ok hg ht he hs).imp fun D σ H h => tM_comp hv (tMS_set (k := (mkK X.K G)) hp h)
theorem z_asg {t : Tg} (hp : (tgSl t).all (fun i => !(P.ms[i]? == some true)) = true) (he : PM X G W e me) (hg : PG X tg (tG X.K t)) (hs : swapsWithSole [tg] e pos.line X.env = pure false := by rfl) (hw : swappedStores [tg] e X.env = pure none := by rfl) (h1 : (assignEach [tg] X.env).map (·.2) = [assign tg X.env] := by rfl) : PMS X G W P (.Assign [tg] e pos) (mAsg t me) := (ps_asg he hg hs hw h1).imp fun _ _ _ => tMS_asg hp
theorem z_par (i j : Nat) {x y : Str} {ms : MA} {px py pt : Pos} {kt k2 : Nat} {pt2 : Pos} (hc : X.calm = true) (hN : X.N.Nodup) (hpi : (P.ms[i]? == some true) = false) (hpj : (P.ms[j]? == some true) = false) (hij : i ≠ j) (ha : PMA X G W [a, b] ms)
    (hw : swappedStores [.Tuple [.Name x px, .Name y py] kt pt] (.Tuple [a, b] k2 pt2) X.env = pure (some [x, y]) := by rfl)
    (hi : X.N[i]? = some x := by rfl) (hj : X.N[j]? = some y := by rfl) (hx : X.env.scope.names.lookup x = some .local := by rfl) (hy : X.env.scope.names.lookup y = some .local := by rfl)
    (hs : swapsWithSole [.Tuple [.Name x px, .Name y py] kt pt] (.Tuple [a, b] k2 pt2) pos.line X.env = pure false := by rfl) :
    PMS X G W P (.Assign [.Tuple [.Name x px, .Name y py] kt pt] (.Tuple [a, b] k2 pt2) pos) (mPar i j ms) := (ps_par hc hN hi hj hij hx hy ha hw hs).imp fun _ _ _ => tMS_par hpi hpj
theorem z_aug {op : Operator} {r : TIp} {f : D → D → Option O} (i : Nat) {x : Str} {pos' : Pos} (ho : PIp X op r) (hs : OpS (mkK X.K G) r f) (hN : X.N.Nodup) (hp : (P.ms[i]? == some true) = false) (he : PM X G W e me) (hi : X.N[i]? = some x := by rfl) (hx : Loc X.env.scope x := by first | exact Or.inl rfl | exact Or.inr rfl)
    (hf : X.fn x = true ∨ X.env.scope.names.lookup x = some .local := by first | exact .inl rfl | exact .inr rfl) : PMS X G W P (.AugAssign (.Name x pos') op e pos) (mAug f i me) := (ps_aug hN hi hx he ho hf).imp fun _ _ _ => tMS_aug hs hp
theorem z_dput (i : Nat) {x : Str} {p pos' : Pos} {key : Expr} {mk : ME} (hu : X.A.units + 1 < cLine) (hk : PM X G W key mk) (hv : PM X G W e me) (hN : X.N[i]? = some x := by rfl) (hvx : Vis X.env.scope x := by first | exact Or.inl rfl | exact Or.inr (Or.inl rfl) | exact Or.inr (Or.inr rfl)) (hd : (x == ("__debug__" : Str)) = false := by decide)
    (hcd : (x == ("__classdict__" : Str)) = false := by decide) (hs : swapsWith e (some (.Subscript (.Name x p) key pos')) pos.line X.env = pure false := by rfl) : PMS X G W P (.Assign [.Subscript (.Name x p) key pos'] e pos) (mPut i mk me) := (ps_dput hu (pe_var hN hvx hd hcd) hk hv hs).imp fun _ _ _ => tMS_put
theorem z_for {t : Tg} {body : List Stmt} (hpo : PassesOwn (model X.prog X.w) X.A X.env X.xe) (hc : X.calm = true) (hp : (tgSl t).all (fun i => !(P.ms[i]? == some true)) = true) (hi : PMI X G W tg iter mi) (hg : PG X tg (tG X.K t)) (hb : PMSs X G W P body m)
    (hs : ∀ x, foldedSetIterable iter X.env x = pure x := by intro _; rfl) : PMS X G W P (.For tg iter body [] pos) (mFor mi t m) := (ps_for hpo hc hi hg hb hs).imp fun _ _ _ => tMS_for hp
theorem z_raise {C : Addr} {bmB : List Value} {B newId initId : String} {x mm : Str} {j : Nat} {p p2 pos2 : Pos} (hc : X.calm = true) (tk : Takes X W) (F : ExcBaseFacts B newId initId bmB) (q : PySem.W.excIn X.K C bmB newId = true) (gC : X.mg x = some (.ref C)) (kC : PySem.W.keepIn X.K (.ref C) = true) (r : Raises X (.ref C)) (hg : Gl X x)
    (hG : G.g x = some C) (hdb : (x == ("__debug__" : Str)) = false := by decide) : PMS X G W P (.Raise (some (.Call (.Name x p) [.Constant (.str mm) j p2] [] pos2)) none pos) (mRaise x) :=
  (ps_raise hc tk (pmk_own F q gC kC r hg hdb)).imp fun _ _ _ h => tMS_raise (k := (mkK X.K G)) hG h

/-! ### the drawing state -/
variable {x : Str} {p p1 p2 : Pos} {j : Nat}
theorem st_var (i : Nat) (hN : X.N[i]? = some x := by rfl) (hv : Vis X.env.scope x := by first | exact Or.inl rfl | exact Or.inr (Or.inl rfl) | exact Or.inr (Or.inr rfl)) (hd : (x == ("__debug__" : Str)) = false := by decide) (hcd : (x == ("__classdict__" : Str)) = false := by decide) : PE X (.Name x pos) (tVar i) := pe_var hN hv hd hcd
theorem q_stG (i : Nat) (bb : Bool) (hu : X.A.units + 1 < cLine) (hv : PE X (.Name x p) (tVar i)) : PM X G W (.Subscript (.Name x p) (.Constant (.str (stS bb)) j p1) pos) (mStG i bb) := (pe_ix (ix_any hu) hv pe_str (by intro _ _; rfl)).imp fun _ _ _ => tM_stG
theorem q_rest (i : Nat) (hu : X.A.units + 1 < cLine) (hv : PE X (.Name x p) (tVar i)) : PM X G W (.Subscript (.Name x p) (.Constant (.str "rest") j p1) pos) (mStG i false) := q_stG i false hu hv
theorem q_turn (i : Nat) (hu : X.A.units + 1 < cLine) (hv : PE X (.Name x p) (tVar i)) : PM X G W (.Subscript (.Name x p) (.Constant (.str "turn") j p1) pos) (mStG i true) := q_stG i true hu hv
theorem q_stAny (i : Nat) {p3 : Pos} (hu : X.A.units + 1 < cLine) (hu2 : X.A.units + 64 < cLine) (hv : PE X (.Name x p) (tVar i)) : PM X G W (.Compare (.Subscript (.Name x p) (.Constant (.str "great") j p1) p2) [.NotEq] [.List [] p3] pos) (mStAny i) := by
  exact (pe_cmpR (op_neD hu2) (pe_ix (ix_any hu) hv pe_str (by intro _ _; rfl)) (pe_lst pa_nil) (nomark _)).imp fun _ _ _ => tM_stAny
theorem t_stAny (i : Nat) {p3 : Pos} (hu : X.A.units + 1 < cLine) (hu2 : X.A.units + 64 < cLine) (hv : PE X (.Name x p) (tVar i)) : PMT X G W (.Compare (.Subscript (.Name x p) (.Constant (.str "great") j p1) p2) [.NotEq] [.List [] p3] pos) (mBool (mStAny i)) := by
  exact (pt_cmpR (op_neD hu2) (pe_ix (ix_any hu) hv pe_str (by intro _ _; rfl)) (pe_lst pa_nil) (nomark _)).imp fun _ _ _ h => tM_stAny (tMT_bool h)
theorem q_stPop (i : Nat) {apos p3 : Pos} {j2 : Nat} (hu : X.A.units + 1 < cLine) (hv : PE X (.Name x p) (tVar i))
    (hbase : attributeBase (.Subscript (.Name x p) (.Constant (.str "great") j p1) p2) "pop" X.env (eval (.Subscript (.Name x p) (.Constant (.str "great") j p1) p2) X.env) = eval (.Subscript (.Name x p) (.Constant (.str "great") j p1) p2) X.env := by rfl)
    (hfew : ((backTo pos (starEach [.Constant (.int 0) j2 p3] X.env)).all (fun x => !x.1) && (backToKw pos (keywordEach [] X.env)).all (fun x => x.1.isSome)
      && decide (([.Constant (.int 0) j2 p3] : List Expr).length + ([] : List Keyword).length + (if ([] : List Keyword).isEmpty then 0 else 1) < 30)) = true := by rfl)
    (hline : (apos.endLine == pos.line) = true := by rfl) (hs : starEach [.Constant (.int 0) j2 p3] X.env = (false, eval (.Constant (.int 0) j2 p3) X.env) :: starEach [] X.env := by rfl) (hplain : (backTo pos (starEach [] X.env)).any (·.1) = false := by rfl) :
    PM X G W (.Call (.Attribute (.Subscript (.Name x p) (.Constant (.str "great") j p1) p2) "pop" apos) [.Constant (.int 0) j2 p3] [] pos) (mStPop i) :=
  (pe_bm PySem.F.plainAttrs_list PySem.F.slot_list_pop PySem.F.type_list_pop mt_popAt (pe_ix (ix_any hu) hv pe_str (by intro _ _; rfl)) (pa_cons pe_int pa_nil hs) hbase hfew hline hs hplain).imp fun _ _ _ => tM_stPop
theorem z_stPut (i : Nat) (bb : Bool) {pos' : Pos} (hp : (P.ms[i]? == some true) = true) (hu : X.A.units + 1 < cLine) (hv : PE X (.Name x p) (tVar i)) (he : PM X G W e me) (hs : swapsWith e (some (.Subscript (.Name x p) (.Constant (.str (stS bb)) j p1) pos')) pos.line X.env = pure false := by rfl) :
    PMS X G W P (.Assign [.Subscript (.Name x p) (.Constant (.str (stS bb)) j p1) pos'] e pos) (mStPut i bb me) := (ps_dput hu hv pe_str he hs).imp fun _ _ _ => tMS_stPut hp
theorem z_rest (i : Nat) {pos' : Pos} (hp : (P.ms[i]? == some true) = true) (hu : X.A.units + 1 < cLine) (hv : PE X (.Name x p) (tVar i)) (he : PM X G W e me) (hs : swapsWith e (some (.Subscript (.Name x p) (.Constant (.str "rest") j p1) pos')) pos.line X.env = pure false := by rfl) :
    PMS X G W P (.Assign [.Subscript (.Name x p) (.Constant (.str "rest") j p1) pos'] e pos) (mStPut i false me) := z_stPut i false hp hu hv he hs
theorem z_turn (i : Nat) {pos' : Pos} (hp : (P.ms[i]? == some true) = true) (hu : X.A.units + 1 < cLine) (hv : PE X (.Name x p) (tVar i)) (he : PM X G W e me) (hs : swapsWith e (some (.Subscript (.Name x p) (.Constant (.str "turn") j p1) pos')) pos.line X.env = pure false := by rfl) :
    PMS X G W P (.Assign [.Subscript (.Name x p) (.Constant (.str "turn") j p1) pos'] e pos) (mStPut i true me) := z_stPut i true hp hu hv he hs
structure PMP (X : Cx) (G : Gn) (W : WX) (pos : Pos) (ks : List (Option Expr)) (vs : List Expr) (ps : List (ME × ME)) : Prop where
  pp : PPs X pos ks vs (ps.map fun p => (tM (mkK X.K G) W p.1, tM (mkK X.K G) W p.2))
theorem pp_nil : PMP X G W pos [] [] [] := ⟨pps_nil⟩
theorem pp_cons {ks : List (Option Expr)} {vs : List Expr} {ps : List (ME × ME)} (hk : PM X G W a ma) (hv : PM X G W b mb) (hr : PMP X G W pos ks vs ps) : PMP X G W pos (some a :: ks) (b :: vs) ((ma, mb) :: ps) := ⟨pps_cons hk hv hr.pp⟩
theorem q_disp {ks : List (Option Expr)} {vs : List Expr} {ps : List (ME × ME)} (h : PMP X G W pos ks vs ps) (hall : ks.all (·.isSome) = true := by rfl) (hl : ks.length = vs.length := by rfl) (h0 : ks ≠ [] := by intro z; cases z) (h15 : ks.length ≤ 15 := by decide) :
    PM X G W (.Dict ks vs pos) (mDisp ps) := (pe_disp h.pp hall hl h0 h15).imp fun _ _ _ => tM_disp
theorem q_stDisp {ks : List (Option Expr)} {vs : List Expr} {ps : List (ME × ME)} (h : PMP X G W pos ks vs ps) (hall : ks.all (·.isSome) = true := by rfl) (hl : ks.length = vs.length := by rfl) (h0 : ks ≠ [] := by intro z; cases z) (h15 : ks.length ≤ 15 := by decide) :
    PM X G W (.Dict ks vs pos) (mStDisp ps) := (pe_disp h.pp hall hl h0 h15).imp fun _ _ _ => tM_stDisp
theorem q_scrList (i : Nat) {y : Str} {p3 : Pos} (hg : Gl X x) (hm : X.mg x = none) (hv : bootBuiltins x = some (.type "list")) (hc : X.calm = true) (hy : PE X (.Name y p3) (tVar i)) (hn : x ≠ "__name__" := by decide) (hdb : (x == ("__debug__" : Str)) = false := by decide)
    (he : starEach [.Name y p3] X.env = (false, eval (.Name y p3) X.env) :: starEach [] X.env := by rfl) (hpl : (backTo pos (starEach [] X.env)).any (·.1) = false := by rfl) : PM X G W (.Call (.Name x p) [.Name y p3] [] pos) (mScrList i) :=
  (pe_callTy (cr_list2 hc) hg hm hv (pa_cons hy pa_nil he) hn hdb he hpl).imp fun _ _ _ => tM_scrList
theorem i_cells (i : Nat) (hu : X.A.units + 1 < cLine) (hv : PE X (.Name x p) (tVar i)) : PMI X G W tg (.Subscript (.Name x p) (.Constant (.str "cells") j p1) pos) (mStCells i) := (pi_any (pe_ix (ix_any hu) hv pe_str (by intro _ _; rfl))).imp fun _ _ _ => tMI_stCells
end
end SW

/-! defs with keyword-only defaults; tuple(x) -/
namespace SW
open PySem PySem.Spec L2 PyProof.Rows SWZ
section
variable {X : Cx} {G : Gn} {W : WX} {pos : Pos} {a : Expr} {ma : ME}
theorem q_tuple {p : Pos} (hg : Gl X "tuple") (hm : X.mg "tuple" = none) (ha : PM X G W a ma) (na : starEach [a] X.env = (false, eval a X.env) :: starEach [] X.env := by rfl) : PM X G W (.Call (.Name "tuple" p) [a] [] pos) (mCB fTuple (mCons ma mNil)) := by
  refine (pe_tupleOf hg hm ha na).imp fun σ H Q h => ?_
  have h1 := tM_cb s_tuple h
  have h2 := tMA_cons h1
  refine tM_imp h2 fun v H1 h3 => ?_
  obtain ⟨x, e, h4⟩ := tMA_nil h3
  cases e
  exact h4
end
abbrev FunKw (K : PySem.W.Frag) (x qual : Str) (st : Stmt) (kws : List (Str × V)) (f : Addr) (fd : FuncData) : Prop := FunD K x qual (defArgs st) (defBody st) (defScope st) [] kws f fd
section
variable {P : Program} {w : World} {K : PySem.W.Frag} {mg : Str → Option Value} {base : Heap}
theorem _root_.L2.FunD.okX {x qual : Str} {st : Stmt} {kws : List (Str × V)} {f : Addr} {fd : FuncData} {N ps : List Str} {k : Nat} {sp : Sp} (F : FunKw K x qual st kws f fd) (S : FnScope N ps (defScope st)) (len : ∀ vs H Q E, sp vs H Q E → vs.length = ps.length)
    (hbody : ∀ (cdv : Value) (A : Around) (outer : List PySem.Env) (s : Shared) (H : Hp) (vs : List V) (Q : VK) (E : XK), Room k (A.deeper (envOfC qual (defScope st) s.heap.objs.size f cdv)) → sp vs H Q E →
      ∃ t, PSs (cxOf (L2.CX P w) P w K mg base N qual (defScope st) f cdv A outer s H E) (defBody st) t ∧ t { nx := fun _ H' => Q .non H', rt := Q } (L2.start N vs) H) : FnOk P w K mg base (L2.CX P w) (k + 1) f fd ps sp :=
  FunD.ok F S len hbody
end
/-- a statement that is not to be reached -/
def mStuck : MS := fun _ => .stuck
theorem z_stuck {X : Cx} {G : Gn} {W : WX} {P : Pn} {st : Stmt} : PMS X G W P st mStuck := ps_never.imp fun _ _ _ ⟨_, _, _, _, _, h⟩ => h.elim
end SW

/-! mirrors evaluated: plain words -/
namespace SW
open PySem

@[simp] theorem bind_ok {α β : Type} (a : α) (f : α → R β) : R.bind (.ok a) f = f a := rfl
@[simp] theorem sb_ok' {α : Type} (a : α) (f : α → RS) : R.sb (.ok a) f = f a := rfl
@[simp] theorem mVar_eq (i : Nat) (env : Env) : mVar i env = match env[i]? with
  | some (some (.val d)) => .ok (.ob (.val d), env)
  | some (some _) => .ok (.sl i, env)
  | _ => .stuck := rfl
@[simp] theorem mC_eq (d : D) (env : Env) : mC d env = .ok (.ob (.val d), env) := rfl
@[simp] theorem mOp2_eq (f : D → D → Option O) (ma mb : ME) (env : Env) : mOp2 f ma mb env = R.bind (ma env) fun p => R.bind (mb p.2) fun q => ofO q.2 (ap2 f (rd q.2 p.1) (rd q.2 q.1)) := rfl
@[simp] theorem mOp1_eq (f : D → Option O) (m : ME) (env : Env) : mOp1 f m env = R.bind (m env) fun p => ofO p.2 (ap1 f (rd p.2 p.1)) := rfl
@[simp] theorem ap1_eq (f : D → Option O) (a : D) : ap1 f (some a) = f a := rfl
@[simp] theorem ap2_eq (f : D → D → Option O) (a b : D) : ap2 f (some a) (some b) = f a b := rfl
@[simp] theorem ofO_eq (e : Env) (o : O) : ofO e (some o) = .ok (.ob o, e) := rfl
@[simp] theorem ofB_eq (e : Env) (b : Bool) : ofB e (some b) = .ok (b, e) := rfl
@[simp] theorem rd_ob (e : Env) (o : O) : rd e (.ob o) = o.frz := rfl
@[simp] theorem rd_sl (e : Env) (i : Nat) : rd e (.sl i) = match e[i]? with
  | some (some o) => o.frz
  | _ => none := rfl
@[simp] theorem frz_val (d : D) : O.frz (.val d) = some d := rfl
@[simp] theorem frz_lst (ds : List D) : O.frz (.lst ds) = some (.lst ds) := rfl
@[simp] theorem frz_dic (t : Bool) (kvs : List (D × D)) : O.frz (.dic t kvs) = some (.dic t kvs) := rfl
@[simp] theorem frz1_ob (e : Env) (o : O) : frz1 e (.ob o) = o.frz.map fun d => (d, e) := rfl
@[simp] theorem frz1_sl (e : Env) (i : Nat) : frz1 e (.sl i) = match e[i]? with
  | some (some o) => o.frz.map fun d => (d, e.set i (some (.val d)))
  | _ => none := rfl
@[simp] theorem frzs_nil (e : Env) : frzs e [] = some ([], e) := rfl
@[simp] theorem frzs_cons (env : Env) (x : Vr) (xs : List Vr) : frzs env (x :: xs) = match frz1 env x with
  | some (d, e1) => match frzs e1 xs with
    | some (ds, e2) => some (d :: ds, e2)
    | none => none
  | none => none := rfl
@[simp] theorem rds_nil (e : Env) : rds e [] = some [] := rfl
@[simp] theorem rds_cons (env : Env) (x : Vr) (xs : List Vr) : rds env (x :: xs) = match rd env x with
  | some d => (rds env xs).map (d :: ·)
  | none => none := rfl
@[simp] theorem mTru_eq (m : ME) (env : Env) : mTru m env = R.bind (m env) fun p => ofB p.2 ((rd p.2 p.1).bind truth) := rfl
@[simp] theorem mBool_eq (m : ME) (env : Env) : mBool m env = R.bind (m env) fun p => ofB p.2 ((rd p.2 p.1).bind boolD) := rfl
@[simp] theorem boolD_eq (b : Bool) : boolD (.bl b) = some b := rfl
@[simp] theorem truth_bl (b : Bool) : truth (.bl b) = some b := rfl
@[simp] theorem mAnd_eq (a b : MT) (env : Env) : mAnd a b env = R.bind (a env) fun p => if p.1 = true then b p.2 else .ok (false, p.2) := rfl
@[simp] theorem mOr_eq (a b : MT) (env : Env) : mOr a b env = R.bind (a env) fun p => if p.1 = true then .ok (true, p.2) else b p.2 := rfl
@[simp] theorem mNot_eq (a : MT) (env : Env) : mNot a env = R.bind (a env) fun p => .ok (!p.1, p.2) := rfl
@[simp] theorem mOfT_eq (a : MT) (env : Env) : mOfT a env = R.bind (a env) fun p => .ok (.ob (.val (.bl p.1)), p.2) := rfl
@[simp] theorem mAndV_eq (a b : ME) (env : Env) : mAndV a b env = R.bind (mBool a env) fun p => if p.1 = true then b p.2 else .ok (.ob (.val (.bl false)), p.2) := rfl
@[simp] theorem mOrV_eq (a b : ME) (env : Env) : mOrV a b env = R.bind (mBool a env) fun p => if p.1 = true then .ok (.ob (.val (.bl true)), p.2) else b p.2 := rfl
@[simp] theorem mIf_eq (t : MT) (a b : ME) (env : Env) : mIf t a b env = R.bind (t env) fun p => if p.1 = true then a p.2 else b p.2 := rfl
@[simp] theorem mChain_eq (f g : D → D → Option O) (ma mb mc : ME) (env : Env) : mChain f g ma mb mc env = R.bind (ma env) fun p => R.bind (mb p.2) fun q =>
  match ap2 f (rd q.2 p.1) (rd q.2 q.1) with
  | some (.val (.bl true)) => R.bind (mc q.2) fun r => ofO r.2 (ap2 g (rd r.2 q.1) (rd r.2 r.1))
  | some (.val (.bl false)) => .ok (.ob (.val (.bl false)), q.2)
  | _ => .stuck := rfl
@[simp] theorem mNil_eq (env : Env) : mNil env = .ok ([], env) := rfl
@[simp] theorem mCons_eq (m : ME) (ms : MA) (env : Env) : mCons m ms env = R.bind (m env) fun p => R.bind (ms p.2) fun q => .ok (p.1 :: q.1, q.2) := rfl
@[simp] theorem mTup_eq (ms : MA) (env : Env) : mTup ms env = R.bind (ms env) fun p => match frzs p.2 p.1 with
  | some (ds, e) => if ds.length ≤ LIM then .ok (.ob (.val (.tup ds)), e) else .stuck
  | none => .stuck := rfl
@[simp] theorem mLst_eq (ms : MA) (env : Env) : mLst ms env = R.bind (ms env) fun p => match frzs p.2 p.1 with
  | some (ds, e) => if ds.length ≤ LIM then .ok (.ob (.lst ds), e) else .stuck
  | none => .stuck := rfl
@[simp] theorem mCB_eq (f : List D → Option O) (ms : MA) (env : Env) : mCB f ms env = R.bind (ms env) fun p => match rds p.2 p.1 with
  | some ds => ofO p.2 (f ds)
  | none => .stuck := rfl
@[simp] theorem mIsi_eq (T : String) (m : ME) (env : Env) : mIsi T m env = R.bind (m env) fun p => match (rd p.2 p.1).bind tyD with
  | some t => .ok (.ob (.val (.bl (isTy t T))), p.2)
  | none => .stuck := rfl
@[simp] theorem mNoPart_eq (env : Env) : mNoPart env = .ok (none, env) := rfl
@[simp] theorem mPart_eq (m : ME) (env : Env) : mPart m env = R.bind (m env) fun p => match (rd p.2 p.1).bind intD with
  | some i => .ok (some i, p.2)
  | none => .stuck := by
  unfold mPart
  rfl
@[simp] theorem mCut_eq (m : ME) (lo hi : MO) (env : Env) : mCut m lo hi env = R.bind (m env) fun p => R.bind (lo p.2) fun q => R.bind (hi q.2) fun r => ofO r.2 ((rd r.2 p.1).bind fun d => fCut d q.1 r.1) := rfl
@[simp] theorem mCall_eq (m : MF) (ms : List Bool) (ds : List D) (ma : MA) (env : Env) : mCall m ms ds ma env = R.bind (ma env) fun p => match argsO ms p.1 p.2 with
  | some (os, js, e) => callE e js (m (os ++ ds.map O.val))
  | none => .stuck := rfl
@[simp] theorem argsO_nil (env : Env) : argsO [] [] env = some ([], [], env) := rfl
@[simp] theorem argsO_f (ms : List Bool) (x : Vr) (xs : List Vr) (env : Env) : argsO (false :: ms) (x :: xs) env = match frz1 env x with
    | some (d, e) => match argsO ms xs e with
      | some (os, js, e2) => some (.val d :: os, js, e2)
      | none => none
    | none => none := rfl
@[simp] theorem argsO_t (ms : List Bool) (i : Nat) (xs : List Vr) (env : Env) : argsO (true :: ms) (.sl i :: xs) env = match env[i]? with
    | some (some o) => match o.nf, argsO ms xs (env.set i none) with
      | true, some (os, js, e2) => some (o :: os, i :: js, e2)
      | _, _ => none
    | _ => none := rfl
@[simp] theorem nf_val (d : D) : (O.val d).nf = true := rfl
@[simp] theorem nf_lst (d : List D) : (O.lst d).nf = true := rfl
@[simp] theorem nf_dic (t : Bool) (d : List (D × D)) : (O.dic t d).nf = true := rfl
@[simp] theorem nf_ins (c : Str) (d : List (Str × D)) : (O.ins c d).nf = true := rfl
@[simp] theorem nf_st (a b : List Int) (c d : Int) : (O.st a b c d).nf = true := rfl
@[simp] theorem nf_scr (a : List Int) : (O.scr a).nf = true := rfl
@[simp] theorem putB_nil (env : Env) : putB env [] [] = some env := rfl
@[simp] theorem putB_cons (env : Env) (i : Nat) (js : List Nat) (o : O) (os : List O) : putB env (i :: js) (o :: os) = match env[i]? with
    | some none => putB (env.set i (some o)) js os
    | _ => none := rfl
@[simp] theorem callE_ok (e : Env) (js : List Nat) (o : O) (io : List O) : callE e js (.ok o io) = match putB e js io with
    | some e2 => .ok (.ob o, e2)
    | none => .stuck := rfl
@[simp] theorem mSeq_eq (a b : MS) (env : Env) : mSeq a b env = match a env with
  | .nx e => b e
  | r => r := rfl
@[simp] theorem mNext_eq (env : Env) : mNext env = .nx env := rfl
@[simp] theorem mIfS_eq (t : MT) (a b : MS) (env : Env) : mIfS t a b env = R.sb (t env) fun p => if p.1 = true then a p.2 else b p.2 := rfl
@[simp] theorem mExpr_eq (m : ME) (env : Env) : mExpr m env = R.sb (m env) fun p => .nx p.2 := rfl
@[simp] theorem mRet_eq (m : ME) (env : Env) : mRet m env = R.sb (m env) fun p => .rt p.1 p.2 := rfl
@[simp] theorem setO_eq (i : Nat) (o : O) (e : Env) : setO i o e = if i < e.length then .nx (e.set i (some o)) else .stuck := rfl
@[simp] theorem mSet_eq (i : Nat) (m : ME) (env : Env) : mSet i m env = R.sb (m env) fun p => match p.1 with
  | .ob o => setO i o p.2
  | .sl j => match frz1 p.2 (.sl j) with
    | some (d, e) => setO i (.val d) e
    | none => .stuck := rfl
@[simp] theorem mPar_eq (i j : Nat) (ms : MA) (env : Env) : mPar i j ms env = R.sb (ms env) fun p => match frzs p.2 p.1 with
  | some ([a, b], e) => if i < e.length ∧ j < e.length then .nx ((e.set i (some (.val a))).set j (some (.val b))) else .stuck
  | _ => .stuck := rfl
@[simp] theorem mAug_eq (f : D → D → Option O) (i : Nat) (m : ME) (env : Env) : mAug f i m env = match env[i]? with
  | some (some (.val d)) => R.sb (m env) fun p => match (rd p.2 p.1).bind (f d) with
    | some o => setO i o p.2
    | none => .stuck
  | _ => .stuck := rfl
@[simp] theorem mFor_eq (mi : MI) (t : Tg) (body : MS) (env : Env) : mFor mi t body env = R.sb (mi env) fun p => forLoop t body p.1 p.2 := rfl
@[simp] theorem mItems_eq (m : ME) (env : Env) : mItems m env = R.bind (m env) fun p => match frz1 p.2 p.1 with
  | some (d, e) => match items d with
    | some ds => .ok (ds, e)
    | none => .stuck
  | none => .stuck := rfl
@[simp] theorem items_str (s : List Nat) : items (.str s) = some (s.map fun c => .str [c]) := rfl
@[simp] theorem items_lst (s : List D) : items (.lst s) = some s := rfl
@[simp] theorem items_tup (s : List D) : items (.tup s) = some s := rfl
@[simp] theorem mRange1_eq (ms : MA) (env : Env) : mRange1 ms env = R.bind (ms env) fun p => match rds p.2 p.1 with
  | some [.int j] => if -1000000 ≤ j ∧ j ≤ 1000000 then .ok (rng 0 j.toNat, p.2) else .stuck
  | _ => .stuck := rfl
@[simp] theorem mComp_eq (mi : MI) (t : Tg) (vs : List Nat) (mt : MT) (me : ME) (env : Env) : mComp mi t vs mt me env = R.bind (mi env) fun p => match compLoop t vs mt me p.1 [] p.2 with
  | .ok (acc, e2) => .ok (.ob (.lst acc), backE p.2 vs (wipeE e2 vs))
  | _ => .stuck := rfl
@[simp] theorem mYes_eq (env : Env) : mYes env = .ok (true, env) := rfl
@[simp] theorem asgT_nm (i : Nat) (d : D) (env : Env) : asgT (.nm i) d env = if i < env.length then some (env.set i (some (.val d))) else none := by
  simp only [asgT]
@[simp] theorem mStG_eq (i : Nat) (b : Bool) (env : Env) : mStG i b env = match env[i]? with
  | some (some (.st _ _ r t)) => .ok (.ob (.val (.int (if b then t else r))), env)
  | _ => .stuck := rfl
@[simp] theorem mStPut_eq (i : Nat) (b : Bool) (m : ME) (env : Env) : mStPut i b m env = R.sb (m env) fun p => match rd p.2 p.1 with
  | some (.int z) => match p.2[i]? with
    | some (some (.st gs cs r t)) => .nx (p.2.set i (some (if b then .st gs cs r z else .st gs cs z t)))
    | _ => .stuck
  | _ => .stuck := rfl
@[simp] theorem mStAny_eq (i : Nat) (env : Env) : mStAny i env = match env[i]? with
  | some (some (.st gs _ _ _)) => .ok (.ob (.val (.bl (!gs.isEmpty))), env)
  | _ => .stuck := rfl
@[simp] theorem mStPop_eq (i : Nat) (env : Env) : mStPop i env = match env[i]? with
  | some (some (.st (g :: gs) cs r t)) => if gs.length < LIM then .ok (.ob (.val (.int g)), env.set i (some (.st gs cs r t))) else .stuck
  | _ => .stuck := rfl
@[simp] theorem mStCells_eq (i : Nat) (env : Env) : mStCells i env = match env[i]? with
  | some (some (.st _ cs _ _)) => .ok (cs.map .int, env)
  | _ => .stuck := rfl
@[simp] theorem mScrItems_eq (i : Nat) (env : Env) : mScrItems i env = match env[i]? with
  | some (some (.scr ns)) => .ok (ns.map .int, env)
  | _ => .stuck := rfl
@[simp] theorem mScrList_eq (i : Nat) (env : Env) : mScrList i env = match env[i]? with
  | some (some (.scr ns)) => .ok (.ob (.lst (ns.map .int)), env)
  | _ => .stuck := rfl
theorem mDef_eq {n : Nat} {ms : List Bool} {m : MS} {os : List O} (h : os.length = ms.length := by rfl) : mDef n ms m os = endF ms (m (os.map some ++ List.replicate (n - os.length) none)) := if_pos h
@[simp] theorem endF_rt (ms : List Bool) (o : O) (e : Env) : endF ms (.rt (.ob o) e) = outF ms o e := rfl
@[simp] theorem endF_nx (ms : List Bool) (e : Env) : endF ms (.nx e) = outF ms (.val .non) e := rfl
@[simp] theorem endF_sl (ms : List Bool) (i : Nat) (e : Env) : endF ms (.rt (.sl i) e) = if ms[i]? == some true then .stuck else match e[i]? with
    | some (some o) => outF ms o (e.set i none)
    | _ => .stuck := rfl
@[simp] theorem outF_eq (ms : List Bool) (o : O) (e : Env) : outF ms o e = match o.nf, selO ms e with
  | true, some io => .ok o io
  | _, _ => .stuck := rfl
@[simp] theorem selO_nil (e : Env) : selO [] e = some [] := by
  cases e <;> rfl
@[simp] theorem selO_t (ms : List Bool) (o : O) (e : Env) : selO (true :: ms) (some o :: e) = if o.nf = true then (selO ms e).map (o :: ·) else none := rfl
@[simp] theorem selO_f (ms : List Bool) (o : Option O) (e : Env) : selO (false :: ms) (o :: e) = selO ms e := by
  cases o <;> rfl

/-! ### operations -/
@[simp] theorem fAdd_int (i j : Int) : fAdd (.int i) (.int j) = some (.val (.int (i + j))) := rfl
@[simp] theorem fAdd_str (a b : List Nat) : fAdd (.str a) (.str b) = if a.length + b.length ≤ LIM then some (.val (.str (a ++ b))) else none := rfl
@[simp] theorem fAdd_lst (a b : List D) : fAdd (.lst a) (.lst b) = if a.length + b.length ≤ LIM then some (.lst (a ++ b)) else none := rfl
@[simp] theorem fAddI_int (i j : Int) : fAddI (.int i) (.int j) = some (.val (.int (i + j))) := rfl
@[simp] theorem fSub_int (i j : Int) : fSub (.int i) (.int j) = some (.val (.int (i - j))) := rfl
@[simp] theorem fMul_int (i j : Int) : fMul (.int i) (.int j) = if (small64 i || small64 j) = true then some (.val (.int (i * j))) else none := rfl
@[simp] theorem fDiv_int (i j : Int) : fDiv (.int i) (.int j) = if 0 < j ∧ j < 1073741824 then some (.val (.int (i / j))) else none := rfl
@[simp] theorem fMod_int (i j : Int) : fMod (.int i) (.int j) = if 0 < j then some (.val (.int (i % j))) else none := rfl
@[simp] theorem fPow_int (i j : Int) : fPow (.int i) (.int j) = if 0 ≤ j ∧ j ≤ 1000000 ∧ i.natAbs < 2 ^ 64 then some (.val (.int (i ^ j.toNat))) else none := rfl
@[simp] theorem fLt_int (i j : Int) : fLt (.int i) (.int j) = some (.val (.bl (decide (i < j)))) := rfl
@[simp] theorem fLe_int (i j : Int) : fLe (.int i) (.int j) = some (.val (.bl (decide (i ≤ j)))) := rfl
@[simp] theorem fGt_int (i j : Int) : fGt (.int i) (.int j) = some (.val (.bl (decide (j < i)))) := rfl
@[simp] theorem fGe_int (i j : Int) : fGe (.int i) (.int j) = some (.val (.bl (decide (j ≤ i)))) := rfl
@[simp] theorem fEq_int (i j : Int) : fEq (.int i) (.int j) = some (.val (.bl (i == j))) := rfl
@[simp] theorem fNe_int (i j : Int) : fNe (.int i) (.int j) = some (.val (.bl (!(i == j)))) := rfl
@[simp] theorem fEq_str (i j : List Nat) : fEq (.str i) (.str j) = some (.val (.bl (i == j))) := rfl
@[simp] theorem fNe_str (i j : List Nat) : fNe (.str i) (.str j) = some (.val (.bl (!(i == j)))) := rfl
@[simp] theorem fEq_bl (i j : Bool) : fEq (.bl i) (.bl j) = some (.val (.bl (i == j))) := rfl
@[simp] theorem fNe_bl (i j : Bool) : fNe (.bl i) (.bl j) = some (.val (.bl (!(i == j)))) := rfl
@[simp] theorem fLen_str (s : List Nat) : fLen [.str s] = if s.length ≤ LIM then some (.val (.int s.length)) else none := by
  by_cases h : s.length ≤ LIM <;> simp [fLen, lenD, h]
@[simp] theorem fLen_lst (s : List D) : fLen [.lst s] = some (.val (.int s.length)) := rfl
@[simp] theorem fLen_tup (s : List D) : fLen [.tup s] = some (.val (.int s.length)) := rfl
@[simp] theorem fInt_bl (b : Bool) : fInt [.bl b] = some (.val (.int (if b then 1 else 0))) := rfl
@[simp] theorem fMax_int (i j : Int) : fMax [.int i, .int j] = some (.val (.int (if j > i then j else i))) := rfl
@[simp] theorem fMin_int (i j : Int) : fMin [.int i, .int j] = some (.val (.int (if j < i then j else i))) := rfl
@[simp] theorem intD_int (i : Int) : intD (.int i) = some i := rfl

/-! ### loops -/
/-- a for whose body always goes on -/
theorem for_inv {t : Tg} {body : MS} (P : Nat → Env → Prop) : ∀ (ds : List D) (i : Nat) (env : Env), (∀ j d e, i ≤ j → ds[j - i]? = some d → P j e → ∃ e1, asgT t d e = some e1 ∧ ∃ e2, (body e1 = .nx e2 ∨ body e1 = .ct e2) ∧ P (j + 1) e2) → P i env →
    ∃ e', forLoop t body ds env = .nx e' ∧ P (i + ds.length) e'
  | [], i, env, _, p => ⟨env, rfl, p⟩
  | d :: ds, i, env, h, p => by
    obtain ⟨e1, h1, e2, h2, p2⟩ := h i d env (Nat.le_refl _) (by simp) p
    obtain ⟨e', h3, h4⟩ := for_inv P ds (i + 1) e2 (fun j d e hj hd => h j d e (by omega) (by
      have : j - i = (j - (i + 1)) + 1 := by omega
      rw [this]
      simpa using hd)) p2
    refine ⟨e', ?_, by rw [List.length_cons, show i + (ds.length + 1) = i + 1 + ds.length from by omega]; exact h4⟩
    unfold forLoop
    rw [h1]
    rcases h2 with h2 | h2 <;> simp only [h2] <;> exact h3
/-- .. at the items in turn -/
theorem for_all {t : Tg} {body : MS} (P : Env → Prop) (ds : List D) (env : Env) (h : ∀ d ∈ ds, ∀ e, P e → ∃ e1, asgT t d e = some e1 ∧ ∃ e2, (body e1 = .nx e2 ∨ body e1 = .ct e2) ∧ P e2) (p : P env) :
    ∃ e', forLoop t body ds env = .nx e' ∧ P e' := by
  obtain ⟨e', h1, h2⟩ := for_inv (fun _ e => P e) ds 0 env (fun j d e _ hd p => h d (List.mem_of_getElem? hd) e p) p
  exact ⟨e', h1, h2⟩
/-- a fold -/
theorem for_fold {α β : Type} {t : Tg} {body : MS} (g : α → β → α) (P : α → Env → Prop) (f : β → D) : ∀ (xs : List β) (a : α) (env : Env), (∀ x ∈ xs, ∀ a e, P a e → ∃ e1, asgT t (f x) e = some e1 ∧ ∃ e2, (body e1 = .nx e2 ∨ body e1 = .ct e2) ∧ P (g a x) e2) → P a env →
    ∃ e', forLoop t body (xs.map f) env = .nx e' ∧ P (xs.foldl g a) e'
  | [], a, env, _, p => ⟨env, rfl, p⟩
  | x :: xs, a, env, h, p => by
    obtain ⟨e1, h1, e2, h2, p2⟩ := h x (by simp) a env p
    obtain ⟨e', h3, h4⟩ := for_fold g P f xs (g a x) e2 (fun y hy => h y (by simp [hy])) p2
    refine ⟨e', ?_, h4⟩
    rw [List.map_cons]
    unfold forLoop
    rw [h1]
    rcases h2 with h2 | h2 <;> simp only [h2] <;> exact h3
/-- a comprehension by a word of what is made so far and of the names -/
theorem comp_inv {β : Type} {t : Tg} {vs : List Nat} {mt : MT} {me : ME} (f : β → D) (P : List β → List D → Env → Prop) (N : Nat) (hN : N ≤ LIM) : ∀ (xs done : List β) (acc : List D) (env : Env), done.length + xs.length ≤ N → acc.length ≤ done.length →
    (∀ x ∈ xs, ∀ done acc e, done.length < N → P done acc e → ∃ e1, asgT t (f x) (wipeE e vs) = some e1 ∧ ((∃ e2, mt e1 = .ok (false, e2) ∧ P (done ++ [x]) acc e2) ∨ ∃ e2 v e3 y e4, mt e1 = .ok (true, e2) ∧ me e2 = .ok (v, e3) ∧ frz1 e3 v = some (y, e4) ∧ P (done ++ [x]) (acc ++ [y]) e4)) →
    P done acc env → ∃ acc' e', compLoop t vs mt me (xs.map f) acc env = .ok (acc', e') ∧ P (done ++ xs) acc' e'
  | [], done, acc, env, _, _, _, p => ⟨acc, env, rfl, by simpa using p⟩
  | x :: xs, done, acc, env, hl, ha, h, p => by
    simp only [List.length_cons] at hl
    obtain ⟨e1, h1, h2⟩ := h x (by simp) done acc env (by omega) p
    rw [List.map_cons]
    unfold compLoop
    rw [h1]
    rcases h2 with ⟨e2, h3, p2⟩ | ⟨e2, v, e3, y, e4, h3, h4, h5, p2⟩
    · obtain ⟨acc', e', h7, h8⟩ := comp_inv f P N hN xs (done ++ [x]) acc e2 (by simp; omega) (by simp; omega) (fun z hz => h z (by simp [hz])) p2
      refine ⟨acc', e', ?_, by simpa using h8⟩
      simp only [h3]
      exact h7
    · obtain ⟨acc', e', h7, h8⟩ := comp_inv f P N hN xs (done ++ [x]) (acc ++ [y]) e4 (by simp; omega) (by simp; omega) (fun z hz => h z (by simp [hz])) p2
      refine ⟨acc', e', ?_, by simpa using h8⟩
      have h6 : acc.length < LIM := by omega
      simp only [h3, h4, h5, if_pos h6]
      exact h7
theorem le_lim {n : Nat} (h : n ≤ 100000) : n ≤ LIM := Nat.le_trans h (by decide)
end SW

/-! a law's drawing: begun, mixed, take, pick, text -/
namespace SW
open PySem L2

def bBegun : MS :=
  mSeq (mSet 1 (mComp (mScrItems 0) (.nm 2) [2] (mBool (mOp2 fGe (mVar 2) (mOp2 fPow (mC (.int 10)) (mC (.int 18))))) (mOp2 fSub (mVar 2) (mOp2 fPow (mC (.int 10)) (mC (.int 18))))))
  (mRet (mStDisp [(mC (.str [103, 114, 101, 97, 116]), mVar 1), (mC (.str [99, 101, 108, 108, 115]), mScrList 0), (mC (.str [114, 101, 115, 116]), mC (.int 0)), (mC (.str [116, 117, 114, 110]), mC (.int 0))]))
def fBegun : MF := mDef 3 [true] bBegun
def bMix : MS := (mSeq (mSet 3 (mOp2 fAdd (mOp2 fMul (mC (.int 104729)) (mStG 0 true)) (mOp2 fDiv (mVar 2) (mC (.int 7)))))
  (mSeq (mFor (mStCells 0) (.nm 4) (mSet 3 (mOp2 fMod (mOp2 fAdd (mOp2 fMul (mVar 3) (mC (.int 48271))) (mVar 4)) (mVar 2))))
  (mSet 1 (mOp2 fAdd (mOp2 fMul (mVar 1) (mC (.int 2147483647))) (mOp2 fMod (mOp2 fPow (mVar 3) (mC (.int 5))) (mVar 2))))))
def bMixed : MS :=
  mSeq (mStPut 0 true (mOp2 fAdd (mStG 0 true) (mC (.int 1))))
  (mSeq (mSet 1 (mC (.int 0)))
  (mSeq (mFor (mItems (mLst (mCons (mC (.int 2147483629)) (mCons (mC (.int 2147483587)) (mCons (mC (.int 2147483579)) (mCons (mC (.int 2147483563)) (mCons (mC (.int 2147483549)) (mCons (mC (.int 2147483543)) (mNil))))))))) (.nm 2) bMix)
  (mRet (mVar 1))))
def fMixed : MF := mDef 5 [true] bMixed
def bTake : MS :=
  mSeq (mIfS (mAnd (mBool (mOp2 fEq (mStG 0 false) (mC (.int 0)))) (mBool (mStAny 0))) (mStPut 0 false (mStPop 0)) (mIfS (mBool (mOp2 fEq (mStG 0 false) (mC (.int 0)))) (mStPut 0 false (mCall fMixed [true] [] (mCons (mVar 0) (mNil)))) (mNext)))
  (mSeq (mSet 2 (mOp2 fMod (mStG 0 false) (mVar 1)))
  (mSeq (mStPut 0 false (mOp2 fDiv (mStG 0 false) (mVar 1)))
  (mRet (mVar 2))))
def fTake : MF := mDef 3 [true, false] bTake
def bPick : MS :=
  mRet (mOp2 fIx (mVar 1) (mCall fTake [true, false] [] (mCons (mVar 0) (mCons (mCB fLen (mCons (mVar 1) (mNil))) (mNil)))))
def fPick : MF := mDef 2 [true, false] bPick
def bText : MS :=
  mRet (mJoin fJoin (mC (.str [])) (mComp (mRange1 (mCons (mCall fTake [true, false] [] (mCons (mVar 0) (mCons (mOp2 fAdd (mVar 2) (mC (.int 1))) (mNil)))) (mNil))) (.nm 3) [3] (mYes) (mCall fPick [true, false] [] (mCons (mVar 0) (mCons (mVar 1) (mNil))))))
def fText : MF := mDef 4 [true, false, false] bText

/-- a drawing state -/
structure Sd where
  gs : List Int
  cs : List Int
  r : Int
  t : Int
abbrev stO (s : Sd) : O := .st s.gs s.cs s.r s.t
/-- n more drawings may come -/
def Sd.ok (s : Sd) (n : Nat) : Prop := s.gs.length ≤ 63 ∧ 0 ≤ s.t ∧ s.t + n ≤ 1000000000
theorem Sd.ok.le {s : Sd} {n m : Nat} (h : s.ok n) (l : m ≤ n) : s.ok m := ⟨h.1, h.2.1, by have := h.2.2; omega⟩

theorem begun_ok (ns : List Int) (hl : ns.length ≤ 63) : ∃ s : Sd, fBegun [.scr ns] = .ok (stO s) [.scr ns] ∧ s.ok 1000000000 := by
  obtain ⟨acc, e', h1, ⟨gs, rfl, hg, v, rfl⟩⟩ := comp_inv (t := .nm 2) (vs := [2]) (mt := mBool (mOp2 fGe (mVar 2) (mOp2 fPow (mC (.int 10)) (mC (.int 18))))) (me := mOp2 fSub (mVar 2) (mOp2 fPow (mC (.int 10)) (mC (.int 18)))) D.int
    (fun done acc e => ∃ gs : List Int, acc = gs.map D.int ∧ gs.length ≤ done.length ∧ ∃ v, e = [some (.scr ns), none, v]) 63 (by decide) ns [] [] [some (.scr ns), none, none] (by simp; omega) (Nat.le_refl _)
    (fun x hx done acc e _ => by
      rintro ⟨gs, rfl, hg, v, rfl⟩
      refine ⟨[some (.scr ns), none, some (.val (.int x))], by simp [wipeE], ?_⟩
      by_cases h : (10 : Int) ^ 18 ≤ x
      · right
        refine ⟨[some (.scr ns), none, some (.val (.int x))], .ob (.val (.int (x - 10 ^ 18))), [some (.scr ns), none, some (.val (.int x))], .int (x - 10 ^ 18), [some (.scr ns), none, some (.val (.int x))], ?_, ?_, ?_, gs ++ [x - 10 ^ 18], ?_, ?_, ?_⟩
        · simp
          simpa using h
        · simp
        · simp
        · simp
        · simp
          exact hg
        · exact ⟨_, rfl⟩
      · left
        refine ⟨[some (.scr ns), none, some (.val (.int x))], ?_, gs, rfl, by simp; omega, _, rfl⟩
        simp
        simpa using h) ⟨[], rfl, Nat.le_refl _, none, rfl⟩
  refine ⟨⟨gs, ns, 0, 0⟩, ?_, by
    have : gs.length ≤ ns.length := by simpa using hg
    exact ⟨by show gs.length ≤ 63; omega, by show (0 : Int) ≤ 0; decide, by show (0 : Int) + (1000000000 : Nat) ≤ 1000000000; decide⟩⟩
  have hi : ∀ l : List Int, intsD (l.map D.int) = some l := fun l => by
    induction l with
    | nil => rfl
    | cons a l ih => simp [intsD, ih]
  unfold fBegun
  rw [mDef_eq]
  simp [bBegun, h1, backE, wipeE, mStDisp, mPairs, hi]
theorem mixed_ok (s : Sd) (h0 : 0 ≤ s.t) (h1 : s.t < 1000000000) : ∃ z : Int, fMixed [stO s] = .ok (.val (.int z)) [.st s.gs s.cs s.r (s.t + 1)] := by
  obtain ⟨gs, cs, r, t⟩ := s
  simp only at h0 h1
  have inner : ∀ (z p b : Int) (v : Option O), 0 < p → p < 2 ^ 31 → b.natAbs < 2 ^ 64 → ∃ (b' : Int) (v' : Option O), b'.natAbs < 2 ^ 64 ∧ forLoop (.nm 4) (mSet 3 (mOp2 fMod (mOp2 fAdd (mOp2 fMul (mVar 3) (mC (.int 48271))) (mVar 4)) (mVar 2))) (cs.map D.int) [some (.st gs cs r (t + 1)), some (.val (.int z)), some (.val (.int p)), some (.val (.int b)), v] =
      .nx [some (.st gs cs r (t + 1)), some (.val (.int z)), some (.val (.int p)), some (.val (.int b')), v'] := by
    intro z p b v hp hp2 hb
    obtain ⟨e', h1, b', v', rfl, h2⟩ := for_fold (t := .nm 4) (body := mSet 3 (mOp2 fMod (mOp2 fAdd (mOp2 fMul (mVar 3) (mC (.int 48271))) (mVar 4)) (mVar 2))) (fun (a : Unit) (x : Int) => a) (fun _ e => ∃ (b' : Int) (v' : Option O), e = [some (.st gs cs r (t + 1)), some (.val (.int z)), some (.val (.int p)), some (.val (.int b')), v'] ∧ b'.natAbs < 2 ^ 64) D.int cs () _
      (fun x hx a e => by
        rintro ⟨b', v', rfl, h2⟩
        refine ⟨[some (.st gs cs r (t + 1)), some (.val (.int z)), some (.val (.int p)), some (.val (.int b')), some (.val (.int x))], by simp, [some (.st gs cs r (t + 1)), some (.val (.int z)), some (.val (.int p)), some (.val (.int ((b' * 48271 + x) % p))), some (.val (.int x))], .inl ?_, _, _, rfl, ?_⟩
        · simp [small64, hp]
        · have a1 := Int.emod_nonneg (b' * 48271 + x) (by omega : p ≠ 0)
          have a2 := Int.emod_lt_of_pos (b' * 48271 + x) hp
          omega) ⟨b, v, rfl, hb⟩
    exact ⟨b', v', h2, h1⟩
  have outer : ∃ (z : Int) (v2 v3 v4 : Option O), forLoop (.nm 2) bMix ([2147483629, 2147483587, 2147483579, 2147483563, 2147483549, 2147483543].map D.int) [some (.st gs cs r (t + 1)), some (.val (.int 0)), none, none, none] =
      .nx [some (.st gs cs r (t + 1)), some (.val (.int z)), v2, v3, v4] := by
    obtain ⟨e', h1, z, v2, v3, v4, rfl⟩ := for_fold (t := .nm 2) (body := bMix) (fun (a : Unit) (x : Int) => a) (fun _ e => ∃ (z : Int) (v2 v3 v4 : Option O), e = [some (.st gs cs r (t + 1)), some (.val (.int z)), v2, v3, v4]) D.int [2147483629, 2147483587, 2147483579, 2147483563, 2147483549, 2147483543] () _
      (fun x hx a e => by
        rintro ⟨z, v2, v3, v4, rfl⟩
        have hp : 0 < x ∧ x < 2 ^ 31 := by
          simp at hx
          omega
        obtain ⟨b', v', h2, h3⟩ := inner z x (104729 * (t + 1) + x / 7) v4 hp.1 hp.2 (by omega)
        refine ⟨[some (.st gs cs r (t + 1)), some (.val (.int z)), some (.val (.int x)), v3, v4], by simp, [some (.st gs cs r (t + 1)), some (.val (.int (z * 2147483647 + b' ^ 5 % x))), some (.val (.int x)), some (.val (.int b')), v'], .inl ?_, _, _, _, _, rfl⟩
        simp [bMix, small64, h3, hp.1, h2]) ⟨0, none, none, none, rfl⟩
    exact ⟨z, v2, v3, v4, h1⟩
  obtain ⟨z, v2, v3, v4, h2⟩ := outer
  refine ⟨z, ?_⟩
  unfold fMixed
  rw [mDef_eq]
  simp only [List.map_cons, List.map_nil] at h2
  have l6 : 6 ≤ LIM := by decide
  simp [bMixed, h2, l6]
theorem take_ok (s : Sd) (k : Nat) (h : s.ok (k + 1)) (n : Int) (h0 : 0 < n) (h1 : n < 1073741824) : ∃ (i : Int) (s' : Sd), fTake [stO s, .val (.int n)] = .ok (.val (.int i)) [stO s'] ∧ s'.ok k ∧ 0 ≤ i ∧ i < n := by
  obtain ⟨gs, cs, r, t⟩ := s
  obtain ⟨hg, ht, hk⟩ := h
  simp only at hg ht hk
  have m1 : ∀ r : Int, 0 ≤ r % n ∧ r % n < n := fun r => ⟨Int.emod_nonneg r (by omega), Int.emod_lt_of_pos r h0⟩
  unfold fTake
  rw [mDef_eq]
  by_cases hr : r = 0
  · subst hr
    cases gs with
    | nil =>
      obtain ⟨z, hz⟩ := mixed_ok ⟨[], cs, 0, t⟩ ht (by show t < _; omega)
      refine ⟨z % n, ⟨[], cs, z / n, t + 1⟩, ?_, ⟨by show 0 ≤ 63; decide, by show 0 ≤ t + 1; omega, by show t + 1 + (k : Int) ≤ _; omega⟩, (m1 z).1, (m1 z).2⟩
      simp only at hz
      simp [bTake, hz, h0, h1]
    | cons g gs =>
      simp at hg
      have l : gs.length < LIM := Nat.lt_of_lt_of_le (by omega : gs.length < 64) (by decide)
      refine ⟨g % n, ⟨gs, cs, g / n, t⟩, ?_, ⟨by show gs.length ≤ 63; omega, ht, by show t + (k : Int) ≤ _; omega⟩, (m1 g).1, (m1 g).2⟩
      simp [bTake, h0, h1, l]
  · refine ⟨r % n, ⟨gs, cs, r / n, t⟩, ?_, ⟨hg, ht, by show t + (k : Int) ≤ _; omega⟩, (m1 r).1, (m1 r).2⟩
    simp [bTake, h0, h1, hr]
theorem at_ok {α : Type} (xs : List α) (i : Int) (h0 : 0 ≤ i) (h1 : i < xs.length) : ∃ x ∈ xs, atI xs i = some x := by
  have hi : i.toNat < xs.length := by omega
  refine ⟨xs[i.toNat], List.getElem_mem hi, ?_⟩
  simp [atI, ixN, h0, h1, hi]
theorem pick_str (s : Sd) (k : Nat) (h : s.ok (k + 1)) (a : List Nat) (ha : a ≠ []) (hl : a.length ≤ 1000) : ∃ (c : Nat) (s' : Sd), fPick [stO s, .val (.str a)] = .ok (.val (.str [c])) [stO s'] ∧ s'.ok k ∧ c ∈ a := by
  have l0 : 0 < a.length := List.length_pos_iff.mpr ha
  obtain ⟨i, s', h1, h2, h3, h4⟩ := take_ok s k h a.length (by omega) (by omega)
  obtain ⟨c, h5, h6⟩ := at_ok a i h3 h4
  refine ⟨c, s', ?_, h2, h5⟩
  have l1 : a.length ≤ LIM := le_lim (by omega)
  unfold fPick
  rw [mDef_eq]
  simp [bPick, l1, h1, fIx, h6]
theorem pick_lst (s : Sd) (k : Nat) (h : s.ok (k + 1)) (a : List D) (ha : a ≠ []) (hl : a.length ≤ 1000) : ∃ (d : D) (s' : Sd), fPick [stO s, .val (.lst a)] = .ok (.val d) [stO s'] ∧ s'.ok k ∧ d ∈ a := by
  have l0 : 0 < a.length := List.length_pos_iff.mpr ha
  obtain ⟨i, s', h1, h2, h3, h4⟩ := take_ok s k h a.length (by omega) (by omega)
  obtain ⟨c, h5, h6⟩ := at_ok a i h3 h4
  refine ⟨c, s', ?_, h2, h5⟩
  unfold fPick
  rw [mDef_eq]
  simp [bPick, h1, fIx, h6]
theorem join_one (w : List Nat) : joinD [] (w.map fun c => [c]) = w := by
  induction w with
  | nil => rfl
  | cons c w ih =>
    cases w with
    | nil => rfl
    | cons d w =>
      have e : joinD [] (List.map (fun c => [c]) (c :: d :: w)) = [c] ++ ([] ++ joinD [] (List.map (fun c => [c]) (d :: w))) := rfl
      rw [e, ih]
      rfl
theorem txts_one (w : List Nat) : txts (w.map fun c => D.str [c]) = some (w.map fun c => [c]) := by
  induction w with
  | nil => rfl
  | cons c w ih => simp [txts, ih]
theorem text_ok (s : Sd) (k m : Nat) (h : s.ok (k + m + 1)) (a : List Nat) (ha : a ≠ []) (hl : a.length ≤ 1000) (hm : m ≤ 1000) :
    ∃ (w : List Nat) (s' : Sd), fText [stO s, .val (.str a), .val (.int m)] = .ok (.val (.str w)) [stO s'] ∧ s'.ok k ∧ w.length ≤ m ∧ ∀ c ∈ w, c ∈ a := by
  obtain ⟨i, s1, h1, h2, h3, h4⟩ := take_ok s (k + m) h (m + 1) (by omega) (by omega)
  obtain ⟨acc, e', h5, w, s', rfl, hw, hk, hc, v, rfl⟩ := comp_inv (t := .nm 3) (vs := [3]) (mt := mYes) (me := mCall fPick [true, false] [] (mCons (mVar 0) (mCons (mVar 1) (mNil)))) (fun j : Nat => D.int (j : Int))
    (fun done acc e => ∃ (w : List Nat) (s' : Sd), acc = w.map (fun c => D.str [c]) ∧ w.length = done.length ∧ s'.ok (k + (m - done.length)) ∧ (∀ c ∈ w, c ∈ a) ∧ ∃ v, e = [some (stO s'), some (.val (.str a)), some (.val (.int m)), v])
    i.toNat (le_lim (by omega)) (List.range i.toNat) [] [] [some (stO s1), some (.val (.str a)), some (.val (.int m)), none] (by simp) (Nat.le_refl _)
    (fun x hx done acc e hd => by
      rintro ⟨w, s', rfl, hw, hk, hc, v, rfl⟩
      obtain ⟨c, s2, h6, h7, h8⟩ := pick_str s' (k + (m - (done.length + 1))) (hk.le (by omega)) a ha hl
      refine ⟨[some (stO s'), some (.val (.str a)), some (.val (.int m)), some (.val (.int (x : Int)))], by simp [wipeE], .inr ⟨_, .ob (.val (.str [c])), [some (stO s2), some (.val (.str a)), some (.val (.int m)), some (.val (.int (x : Int)))], .str [c], [some (stO s2), some (.val (.str a)), some (.val (.int m)), some (.val (.int (x : Int)))], rfl, ?_, by simp, w ++ [c], s2, ?_, ?_, ?_, ?_, _, rfl⟩⟩
      · simp [h6]
      · simp
      · simp [hw]
      · simpa using h7
      · intro d hd
        rcases List.mem_append.mp hd with hd | hd
        · exact hc d hd
        · simp at hd
          subst hd
          exact h8)
    ⟨[], s1, rfl, rfl, by simpa using h2, by simp, none, rfl⟩
  simp only [List.nil_append, List.length_range] at hw hk
  refine ⟨w, s', ?_, hk.le (by omega), by omega, hc⟩
  have l1 : (w.map fun c => [c]).length ≤ LIM := by simp; exact le_lim (by omega)
  have l2 : ((w.map fun c => [c]).map List.length).sum + (w.map fun c => [c]).length * ([] : List Nat).length ≤ LIM := by
    have : ((w.map fun c => [c]).map List.length).sum = w.length := by
      have : ∀ w : List Nat, ((w.map fun c => [c]).map List.length).sum = w.length := fun w => by
        induction w with
        | nil => rfl
        | cons c w ih => simp at ih ⊢; omega
      exact this w
    rw [this]
    simp
    exact le_lim (by omega)
  have hr : rng 0 i.toNat = (List.range i.toNat).map fun j : Nat => D.int (j : Int) := by simp [rng]
  unfold fText
  rw [mDef_eq]
  have b1 : -1000000 ≤ i ∧ i ≤ 1000000 := by omega
  simp only [bText, mRet_eq, mJoin, mC_eq, bind_ok, rd_ob, frz_val, Option.map, isStr, mComp_eq, mRange1_eq, mCons_eq, mCall_eq, mVar_eq, mNil_eq, mOp2_eq]
  simp [h1, b1, hr, h5, backE, wipeE, fJoin, txts_one, join_one]
  have l3 := l2
  simp at l3
  simp [l3]
end SW

/-! plain facts: comprehensions that change nothing; cuts; words within words -/
namespace SW
open PySem L2

/-- [e for x in xs if c], nothing changed by it -/
theorem comp_core {β : Type} {mt : MT} {me : ME} (v : Nat) (f g : β → D) (p : β → Bool) (xs : List β) {env : Env} (hn : env[v]? = some none ∨ ∃ d, env[v]? = some (some (.val d))) (hl : xs.length ≤ LIM)
    (ht : ∀ x ∈ xs, mt (env.set v (some (.val (f x)))) = .ok (p x, env.set v (some (.val (f x))))) (he : ∀ x ∈ xs, p x = true → me (env.set v (some (.val (f x)))) = .ok (.ob (.val (g x)), env.set v (some (.val (f x))))) :
    ∃ e', compLoop (.nm v) [v] mt me (xs.map f) [] env = .ok ((xs.filter p).map g, e') ∧ backE env [v] (wipeE e' [v]) = env := by
  have hv : v < env.length := by
    rcases hn with hn | ⟨d, hn⟩ <;> exact (List.getElem?_eq_some_iff.mp hn).1
  obtain ⟨acc, e', h1, h2, h3, h4⟩ := comp_inv (t := .nm v) (vs := [v]) (mt := mt) (me := me) f (fun done acc e => acc = (done.filter p).map g ∧ e.set v none = env.set v none ∧ e.length = env.length) xs.length hl xs [] [] env (by simp) (Nat.le_refl _)
    (fun x hx done acc e _ => by
      rintro ⟨rfl, h2, h3⟩
      have hw : wipeE e [v] = env.set v none := h2
      rw [hw]
      refine ⟨env.set v (some (.val (f x))), by simp [hv], ?_⟩
      by_cases hp : p x = true
      · right
        refine ⟨_, .ob (.val (g x)), env.set v (some (.val (f x))), g x, env.set v (some (.val (f x))), by rw [ht x hx, hp], he x hx hp, rfl, ?_, by rw [List.set_set], by simp⟩
        simp [hp]
      · left
        have hp : p x = false := by simpa using hp
        exact ⟨_, by rw [ht x hx, hp], by simp [hp], by rw [List.set_set], by simp⟩)
    ⟨rfl, rfl, rfl⟩
  refine ⟨e', by rw [h1, h2]; rfl, ?_⟩
  have hw : wipeE e' [v] = env.set v none := h3
  have same : ∀ y : Option O, env[v]? = some y → (env.set v none).set v y = env := fun y hy => by
    rw [List.set_set]
    apply List.ext_getElem?
    intro j
    by_cases hj : v = j
    · subst hj
      rw [List.getElem?_set_self hv, hy]
    · rw [List.getElem?_set_ne hj]
  rw [hw]
  unfold backE
  rcases hn with hn | ⟨d, hn⟩
  · rw [hn]
    have := same none hn
    rw [List.set_set] at this
    exact this
  · rw [hn]
    exact same _ hn
theorem comp_filt {β : Type} {mi : MI} {mt : MT} {me : ME} (v : Nat) (f g : β → D) (p : β → Bool) (xs : List β) {env0 env : Env} (hi : mi env0 = .ok (xs.map f, env)) (hn : env[v]? = some none ∨ ∃ d, env[v]? = some (some (.val d))) (hl : xs.length ≤ LIM)
    (ht : ∀ x ∈ xs, mt (env.set v (some (.val (f x)))) = .ok (p x, env.set v (some (.val (f x))))) (he : ∀ x ∈ xs, p x = true → me (env.set v (some (.val (f x)))) = .ok (.ob (.val (g x)), env.set v (some (.val (f x))))) :
    mComp mi (.nm v) [v] mt me env0 = .ok (.ob (.lst ((xs.filter p).map g)), env) := by
  obtain ⟨e', h1, h2⟩ := comp_core v f g p xs hn hl ht he
  rw [mComp_eq, hi, bind_ok]
  simp only [h1, h2]
theorem compK_filt {β : Type} {mt : MT} {me : ME} (i v : Nat) (f g : β → D) (p : β → Bool) (xs : List β) {env : Env} {kvs : List (D × D)} (hd : env[i]? = some (some (.dic false kvs))) (hk : kvs.map (·.1) = xs.map f) (hn : (env.set i none)[v]? = some none ∨ ∃ d, (env.set i none)[v]? = some (some (.val d))) (hl : xs.length ≤ LIM)
    (ht : ∀ x ∈ xs, mt ((env.set i none).set v (some (.val (f x)))) = .ok (p x, (env.set i none).set v (some (.val (f x))))) (he : ∀ x ∈ xs, p x = true → me ((env.set i none).set v (some (.val (f x)))) = .ok (.ob (.val (g x)), (env.set i none).set v (some (.val (f x))))) :
    mCompK i (.nm v) [v] mt me env = .ok (.ob (.lst ((xs.filter p).map g)), env) := by
  obtain ⟨e', h1, h2⟩ := comp_core v f g p xs hn hl ht he
  unfold mCompK
  rw [hd]
  simp only [hk, h1, h2]
  have hi : i < env.length := (List.getElem?_eq_some_iff.mp hd).1
  have : (env.set i none).set i (some (.dic false kvs)) = env := by
    rw [List.set_set]
    apply List.ext_getElem?
    intro j
    by_cases hj : i = j
    · subst hj
      rw [List.getElem?_set_self hi, hd]
    · rw [List.getElem?_set_ne hj]
  rw [this]
theorem comp_map {β : Type} {mi : MI} {me : ME} (v : Nat) (f g : β → D) (xs : List β) {env0 env : Env} (hi : mi env0 = .ok (xs.map f, env)) (hn : env[v]? = some none ∨ ∃ d, env[v]? = some (some (.val d))) (hl : xs.length ≤ LIM)
    (he : ∀ x ∈ xs, me (env.set v (some (.val (f x)))) = .ok (.ob (.val (g x)), env.set v (some (.val (f x))))) :
    mComp mi (.nm v) [v] mYes me env0 = .ok (.ob (.lst (xs.map g)), env) := by
  have := comp_filt (mt := mYes) v f g (fun _ => true) xs hi hn hl (fun x _ => rfl) (fun x hx _ => he x hx)
  rw [this, List.filter_eq_self.mpr (fun _ _ => rfl)]
theorem bools_map {β : Type} (p : β → Bool) (xs : List β) : bools (xs.map fun x => D.bl (p x)) = some (xs.map p) := by
  induction xs with
  | nil => rfl
  | cons x xs ih => simp [bools, ih]
theorem fAll_map {β : Type} (p : β → Bool) (xs : List β) : fAll [.lst (xs.map fun x => D.bl (p x))] = some (.val (.bl (xs.all p))) := by
  simp [fAll, bools_map]

/-! ### cuts -/
theorem cut_ij {α : Type} (xs : List α) (i j : Nat) : cutL xs (some (i : Int)) (some (j : Int)) = (xs.drop i).take (j - i) := by
  unfold cutL
  rw [HT.sIx_nat, HT.sIx_nat]
  by_cases h : i ≤ xs.length
  · rw [Nat.min_eq_left h]
    by_cases h2 : j ≤ xs.length
    · rw [Nat.min_eq_left h2]
    · rw [Nat.min_eq_right (by omega)]
      rw [List.take_of_length_le (by simp), List.take_of_length_le (by simp; omega)]
  · rw [show min i xs.length = xs.length from by omega, List.drop_of_length_le (Nat.le_refl _), List.drop_of_length_le (by omega : xs.length ≤ i)]
    simp
theorem cut_i {α : Type} (xs : List α) (i : Nat) : cutL xs (some (i : Int)) none = xs.drop i := by
  unfold cutL
  rw [HT.sIx_nat, HT.sIx_none]
  by_cases h : i ≤ xs.length
  · rw [Nat.min_eq_left h, List.take_of_length_le (by simp)]
  · rw [show min i xs.length = xs.length from by omega, List.drop_of_length_le (Nat.le_refl _), List.drop_of_length_le (by omega : xs.length ≤ i)]
    simp
theorem cut_j {α : Type} (xs : List α) (j : Nat) : cutL xs none (some (j : Int)) = xs.take j := by
  unfold cutL
  rw [HT.sIx_nat, HT.sIx_none]
  by_cases h : j ≤ xs.length
  · rw [Nat.min_eq_left h]
    simp
  · rw [Nat.min_eq_right (by omega), List.take_of_length_le (by simp), List.take_of_length_le (by omega)]
    simp

/-! ### words strewn in words -/
/-- the next sign of w that is waited for -/
def gStep (w : List Nat) (k : Nat) (c : Nat) : Nat := if (w.drop k).take 1 = [c] then k + 1 else k
def greedy (w o : List Nat) : Nat := o.foldl (gStep w) 0
theorem gStep_le {w : List Nat} {k c : Nat} (h : k ≤ w.length) : gStep w k c ≤ w.length := by
  unfold gStep
  split
  · rename_i e
    by_cases hk : k < w.length
    · omega
    · rw [List.drop_of_length_le (by omega)] at e
      simp at e
  · exact h
theorem greedy_le (w : List Nat) : ∀ (o : List Nat) (k : Nat), k ≤ w.length → o.foldl (gStep w) k ≤ w.length
  | [], k, h => h
  | c :: o, k, h => greedy_le w o _ (gStep_le h)
theorem greedy_sub (w : List Nat) : ∀ (o : List Nat) (k : Nat), k ≤ w.length → (o.foldl (gStep w) k = w.length ↔ (w.drop k).Sublist o)
  | [], k, h => by
    simp
    omega
  | c :: o, k, h => by
    rw [List.foldl_cons, greedy_sub w o _ (gStep_le h)]
    by_cases hk : k < w.length
    · have e : w.drop k = w[k] :: w.drop (k + 1) := List.drop_eq_getElem_cons hk
      have t : (w.drop k).take 1 = [w[k]] := by
        rw [e]
        rfl
      unfold gStep
      by_cases hc : w[k] = c
      · rw [if_pos (by rw [t, hc]), e, hc]
        exact (List.cons_sublist_cons).symm
      · rw [if_neg (by rw [t]; simpa using hc)]
        constructor
        · exact fun s => s.cons c
        · intro s
          rw [e] at s ⊢
          cases s with
          | cons _ s => exact s
          | cons_cons _ s => exact absurd rfl hc
    · have e : w.drop k = [] := List.drop_of_length_le (by omega)
      have : gStep w k c = k := by
        unfold gStep
        rw [if_neg (by rw [e]; simp)]
      rw [this, e]
      simp
theorem greedy_iff (w o : List Nat) : greedy w o = w.length ↔ w.Sublist o := by
  have := greedy_sub w o 0 (Nat.zero_le _)
  simpa [greedy] using this
/-! ### all words -/
def allW (a : List Nat) : Nat → List (List Nat)
  | 0 => [[]]
  | n + 1 => (allW a n).flatMap fun t => a.map fun c => t ++ [c]
theorem mem_allW {a : List Nat} : ∀ {n : Nat} {s : List Nat}, s ∈ allW a n ↔ s.length = n ∧ ∀ c ∈ s, c ∈ a
  | 0, s => by
    simp [allW]
    rintro rfl
    simp
  | n + 1, s => by
    unfold allW
    rw [List.mem_flatMap]
    constructor
    · rintro ⟨t, ht, hs⟩
      obtain ⟨c, hc, rfl⟩ := List.mem_map.mp hs
      obtain ⟨h1, h2⟩ := mem_allW.mp ht
      refine ⟨by simp [h1], fun d hd => ?_⟩
      rcases List.mem_append.mp hd with hd | hd
      · exact h2 d hd
      · simp at hd
        subst hd
        exact hc
    · rintro ⟨h1, h2⟩
      have hne : s ≠ [] := fun z => by
        subst z
        simp at h1
      refine ⟨s.dropLast, mem_allW.mpr ⟨by simp [h1], fun c hc => h2 c (List.dropLast_subset _ hc)⟩, List.mem_map.mpr ⟨s.getLast hne, h2 _ (List.getLast_mem hne), List.dropLast_concat_getLast hne⟩⟩
theorem allW_len (a : List Nat) : ∀ n, (allW a n).length = a.length ^ n
  | 0 => rfl
  | n + 1 => by
    unfold allW
    rw [List.length_flatMap]
    have : ∀ l : List (List Nat), (l.map fun _ => a.length).sum = l.length * a.length := fun l => by
      induction l with
      | nil => simp
      | cons x l ih => simp [ih, Nat.add_mul]; omega
    simp only [List.length_map]
    rw [this, allW_len a n, Nat.pow_succ]
theorem nodup_le {α : Type} [DecidableEq α] : ∀ {l m : List α}, l.Nodup → (∀ x ∈ l, x ∈ m) → l.length ≤ m.length
  | [], m, _, _ => Nat.zero_le _
  | x :: l, m, h, hs => by
    obtain ⟨h1, h2⟩ := List.nodup_cons.mp h
    have hx := hs x (by simp)
    have := nodup_le (m := m.erase x) h2 fun y hy => (List.mem_erase_of_ne (fun z => by subst z; exact h1 hy)).mpr (hs y (by simp [hy]))
    rw [List.length_erase_of_mem hx] at this
    have : 0 < m.length := List.length_pos_of_mem hx
    simp
    omega
/-! ### the subwords kept in a dict -/
def dK (ks : List (List Nat)) : List (D × D) := ks.map fun s => (.str s, .bl true)
def addK (ks : List (List Nat)) (s : List Nat) : List (List Nat) := if s ∈ ks then ks else ks ++ [s]
theorem put_dK (ks : List (List Nat)) (s : List Nat) : putD (dK ks) (.str s) (.bl true) = dK (addK ks s) := by
  have h1 : ((dK ks).any fun p => eqD p.1 (.str s)) = decide (s ∈ ks) := by
    unfold dK
    rw [List.any_map, Bool.eq_iff_iff]
    simp [eqD]
  unfold putD addK
  rw [h1]
  by_cases h : s ∈ ks
  · simp only [h, decide_true, if_true]
    unfold dK
    rw [List.map_map]
    apply List.map_congr_left
    intro t ht
    simp only [Function.comp]
    split <;> rfl
  · simp [h, dK]
theorem mem_addK {ks : List (List Nat)} {s t : List Nat} : t ∈ addK ks s ↔ t ∈ ks ∨ t = s := by
  unfold addK
  split
  · constructor
    · exact .inl
    · rintro (h | rfl)
      · exact h
      · assumption
  · simp
theorem addK_nd {ks : List (List Nat)} {s : List Nat} (h : ks.Nodup) : (addK ks s).Nodup := by
  unfold addK
  split
  · exact h
  · rename_i hs
    exact List.nodup_append.mpr ⟨h, by simp, fun a ha b hb z => by
      simp at hb
      subst hb z
      exact hs ha⟩
theorem addK_len {ks : List (List Nat)} {s : List Nat} : (addK ks s).length ≤ ks.length + 1 := by
  unfold addK
  split <;> simp
def kIn (k c : Nat) (acc : List (List Nat)) (one : List Nat) : List (List Nat) := if one.length < k then addK acc (one ++ [c]) else acc
def kStep (k : Nat) (ks : List (List Nat)) (c : Nat) : List (List Nat) := ks.foldl (kIn k c) ks
def keysOf (k : Nat) (w : List Nat) : List (List Nat) := w.foldl (kStep k) [[]]
theorem kIn_fold_mem {k c : Nat} : ∀ (xs acc : List (List Nat)) {s : List Nat}, s ∈ xs.foldl (kIn k c) acc ↔ s ∈ acc ∨ ∃ t ∈ xs, t.length < k ∧ s = t ++ [c]
  | [], acc, s => by simp
  | x :: xs, acc, s => by
    rw [List.foldl_cons, kIn_fold_mem xs]
    unfold kIn
    by_cases h : x.length < k
    · simp [h, mem_addK, or_assoc]
    · simp [h]
theorem kIn_fold_nd {k c : Nat} : ∀ (xs acc : List (List Nat)), acc.Nodup → (xs.foldl (kIn k c) acc).Nodup
  | [], acc, h => h
  | x :: xs, acc, h => by
    refine kIn_fold_nd xs _ ?_
    unfold kIn
    split
    · exact addK_nd h
    · exact h
theorem kIn_fold_len {k c : Nat} : ∀ (xs acc : List (List Nat)), (xs.foldl (kIn k c) acc).length ≤ acc.length + xs.length
  | [], acc => Nat.le_refl _
  | x :: xs, acc => by
    refine Nat.le_trans (kIn_fold_len xs _) ?_
    unfold kIn
    have := addK_len (ks := acc) (s := x ++ [c])
    split <;> simp <;> omega
theorem keysOf_snoc (k : Nat) (w : List Nat) (c : Nat) : keysOf k (w ++ [c]) = kStep k (keysOf k w) c := by
  unfold keysOf
  rw [List.foldl_append]
  rfl
theorem sub_snoc {s w : List Nat} {c : Nat} : s.Sublist (w ++ [c]) ↔ s.Sublist w ∨ ∃ t, s = t ++ [c] ∧ t.Sublist w := by
  rw [← List.reverse_sublist, List.reverse_append]
  simp only [List.reverse_cons, List.reverse_nil, List.nil_append, List.singleton_append]
  rw [List.sublist_cons_iff]
  constructor
  · rintro (h | ⟨r, h1, h2⟩)
    · exact .inl (List.reverse_sublist.mp h)
    · refine .inr ⟨r.reverse, ?_, by rw [← List.reverse_sublist, List.reverse_reverse]; exact h2⟩
      have := congrArg List.reverse h1
      simpa using this
  · rintro (h | ⟨t, rfl, h⟩)
    · exact .inl (List.reverse_sublist.mpr h)
    · exact .inr ⟨t.reverse, by simp, List.reverse_sublist.mpr h⟩
theorem snoc_ind {P : List Nat → Prop} (h0 : P []) (h1 : ∀ w c, P w → P (w ++ [c])) (w : List Nat) : P w := by
  have : ∀ w : List Nat, P w.reverse := fun w => by
    induction w with
    | nil => exact h0
    | cons c w ih =>
      rw [List.reverse_cons]
      exact h1 _ _ ih
  have := this w.reverse
  rwa [List.reverse_reverse] at this
theorem mem_keysOf (k : Nat) (w : List Nat) : ∀ s, s ∈ keysOf k w ↔ s.Sublist w ∧ s.length ≤ k := by
  refine snoc_ind (P := fun w => ∀ s, s ∈ keysOf k w ↔ s.Sublist w ∧ s.length ≤ k) ?_ ?_ w
  · intro s
    simp [keysOf]
    rintro rfl
    simp
  · intro w c ih s
    rw [keysOf_snoc, sub_snoc]
    unfold kStep
    rw [kIn_fold_mem, ih]
    constructor
    · rintro (⟨h1, h2⟩ | ⟨t, h1, h2, rfl⟩)
      · exact ⟨.inl h1, h2⟩
      · exact ⟨.inr ⟨t, rfl, ((ih t).mp h1).1⟩, by simp; omega⟩
    · rintro ⟨h1 | ⟨t, rfl, h1⟩, h2⟩
      · exact .inl ⟨h1, h2⟩
      · simp at h2
        exact .inr ⟨t, (ih t).mpr ⟨h1, by omega⟩, by omega, rfl⟩
theorem keysOf_nd (k : Nat) (w : List Nat) : (keysOf k w).Nodup := by
  refine snoc_ind (P := fun w => (keysOf k w).Nodup) (by simp [keysOf]) ?_ w
  intro w c ih
  rw [keysOf_snoc]
  exact kIn_fold_nd _ _ ih
theorem keysOf_len (k : Nat) (w : List Nat) : (keysOf k w).length ≤ 2 ^ w.length := by
  refine snoc_ind (P := fun w => (keysOf k w).length ≤ 2 ^ w.length) (by simp [keysOf]) ?_ w
  intro w c ih
  rw [keysOf_snoc]
  have := kIn_fold_len (k := k) (c := c) (keysOf k w) (keysOf k w)
  unfold kStep
  simp [Nat.pow_succ]
  omega
end SW

/-! functions of one's own: lambdas, what is called by a name that holds one -/
namespace SW
open PySem PySem.Spec L2 PyProof.Rows SWZ LamX NdefX

/-- the object at f is the lambda F with the body e -/
def FnL (f : Addr) (F : NF) (e : Expr) : HO := .ext fun h => ∃ (od : Option Addr) (sl : Array (Option Value)) (pm ctv : Value), h.get? f = some (⟨.type "function", od, .func (PySem.W.kla_fn F.name F.qual F.params e F.scope F.cl pm (.ref F.c) ctv), sl⟩ : Obj)
theorem fnL_at {P : Program} {w : World} {H : Hp} {h : Heap} {f : Addr} {F : NF} {e : Expr} (hok : HOk P w H h) (q : H f = some (FnL f F e)) :
    ∃ (od : Option Addr) (sl : Array (Option Value)) (pm ctv : Value), h.get? f = some (⟨.type "function", od, .func (PySem.W.kla_fn F.name F.qual F.params e F.scope F.cl pm (.ref F.c) ctv), sl⟩ : Obj) := by
  obtain ⟨z, _, _⟩ := hok f _ q
  exact z
section
variable {X : Cx} {pins : List (Addr × Obj)} {σ : L2.St} {H Hk F : Hp} {s : Shared} {k : Kn} {env : Env}
theorem inv_fnL {F : NF} {e : Expr} {o : Obj} {t' : Nat} {pm ctv : Value} (I : Inv X pins σ H s) (ho : o = { cls := .type "function", data := .func (PySem.W.kla_fn F.name F.qual F.params e F.scope F.cl pm (.ref F.c) ctv) }) :
    Inv X pins σ (upd H s.heap.objs.size (FnL s.heap.objs.size F e)) { s with heap := s.heap.push o, toks := t' } := by
  subst ho
  refine I.laid (a := s.heap.objs.size) (fun b u e => Heap.get?_push_of_some _ e) (Nat.le_refl _) ?_
  have z : (s.heap.push ({ cls := .type "function", data := .func (PySem.W.kla_fn F.name F.qual F.params e F.scope F.cl pm (.ref F.c) ctv) } : Obj)).get? s.heap.objs.size = some ({ cls := .type "function", data := .func (PySem.W.kla_fn F.name F.qual F.params e F.scope F.cl pm (.ref F.c) ctv) } : Obj) := Heap.get?_push_size _ rfl
  exact ⟨⟨_, _, pm, ctv, z⟩, ⟨_, z⟩, fun h1 h2 ⟨od, sl, p, t, z⟩ st => ⟨od, sl, p, t, st _ z⟩⟩
/-- a code object is new, the table tells it -/
theorem Wd.table {P c' : Addr} {nm : Nat → Nat → Str} {ps ps' : Array Value} {q : Str} (w : Wd k Hk F H σ env) (hm : (P, nm) ∈ k.T) (hu : ∀ p ∈ k.T, p.1 = P → p.2 = nm) (hP : H P = some (.tbl ps)) (nC : H c' = none) (ht : TriplesOk ps'.toList)
    (hc : ∀ (pos : Pos) (cv : Value), codeAmong pos ps'.toList = some cv → codeAmong pos ps.toList = some cv ∨ (cv = .ref c' ∧ nm pos.line pos.col = q)) :
    Wd k (upd Hk c' (CodeO c' q)) F (upd (upd H P (.tbl ps')) c' (CodeO c' q)) σ env := by
  have hk : Hk c' = none := w.ex.free nC
  have hf : F c' = none := w.fr.free nC
  have nPc : P ≠ c' := ne_of_none hP nC
  obtain ⟨hKP, hFP, _⟩ := w.dj.t _ hm
  have hKP : Hk P = none := hKP
  have hFP : F P = none := hFP
  obtain ⟨fp, hs, nd, hd⟩ := w.sl
  have np : ∀ a ∈ fp, a ≠ c' := fun a ha z => by
    subst z
    exact hs.there a ha nC
  have nP : ∀ a ∈ fp, a ≠ P := fun a ha z => by
    subst z
    exact hs.nt a ha ps hP
  have un : ∀ b, b ≠ P → b ≠ c' → upd (upd H P (.tbl ps')) c' (CodeO c' q) b = H b := fun b h1 h2 => by rw [upd_ne h2, upd_ne h1]
  have exK : Ex Hk (upd Hk c' (CodeO c' q)) := Ex.new hk
  refine ⟨fun a o e => ?_, fun a o e => ?_, ⟨fun a e => ?_, w.dj.b.trans exK, fun p hp => ?_⟩, fp, hs.mono exK fun a ha => un a (nP a ha) (np a ha), nd, fun a ha => ⟨by rw [upd_ne (np a ha)]; exact (hd a ha).1, (hd a ha).2⟩⟩
  · by_cases z : a = c'
    · subst z
      rw [upd_same] at e ⊢
      exact e
    · rw [upd_ne z] at e
      have : a ≠ P := fun y => by rw [y, hKP] at e; cases e
      rw [un a this z]
      exact w.ex a o e
  · have z : a ≠ c' := fun z => by rw [z, hf] at e; cases e
    have : a ≠ P := fun y => by rw [y, hFP] at e; cases e
    rw [un a this z]
    exact w.fr a o e
  · by_cases z : a = c'
    · subst z
      exact absurd hf e
    · rw [upd_ne z]
      exact w.dj.d a e
  · obtain ⟨a1, a2, ps0, a3, a4, a5⟩ := w.dj.t p hp
    have np' : p.1 ≠ c' := ne_of_none a3 nC
    refine ⟨by rw [upd_ne np']; exact a1, a2, ?_⟩
    by_cases z : p.1 = P
    · refine ⟨ps', by rw [upd_ne np', z, upd_same], ht, fun pos cv h => ?_⟩
      have e0 : ps0 = ps := by
        rw [z, hP] at a3
        cases a3
        rfl
      subst e0
      have hp2 := hu p hp z
      rcases hc pos cv h with y | ⟨y1, y2⟩
      · obtain ⟨c, e1, e2⟩ := a5 pos cv y
        exact ⟨c, e1, exK _ _ e2⟩
      · exact ⟨c', y1, by rw [hp2, y2]; exact upd_same⟩
    · refine ⟨ps0, by rw [un _ z np']; exact a3, a4, fun pos cv h => ?_⟩
      obtain ⟨c, e1, e2⟩ := a5 pos cv h
      exact ⟨c, e1, exK _ _ e2⟩
/-- what is told of the made lambda -/
abbrev lamF (X : Cx) (params : Arguments) (scope : Scope) (c' : Addr) : NF := ⟨"<lambda>", X.env.qual ++ "<lambda>", params, [], scope, cloFrom X.env.cells scope.names [], c'⟩
def LamK (X : Cx) (params : Arguments) (scope : Scope) (body : Expr) (f : Addr) (Hk : Hp) : Prop := ∃ c', Hk f = some (FnL f (lamF X params scope c') body) ∧ Hk c' = some (CodeO c' (X.env.qual ++ "<lambda>"))
theorem LamK.mono {params : Arguments} {scope : Scope} {body : Expr} {f : Addr} {Hk Hk' : Hp} (h : LamK X params scope body f Hk) (e : Ex Hk Hk') : LamK X params scope body f Hk' := let ⟨c, a, b⟩ := h; ⟨c, e _ _ a, e _ _ b⟩
theorem lam_makeW {nm : Nat → Nat → Str} {c P : Addr} {params : Arguments} {body : Expr} {scope : Scope} {pos : Pos} {E : Value → Shared → Prop} {Q : Value → Shared → Prop} (I : Inv X pins σ H s) (w : Wd k Hk F H σ env) (TB : TabB X.base X.mg c P) (hcode : X.env.code = .ref c)
    (hm : (P, nm) ∈ k.T) (hn : nm pos.line pos.col = X.env.qual ++ "<lambda>") (hu : ∀ p ∈ k.T, p.1 = P → p.2 = nm) (hdef : defaultsOf params X.env = ([], [])) (hfree : ∀ y ∈ scope.names, y.2 = .free → ∃ c, X.env.cells.lookup y.1 = some c)
    (h : ∀ (f : Addr) (Hk1 H1 : Hp) (s' : Shared), Inv X pins σ H1 s' → Ex Hk Hk1 → Wd k Hk1 F H1 σ env → LamK X params scope body f Hk1 → Q (.ref f) s') :
    wpAny (model X.prog X.w) X.A (eval (.Lambda params body scope pos) X.env) Q E s := by
  obtain ⟨hKP, hFP, ps, hP, ht, ha⟩ := w.dj.t _ hm
  have hP : H P = some (.tbl ps) := hP
  refine PySem.W.kla_eval hdef ?_
  have bP : s.heap.BuiltinsAt X.mg P := TB.bm.keeps I.bk
  have hP' : s.heap.get? P = some { cls := .none, data := .fields ps } := I.hok P _ hP
  cases hc : codeAmong pos ps.toList with
  | none =>
    refine PySem.W.kla_makeFunction (mg := X.mg) (c := c) (P := P) (ps := ps) (closure_ok hfree) I.ok.glob (I.mod.glob.keeps I.bk) hcode (TB.code.keeps I.bk) hP' ht hc TB.gP bP fun c' ctv h' tk hx hge hlt hrec htb => ?_
    obtain ⟨c2, oc, vs, t, e2, hoc, hd, hv⟩ := hrec
    cases e2
    have nC : H c' = none := I.hok.fresh hge
    have I1 := inv_table (t' := tk) (more := #[rawInt pos.line, rawInt pos.col, .ref c']) (h' := h') I hP (fun b o hb e => hx b o hb e) htb hge ⟨oc, vs, t, hoc, hd, hv⟩
    have eL : (ps ++ #[rawInt pos.line, rawInt pos.col, .ref c']).toList = ps.toList ++ [rawInt pos.line, rawInt pos.col, .ref c'] := by simp
    have w1 := w.table (q := X.env.qual ++ "<lambda>") hm hu hP nC (by rw [eL]; exact PySem.TriplesOk_snoc _ _ _ _ ht) (fun p' cv hcv => by
      rw [eL] at hcv
      rcases among_app2 _ ht hcv with z | ⟨z, z1, z2⟩
      · exact .inl z
      · exact .inr ⟨z, by rw [← z1, ← z2, hn]⟩)
    have nF := I1.hok.fresh (Nat.le_refl _)
    have I2 := inv_fnL (F := lamF X params scope c') (e := body) (t' := tk) (pm := (X.mg "__name__").getD .none) (ctv := ctv) I1 rfl
    have w2 := w1.growK (u := FnL h'.objs.size (lamF X params scope c') body) nF
    refine h h'.objs.size _ _ _ I2 ((Ex.new (w.ex.free nC)).trans (Ex.new (w1.ex.free nF))) w2 ⟨c', upd_same, ?_⟩
    rw [upd_ne (Nat.ne_of_lt hlt)]
    exact upd_same
  | some cv =>
    obtain ⟨c', e, hco⟩ := ha pos cv hc
    subst e
    refine PySem.W.kla_makeFunctionHit (mg := X.mg) (c := c) (P := P) (ps := ps) (closure_ok hfree) I.ok.glob (I.mod.glob.keeps I.bk) hcode (TB.code.keeps I.bk) hP' ht hc bP fun ctv h' tk hx hsz => ?_
    have I1 : Inv X pins σ H { s with heap := h', toks := tk } := I.kept hx
    have nF : H h'.objs.size = none := I1.hok.fresh (Nat.le_refl _)
    have I2 := inv_fnL (F := lamF X params scope c') (e := body) (t' := tk) (pm := (X.mg "__name__").getD .none) (ctv := ctv) I1 rfl
    have w2 := w.growK (u := FnL h'.objs.size (lamF X params scope c') body) nF
    refine h h'.objs.size _ _ _ I2 (Ex.new (w.ex.free nF)) w2 ⟨c', upd_same, ?_⟩
    rw [upd_ne (ne_of_none (w.ex _ _ hco) nF)]
    rw [← hn]
    exact hco
end

/-! ### a live function -/
structure LvOk (P : Program) (w : World) (K : PySem.W.Frag) (mg : Str → Option Value) (base : Heap) (lv : Nat) (k : Kn) (f : Addr) (ms : List Bool) (m : MF) (Γ : Shared → Hp → Prop) : Prop where
  stay : ∀ (fs : List Addr) (s : Shared) (H : Hp) (s' : Shared) (H' : Hp), Γ s H → Un fs [] H H' s.heap s'.heap → Γ s' H'
  fn : ∀ (s : Shared) (H : Hp), HOk P w H s.heap → Ex k.B H → PySem.W.FnAt f s.heap
  run : ∀ (A : Around) (outer : List PySem.Env) (s : Shared) (H : Hp) (us : List Value) (vs : List V) (Q : VK) (E : XK), Room lv A → Env0 P w K mg base A outer s H → Γ s H → Vals vs us → spM k ms m vs H Q E →
    codeAny (model P w) A (.call (.ref f) ⟨us, []⟩) (CR (L2.CX P w) outer P w H s Q E) s
def Live (P : Program) (w : World) (K : PySem.W.Frag) (mg : Str → Option Value) (base : Heap) (lv : Nat) (k : Kn) (f : Addr) (ms : List Bool) (m : MF) (s : Shared) (H : Hp) : Prop := ∃ Γ, LvOk P w K mg base lv k f ms m Γ ∧ Γ s H
section
variable {P : Program} {w : World} {K : PySem.W.Frag} {mg : Str → Option Value} {base : Heap} {lv : Nat} {k : Kn} {f : Addr} {ms : List Bool} {m : MF}
theorem Live.later {s s' : Shared} {H H' : Hp} {fs : List Addr} (l : Live P w K mg base lv k f ms m s H) (u : Un fs [] H H' s.heap s'.heap) : Live P w K mg base lv k f ms m s' H' :=
  let ⟨Γ, a, b⟩ := l; ⟨Γ, a, a.stay fs s H s' H' b u⟩
/-- what stands since later -/
theorem Live.base' {s : Shared} {H : Hp} {B : Hp} (l : Live P w K mg base lv k f ms m s H) (hL : k.L = noL) (e : Ex k.B B) : Live P w K mg base lv { k with B := B } f ms m s H := by
  obtain ⟨Γ, a, b⟩ := l
  refine ⟨Γ, ⟨a.stay, fun s H ho eb => a.fn s H ho (e.trans eb), fun A outer s H us vs Q E hr e0 g r h => a.run A outer s H us vs Q E hr e0 g r ?_⟩, b⟩
  obtain ⟨h1, Hk, F, os, w1, h2⟩ := h
  have eq : ({ k with B := B } : Kn) = { k with B := B } := rfl
  have conv : ∀ {Hk F H : Hp} {σ : L2.St} {env : Env}, Wd { k with B := B } Hk F H σ env → Wd k Hk F H σ env := fun w => w.kn rfl rfl rfl (e.trans w.dj.b) (.inr fun _ _ _ z => z)
  have conv2 : ∀ {Hk F H : Hp} {σ : L2.St} {env : Env}, Ex B Hk → Wd k Hk F H σ env → Wd { k with B := B } Hk F H σ env := fun z w => w.kn rfl rfl rfl z (.inr fun _ _ _ z => z)
  refine ⟨h1, Hk, F, os, conv w1, ?_⟩
  have eB : Ex B Hk := w1.dj.b
  generalize m os = r at h2
  cases r with
  | ok o io => exact fun v Hk' H' ex w2 => h2 v Hk' H' ex (conv2 (eB.trans ex) w2)
  | exc c fs io =>
    intro cls dd Hk' H' ex w2 xc
    obtain ⟨C, c1, c2, c3⟩ := xc
    exact h2 cls dd Hk' H' ex (conv2 (eB.trans ex) w2) ⟨C, c1, c2, c3.imp id fun ⟨z, d, ps, a, b, c⟩ => ⟨z, d, ps, a, b, RpF.kn (k := k) (k' := { k with B := B }) rfl c⟩⟩
  | stuck => exact h2
end

/-! ### a captured name's part of the first world -/
def capOk (cap : Env) : Bool := cap.all fun x => match x with
  | some (.val _) => true
  | none => true
  | _ => false
theorem Sl.caps {k : Kn} {Hk H : Hp} : ∀ {ws : List (Option V)} {cap : Env}, ws.length = cap.length → capOk cap = true → (∀ (i : Nat) (d : D), cap[i]? = some (some (.val d)) → ∃ v, ws[i]? = some (some v) ∧ Rp k Hk v d) → Sl k Hk H ws cap []
  | [], [], _, _, _ => .nil
  | [], _ :: _, h, _, _ => by simp at h
  | _ :: _, [], h, _, _ => by simp at h
  | x :: ws, none :: cap, h, c, q => .no (Sl.caps (by simpa using h) (by simpa [capOk] using c) fun i d e => by simpa using q (i + 1) d (by simpa using e))
  | x :: ws, some (.val d) :: cap, h, c, q => by
    obtain ⟨v, h1, h2⟩ := q 0 d rfl
    simp at h1
    subst h1
    exact .yes (l1 := []) (.val h2) (Sl.caps (by simpa using h) (by simpa [capOk] using c) fun i d e => by simpa using q (i + 1) d (by simpa using e))
  | x :: ws, some (.lst _) :: cap, h, c, q => by simp [capOk] at c
  | x :: ws, some (.dic _ _) :: cap, h, c, q => by simp [capOk] at c
  | x :: ws, some (.ins _ _) :: cap, h, c, q => by simp [capOk] at c
  | x :: ws, some (.st _ _ _ _) :: cap, h, c, q => by simp [capOk] at c
  | x :: ws, some (.scr _) :: cap, h, c, q => by simp [capOk] at c
  | x :: ws, some (.fn _) :: cap, h, c, q => by simp [capOk] at c
/-- a def with captured names -/
def mDefC (n : Nat) (ms : List Bool) (cap : Env) (m : MS) : MF := fun os => if os.length = ms.length ∧ nfE (os.map some) = true then endF ms (m (os.map some ++ (cap ++ List.replicate (n - os.length - cap.length) none))) else .stuck
theorem def_okC {k : Kn} {H : Hp} {Q : VK} {N : List Str} {ms : List Bool} {m : MS} {vs : List V} {E : XK} {ws : List (Option V)} {cap : Env} (hc : capOk cap = true) (hw : ws.length = cap.length)
    (hq : ∀ (i : Nat) (d : D), cap[i]? = some (some (.val d)) → ∃ v, ws[i]? = some (some v) ∧ Rp k k.B v d) (h : spM k.b ms (mDefC N.length ms cap m) vs H Q E) :
    tMS k (fun cls d _ H => E cls d H) ⟨ms, vs⟩ m { nx := fun _ H' => Q .non H', rt := Q } (startF N vs ws) H := by
  obtain ⟨hl, Hk, F, os, w, h⟩ := h
  have e0 : vs.length = os.length := by simpa using w.len
  unfold mDefC at h
  split at h
  · rename_i h1
    refine def_core (k0 := k.b) (env0 := os.map some ++ (cap ++ List.replicate (N.length - os.length - cap.length) none)) rfl rfl rfl rfl (fun _ z => z) hl ?_ ?_ h
    · have w := w.ofB
      unfold startF
      rw [e0, hw]
      obtain ⟨fp, hs, nd, hd⟩ := w.sl
      have s1 := ((Sl.nones (k := k) (Hk := Hk) (H := H) (N.length - os.length - cap.length)).append (Sl.caps (H := H) hw hc fun i d e => by
        obtain ⟨v, a, b⟩ := hq i d e
        exact ⟨v, a, b.mono w.dj.b⟩)).append hs
      rw [List.append_nil, List.append_nil] at s1
      exact ⟨w.ex, w.fr, w.dj, fp, s1, nd, hd⟩
    · intro i v _ b
      have hi : i < vs.length := (List.getElem?_eq_some_iff.mp b).1
      unfold startF
      rw [List.getElem?_append_left (by simpa using hi), List.getElem?_map]
      have b' : vs[i]? = some v := b
      rw [b']
      rfl
  · exact h.elim
end SW

/-! calls of names that hold functions; defs that take functions -/
namespace SW
open PySem PySem.Spec L2 PyProof.Rows SWZ LamX NdefX

/-- x(..), the name at i holding the function j -/
def mClo (j i : Nat) (ms : List Bool) (m : MF) (ma : MA) : ME := fun env => match env[i]? with
  | some (some (.fn j')) => if j' = j then mCall m ms [] ma env else .stuck
  | _ => .stuck
section
variable {X : Cx} {G : Gn} {W : WX} {pos p : Pos} {e : Expr} {es : List Expr} {x : Str} {j i lv : Nat} {ms : List Bool} {m : MF} {ma : MA}
theorem run_live {pins : List (Addr × Obj)} {σ : L2.St} {H : Hp} {s : Shared} {Q : VK} {f : Addr} {us : List Value} {vs : List V} {k : Kn} (l : Live X.prog X.w X.K X.mg X.base lv k f ms m s H) (hr : Room lv X.A) (tk : Takes X W)
    (I : Inv X pins σ H s) (r : Vals vs us) (h : spM k ms m vs H Q (fun cls d H => W cls d σ H)) : wpAny (model X.prog X.w) X.A (call (.ref f) us) (EP X pins σ Q) X.xe s := by
  obtain ⟨Γ, a, b⟩ := l
  refine wpAny_call (codeAny_mono (a.run X.A X.stack s H us vs Q _ hr I.env0 b r h) fun r s' hq => ?_)
  cases r with
  | error e => exact passAt tk σ pins H s e s' I hq
  | ok fl =>
    cases fl with
    | ret u => exact I.after hq
    | next => exact False.elim hq
    | brk => exact False.elim hq
    | cont => exact False.elim hq
theorem Live.here {pins : List (Addr × Obj)} {σ : L2.St} {H : Hp} {s : Shared} {f : Addr} {k : Kn} (l : Live X.prog X.w X.K X.mg X.base lv k f ms m X.s_0 X.H_0) (hex : X.ex = []) (I : Inv X pins σ H s) : Live X.prog X.w X.K X.mg X.base lv k f ms m s H := by
  have u := I.base
  rw [hex] at u
  exact l.later u
theorem clo_slot {k : Kn} {Hk F H : Hp} {σ : L2.St} {env : Env} (w : Wd k Hk F H σ env) (h : env[i]? = some (some (.fn j))) : ∃ f, σ[i]? = some (some (.ref f)) ∧ ∀ Hk', Ex Hk Hk' → k.L j f Hk' := by
  obtain ⟨v, h1, w1⟩ := w.take h
  obtain ⟨l, r⟩ := w1.top
  cases r with
  | fn hf => exact ⟨_, h1, hf⟩
theorem Live.fnAt {P : Program} {w : World} {K : PySem.W.Frag} {mg : Str → Option Value} {base : Heap} {k : Kn} {f : Addr} {s s' : Shared} {H H' : Hp} (l : Live P w K mg base lv k f ms m s H) (ho : HOk P w H' s'.heap) (e : Ex k.B H') : PySem.W.FnAt f s'.heap :=
  let ⟨Γ, a, b⟩ := l; a.fn s' H' ho e
theorem q_clo0 (hL : ∀ f Hk, G.L j f Hk → Live X.prog X.w X.K X.mg X.base lv (mkK X.K G).b f [] m X.s_0 X.H_0) (hr : Room lv X.A) (tk : Takes X W) (hex : X.ex = [] := by rfl) (hN : X.N[i]? = some x := by rfl)
    (hv : Vis X.env.scope x := by first | exact Or.inl rfl | exact Or.inr (Or.inl rfl) | exact Or.inr (Or.inr rfl)) (hd : (x == ("__debug__" : Str)) = false := by decide) (hcd : (x == ("__classdict__" : Str)) = false := by decide) :
    PM X G W (.Call (.Name x p) [] [] pos) (mClo j i [] m mNil) := by
  refine ⟨fun pins s σ H Q I h => ?_⟩
  obtain ⟨Hk, F, env, w, h⟩ := h
  unfold mClo at h
  split at h
  · rename_i j' hj
    split at h
    · rename_i ej
      subst ej
      obtain ⟨f, hs, hf⟩ := clo_slot w hj
      have l := hL f Hk (hf Hk (Ex.refl _))
      refine wpAny_Call_Name_kw (thn ((pe_var (pos := p) hN hv hd hcd).run pins s σ H (fun v H1 => v = .ref f ∧ H1 = H) I ⟨.ref f, hs, rfl, rfl⟩) fun u s1 ⟨v, H1, I1, r1, q1⟩ => ?_)
      obtain ⟨ev, eH⟩ := q1
      subst ev
      rw [eH] at I1
      obtain rfl : u = Value.ref f := r1
      refine PySem.W.callWith_F0 (first := []) (l.fnAt I1.hok (w.dj.b.trans w.ex)) ?_
      show wpAny _ _ (call (.ref f) []) _ _ _
      have hc := tM_call (k := mkK X.K G) (m := m) (ms := []) (ds := []) (dvs := []) (ma := mNil) (fun _ => .nil) ⟨Hk, F, env, w, h⟩
      obtain ⟨Hk2, F2, env2, w2, h2⟩ := hc
      have h3 := h2 [] Hk2 H (Ex.refl _) (Wl.nil w2)
      exact run_live (l.here hex I1) hr tk I1 .nil h3
    · exact h.elim
  · exact h.elim
theorem q_clo (hL : ∀ f Hk, G.L j f Hk → Live X.prog X.w X.K X.mg X.base lv (mkK X.K G).b f ms m X.s_0 X.H_0) (hr : Room lv X.A) (tk : Takes X W) (ha : PMA X G W (e :: es) ma) (hex : X.ex = [] := by rfl) (hN : X.N[i]? = some x := by rfl)
    (hv : Vis X.env.scope x := by first | exact Or.inl rfl | exact Or.inr (Or.inl rfl) | exact Or.inr (Or.inr rfl)) (hd : (x == ("__debug__" : Str)) = false := by decide) (hcd : (x == ("__classdict__" : Str)) = false := by decide)
    (he : starEach (e :: es) X.env = (false, eval e X.env) :: starEach es X.env := by rfl) (hpl : (backTo pos (starEach es X.env)).any (·.1) = false := by rfl) :
    PM X G W (.Call (.Name x p) (e :: es) [] pos) (mClo j i ms m ma) := by
  refine ⟨fun pins s σ H Q I h => ?_⟩
  obtain ⟨Hk, F, env, w, h⟩ := h
  unfold mClo at h
  split at h
  · rename_i j' hj
    split at h
    · rename_i ej
      subst ej
      obtain ⟨f, hs, hf⟩ := clo_slot w hj
      have l := hL f Hk (hf Hk (Ex.refl _))
      refine wpAny_Call_Name_kw (thn ((pe_var (pos := p) hN hv hd hcd).run pins s σ H (fun v H1 => v = .ref f ∧ H1 = H) I ⟨.ref f, hs, rfl, rfl⟩) fun u s1 ⟨v, H1, I1, r1, q1⟩ => ?_)
      obtain ⟨ev, eH⟩ := q1
      subst ev
      rw [eH] at I1
      obtain rfl : u = Value.ref f := r1
      have hc := tM_call (k := mkK X.K G) (m := m) (ms := ms) (ds := []) (dvs := []) (ma := ma) (fun _ => .nil) ⟨Hk, F, env, w, h⟩
      simp only [List.map_nil, List.append_nil] at hc
      refine PySem.W.callWith_F (first := []) (l.fnAt I1.hok (w.dj.b.trans w.ex)) (thn (ha.run pos pins s1 σ H _ I1 hc) fun us s2 ⟨vs, H2, I2, r, h3⟩ => ?_) he hpl
      simp only [List.append_nil] at h3
      obtain ⟨h4, Hk2, F2, os, w2, h5⟩ := h3
      refine ⟨l.fnAt I2.hok (w2.dj.b.trans w2.ex), ?_⟩
      show wpAny _ _ (call (.ref f) us) _ _ _
      exact run_live (l.here hex I2) hr tk I2 r ⟨h4, Hk2, F2, os, w2, h5⟩
    · exact h.elim
  · exact h.elim
end

/-! ### a def that takes functions -/
abbrev Cls := Nat → Option (List Bool × MF)
structure FnOkC (P : Program) (w : World) (K : PySem.W.Frag) (mg : Str → Option Value) (base : Heap) (lv : Nat) (fa : Addr) (fd : FuncData) (ps : List Str) (g : Str → Option Addr) (T : List NTab) (ms : List Bool) (m : MF) (C : Cls) (lc : Nat) : Prop where
  run : ∀ (A : Around) (outer : List PySem.Env) (s : Shared) (H : Hp) (args : Args) (us : List Value) (vs : List V) (Q : VK) (E : XK) (B : Hp) (L : Nat → Addr → Hp → Prop), Room lv A → Env0 P w K mg base A outer s H → BindsTo s fd args (ps.zip us) → Vals vs us → vs.length = ps.length →
    (∀ j f Hk, L j f Hk → ∃ c, C j = some c ∧ Live P w K mg base lc ⟨K, g, B, T, noL⟩ f c.1 c.2 s H) → spM ⟨K, g, B, T, L⟩ ms m vs H Q E → codeAny (model P w) A (.call (.ref fa) args) (CR (L2.CX P w) outer P w H s Q E) s
theorem FnOkC.mono {P : Program} {w : World} {K : PySem.W.Frag} {mg : Str → Option Value} {base : Heap} {lv lv' : Nat} {fa : Addr} {fd : FuncData} {ps : List Str} {g : Str → Option Addr} {T : List NTab} {ms : List Bool} {m : MF} {C : Cls} {lc : Nat}
    (F : FnOkC P w K mg base lv fa fd ps g T ms m C lc) (h : lv ≤ lv') : FnOkC P w K mg base lv' fa fd ps g T ms m C lc := ⟨fun A outer s H args us vs Q E B L hr => F.run A outer s H args us vs Q E B L (hr.mono h)⟩
section
variable {P : Program} {w : World} {K : PySem.W.Frag} {mg : Str → Option Value} {base : Heap} {g : Str → Option Addr} {T : List NTab}
theorem fnOkC_of {x qual : Str} {params : Arguments} {body : List Stmt} {scope : Scope} {f : Addr} {oc : Value} {od an : Option Addr} {osl : Array (Option Value)} {dV kV doc pm cdv ct : Value} {N ps : List Str} {lv lc : Nat} {ms : List Bool} {m : MF} {C : Cls}
    (lk : K.lookup f = some ⟨oc, od, .func (PySem.W.fnOf x qual params body scope dV kV doc pm an cdv ct), osl⟩) (hcd : PySem.W.codeIn K cdv qual = true) (S : FnScope N ps scope)
    (hbody : ∀ (A : Around) (outer : List PySem.Env) (s : Shared) (H : Hp) (vs : List V) (Q : VK) (E : XK) (B : Hp) (L : Nat → Addr → Hp → Prop), Room lv (A.deeper (envOfC qual scope s.heap.objs.size f cdv)) → (∀ j f Hk, L j f Hk → ∃ c, C j = some c ∧ Live P w K mg base lc ⟨K, g, B, T, noL⟩ f c.1 c.2 s H) → spM ⟨K, g, B, T, L⟩ ms m vs H Q E →
      ∃ t, PSs (cxOf (L2.CX P w) P w K mg base N qual scope f cdv A outer s H E) body t ∧ t { nx := fun _ H' => Q .non H', rt := Q } (L2.start N vs) H) :
    FnOkC P w K mg base (lv + 1) f (PySem.W.fnOf x qual params body scope dV kV doc pm an cdv ct) ps g T ms m C lc := by
  refine ⟨fun A outer s H args us vs Q E B L hr e0 hb r hl hLv hsp => ?_⟩
  exact LamX.run_ofS lk hcd S hr e0 hb r hl fun hr' => hbody A outer s H vs Q E B L hr' hLv hsp
theorem fun_okC {x qual : Str} {st : Stmt} {f : Addr} {fd : FuncData} {N ps : List Str} {lv lc : Nat} {ms : List Bool} {m : MF} {C : Cls} (F : Fun K x qual st f fd) (S : FnScope N ps (defScope st))
    (hbody : ∀ (cdv : Value) (A : Around) (outer : List PySem.Env) (s : Shared) (H : Hp) (vs : List V) (Q : VK) (E : XK) (B : Hp) (L : Nat → Addr → Hp → Prop), Room lv (A.deeper (envOfC qual (defScope st) s.heap.objs.size f cdv)) → (∀ j f Hk, L j f Hk → ∃ c, C j = some c ∧ Live P w K mg base lc ⟨K, g, B, T, noL⟩ f c.1 c.2 s H) → spM ⟨K, g, B, T, L⟩ ms m vs H Q E →
      ∃ t, PSs (cxOf (L2.CX P w) P w K mg base N qual (defScope st) f cdv A outer s H E) (defBody st) t ∧ t { nx := fun _ H' => Q .non H', rt := Q } (L2.start N vs) H) :
    FnOkC P w K mg base (lv + 1) f fd ps g T ms m C lc := by
  obtain ⟨oc, od, kV, doc, pm, an, cdv, ct, osl, rfl, lk, hcd⟩ := F.ex
  exact fnOkC_of lk hcd S fun A outer s H vs Q E B L hr hL hsp => hbody cdv A outer s H vs Q E B L hr hL hsp
end
end SW

/-! lambdas made, defs that take functions called -/
namespace SW
open PySem PySem.Spec L2 PyProof.Rows SWZ LamX NdefX

/-- a captured slot is kept from now on -/
def frzSl (env : Env) : List Nat → Option Env
  | [] => some env
  | i :: is => match env[i]? with
    | some (some (.fn _)) => none
    | some (some o) => match o.frz with
      | some d => frzSl (env.set i (some (.val d))) is
      | none => none
    | _ => frzSl env is
def mLam (id : Nat) (js : List Nat) : ME := fun env => match frzSl env js with
  | some e => .ok (.ob (.fn id), e)
  | none => .stuck
def capOf (e : Env) (js : List Nat) : Env := js.map fun j => match e[j]? with
  | some o => o
  | none => none
/-- a lambda's mirror, by the names that it captured -/
def cloM (n : Nat) (ar : Nat) (js : List Nat) (m : MS) (e : Env) : Option MF := if capOk (capOf e js) = true then some (mDefC n (List.replicate ar false) (capOf e js) m) else none
section
variable {k : Kn} {Hk F H : Hp} {σ : L2.St} {env e : Env}
theorem Wd.frzSl : ∀ {js : List Nat} {Hk : Hp} {env : Env}, Wd k Hk F H σ env → SW.frzSl env js = some e → ∃ Hk', Ex Hk Hk' ∧ Wd k Hk' F H σ e
  | [], Hk, env, w, h => by
    simp only [SW.frzSl] at h
    cases h
    exact ⟨Hk, Ex.refl _, w⟩
  | i :: is, Hk, env, w, h => by
    simp only [SW.frzSl] at h
    split at h
    · cases h
    · rename_i o _ ho
      split at h
      · rename_i d hd
        obtain ⟨v, h1, w1⟩ := w.take ho
        obtain ⟨Hk1, ex1, w2, r2⟩ := w1.freeze hd
        have hi : i < env.length := (List.getElem?_eq_some_iff.mp ho).1
        have w3 := (w2.pushV r2).put (i := i) (by rw [List.getElem?_set_self hi]) h1
        rw [List.set_set] at w3
        obtain ⟨Hk2, ex2, w4⟩ := Wd.frzSl w3 h
        exact ⟨Hk2, ex1.trans ex2, w4⟩
      · cases h
    · exact Wd.frzSl w h
/-- the captured names' values -/
theorem cap_vals (w : Wd k Hk F H σ env) {js : List Nat} (i : Nat) (d : D) (h : (capOf env js)[i]? = some (some (.val d))) : ∃ v, (js.map (slotAt σ))[i]? = some (some v) ∧ Rp k Hk v d := by
  unfold capOf at h
  rw [List.getElem?_map] at h
  cases ej : js[i]? with
  | none => rw [ej] at h; cases h
  | some j =>
    rw [ej] at h
    simp only [Option.map_some, Option.some.injEq] at h
    split at h
    · rename_i o ho
      subst h
      obtain ⟨v, h1, w1⟩ := w.take ho
      refine ⟨v, ?_, w1.topV⟩
      rw [List.getElem?_map, ej, Option.map_some, slotAt_of h1]
    · cases h
end
theorem CellsAt.un {cl : List (Str × Addr)} {fr : List Str} {ws : List (Option V)} {h h' : Heap} {H H' : Hp} {fs : List Addr} (C : CellsAt cl fr ws h H) (u : Un fs [] H H' h h') : CellsAt cl fr ws h' H' := by
  have kp : ∀ c v, H c = none → h.IsCell c v → h'.IsCell c v := fun c v n ⟨o, ho, hd⟩ => by
    obtain ⟨sl, e⟩ := u.any ho n (by simp)
    exact ⟨_, e, hd⟩
  refine ⟨C.len, fun y c e => ?_, C.inj, fun i y e => ?_⟩
  · obtain ⟨n, v, z⟩ := C.all y c e
    obtain ⟨o, ho, _⟩ := id z
    exact ⟨u.free c o ho n (by simp), v, kp c v n z⟩
  · obtain ⟨c, hc, hv⟩ := C.has i y e
    refine ⟨c, hc, fun v ev => ?_⟩
    obtain ⟨z, r, q⟩ := hv v ev
    exact ⟨z, r, kp c _ (C.all y c hc).1 q⟩
section
variable {X : Cx} {G : Gn} {W : WX} {pos p : Pos}
theorem q_lam {nm : Nat → Nat → Str} {c P : Addr} {params : Arguments} {body : Expr} {scope : Scope} (id : Nat) (js : List Nat) (hid : ∀ f Hk, LamK X params scope body f Hk → G.L id f Hk) (TB : TabB X.base X.mg c P) (hcode : X.env.code = .ref c)
    (hm : (P, nm) ∈ G.T) (hn : nm pos.line pos.col = X.env.qual ++ "<lambda>") (hu : ∀ p ∈ G.T, p.1 = P → p.2 = nm) (hdef : defaultsOf params X.env = ([], []))
    (hfree : ∀ y ∈ scope.names, y.2 = .free → X.env.scope.names.lookup y.1 = some .cell ∨ X.env.scope.names.lookup y.1 = some .free) : PM X G W (.Lambda params body scope pos) (mLam id js) := by
  refine ⟨fun pins s σ H Q I h => ?_⟩
  obtain ⟨Hk, F, env, w, h⟩ := h
  unfold mLam at h
  split at h
  · rename_i e he
    obtain ⟨Hk1, ex1, w1⟩ := w.frzSl he
    have hfr : ∀ y ∈ scope.names, y.2 = .free → ∃ c, X.env.cells.lookup y.1 = some c := fun y hy e => (hfree y hy e).elim (fun z => I.ok.has _ (.inl z)) fun z => I.ok.has _ (.inr z)
    refine lam_makeW I w1 TB hcode hm hn hu hdef hfr fun f Hk2 H2 s' I2 ex2 w2 hl => ?_
    exact ⟨.ref f, H2, I2, rfl, h _ Hk2 H2 (ex1.trans ex2) (Wl.one (w2.push (Ex.refl _) (.fn fun Hk3 ex3 => hid f Hk3 (hl.mono ex3)) List.nodup_nil (fun a h => by simp at h)))⟩
  · exact h.elim
/-- a made lambda lives -/
theorem live_lam {params : Arguments} {body : Expr} {scope : Scope} {N ps fr : List Str} {js : List Nat} {me : ME} {lv : Nat} {pins : List (Addr × Obj)} {σ : L2.St} {H Hk F : Hp} {s : Shared} {env : Env} {f : Addr} (S : NScope N ps fr scope)
    (hb : ∀ (q : Str) (cl : List (Str × Addr)) (pm cv ctv : Value) (us : List Value), us.length = ps.length → bindArgs (PySem.W.kla_fn "<lambda>" q params body scope cl pm cv ctv) ⟨us, []⟩ = pure (ps.zip us))
    (hbody : ∀ (B : Hp) (c' : Addr) (A : Around) (outer : List PySem.Env) (s : Shared) (H : Hp) (E : XK), Room lv (A.deeper (envF (lamF X params scope c') f s.heap.objs.size)) →
      PM (ncx (L2.CX X.prog X.w) X.prog X.w X.K X.mg X.base N (lamF X params scope c') f A outer s H E) ⟨G.g, B, G.T, noL⟩ (fun cls d _ H => E cls d H) body me)
    (hfree : ∀ y ∈ scope.names, y.2 = .free → X.env.scope.names.lookup y.1 = some .cell ∨ X.env.scope.names.lookup y.1 = some .free) (hfr : ∀ y ∈ fr, (y, NameKind.free) ∈ scope.names) (hjs : js.map (fun j => X.N[j]?) = fr.map some)
    (I : Inv X pins σ H s) (w : Wd (mkK X.K G) Hk F H σ env) (hf : LamK X params scope body f Hk) {m : MF} (hcm : cloM N.length ps.length js (mRet me) env = some m) :
    Live X.prog X.w X.K X.mg X.base (lv + 1) ⟨X.K, G.g, Hk, G.T, noL⟩ f (List.replicate ps.length false) m s H := by
  unfold cloM at hcm
  split at hcm
  · rename_i hcap
    cases hcm
    obtain ⟨c', hf1, hf2⟩ := hf
    have cps : Caps X (cloFrom X.env.cells scope.names []) fr js := Caps.made I.ok hfree hfr hjs
    have lfr : js.length = fr.length := by
      have := congrArg List.length hjs
      simpa using this
    refine ⟨fun s H => CellsAt (lamF X params scope c').cl fr (js.map (slotAt σ)) s.heap H, ⟨fun fs s H s' H' g u => SW.CellsAt.un g u, fun s H ho eb => ?_, fun A outer s H us vs Q E hr e0 C r hsp => ?_⟩, cells_of I cps⟩
    · obtain ⟨od, sl, pm, ctv, hx⟩ := fnL_at ho (eb _ _ hf1)
      exact ⟨_, od, _, sl, hx⟩
    · obtain ⟨hl, Hk2, F2, os, w2, h2⟩ := hsp
      have eb : Ex Hk H := w2.dj.b.trans w2.ex
      have hl' : vs.length = ps.length := by simpa using hl
      have lim : s.heap.NoLimit := e0.mod.nolimit.keeps fun b o e => (e0.bs b o e).1
      obtain ⟨od, sl, pm, ctv, ho⟩ := fnL_at e0.hok (eb _ _ hf1)
      refine PySem.W.kla_callFunE hr.depth ho rfl S.co S.gen rfl (codeO_at e0.hok (eb _ _ hf2)) ?_
      rw [hb _ _ pm (.ref c') ctv us (by rw [← r.length]; exact hl')]
      refine wpAny_pure (wpAny_newFunctionEnv S.nocell (fun ⟨n, _⟩ hy => S.par n (List.of_mem_zip hy).1) (fun h₁ hns hsb => ⟨lim.fresh _ hsb, ?_⟩) S.kind)
      show codeAny _ _ (.expr body (envF (lamF X params scope c') f s.heap.objs.size)) _ _
      have kp : ∀ b o, s.heap.get? b = some o → h₁.get? b = some o := fun b o e => hsb.extBut b o (Nat.ne_of_lt (Heap.lt_size e)) (Heap.get?_push_of_some _ e)
      have J : Inv (ncx (L2.CX X.prog X.w) X.prog X.w X.K X.mg X.base N (lamF X params scope c') f A outer s H E) [] (startF N vs (js.map (slotAt σ))) H { s with heap := h₁, toks := s.toks + (ps.zip us).length } := inv_startN S hr.hd e0 hl' r C hns kp
      refine PySem.W.kla_codeExpr ?_
      have hbd := hbody Hk c' A outer s H E (hr.deeper _)
      have core := def_okC (k := ⟨X.K, G.g, Hk, G.T, noL⟩) (N := N) (ms := List.replicate ps.length false) (vs := vs) (m := mRet me) (ws := js.map (slotAt σ)) (cap := capOf env js) (E := E) (Q := Q) (H := H) hcap (by simp [capOf]) (fun i d h => by
        obtain ⟨v, a, b⟩ := cap_vals w i d h
        exact ⟨v, a, Rp.kn (k := mkK X.K G) (k' := ⟨X.K, G.g, Hk, G.T, noL⟩) rfl b⟩) ⟨hl, Hk2, F2, os, w2, h2⟩
      have t := tMS_ret core
      refine wpAny_mono (hbd.run [] _ _ H _ J t) (fun v s' hq => ?_) fun e s' hq => hq
      obtain ⟨w', H', J', rv, q⟩ := hq
      exact ⟨w', H', J'.os, J'.bare, J'.base, J'.hok, rv, q⟩
  · cases hcm
end
end SW

/-! calls of defs that take functions -/
namespace SW
open PySem PySem.Spec L2 PyProof.Rows SWZ LamX NdefX

def isFnV (env : Env) : Vr → Option Nat
  | .ob (.fn j) => some j
  | .sl i => match env[i]? with
    | some (some (.fn j)) => some j
    | _ => none
  | _ => none
/-- arguments, functions among them: cs tells at which places, and which one's own -/
def argsC : List (Option Nat) → List Bool → List Vr → Env → Option (List O × List Nat × Env)
  | [], [], [], env => some ([], [], env)
  | some id :: cs, false :: ms, x :: xs, env => if isFnV env x = some id then (match argsC cs ms xs env with
    | some (os, js, e2) => some (.fn id :: os, js, e2)
    | none => none) else none
  | none :: cs, false :: ms, x :: xs, env => match frz1 env x with
    | some (d, e) => match argsC cs ms xs e with
      | some (os, js, e2) => some (.val d :: os, js, e2)
      | none => none
    | none => none
  | none :: cs, true :: ms, .sl i :: xs, env => match env[i]? with
    | some (some o) => match o.nf, argsC cs ms xs (env.set i none) with
      | true, some (os, js, e2) => some (o :: os, i :: js, e2)
      | _, _ => none
    | _ => none
  | _, _, _, _ => none
/-- the functions by their places -/
def renum : List (Option Nat) → Nat → List O → List O
  | some _ :: cs, n, _ :: os => .fn n :: renum cs (n + 1) os
  | none :: cs, n, o :: os => o :: renum cs (n + 1) os
  | _, _, _ => []
def closOk (cs : List (Option Nat)) (f : Nat → Option MF) : Bool := (List.range cs.length).all fun n => match cs[n]? with
  | some (some _) => (f n).isSome
  | _ => true
def stuckF : MF := fun _ => .stuck
/-- what comes back is no function -/
def nfF : RF → RF
  | .ok o io => if nfE (some o :: io.map some) = true then .ok o io else .stuck
  | .exc c fs io => if nfE (io.map some) = true then .exc c fs io else .stuck
  | .stuck => .stuck
def mCallC (mfc : (Nat → MF) → MF) (clos : Env → Nat → Option MF) (cs : List (Option Nat)) (mo : List Bool) (ds : List D) (ma : MA) : ME := fun env => R.bind (ma env) fun p => match argsC cs mo p.1 p.2 with
  | some (os, js, e) => if closOk cs (clos e) = true then callE e js (nfF (mfc (fun n => (clos e n).getD stuckF) (renum cs 0 os ++ ds.map O.val))) else .stuck
  | none => .stuck
section
variable {k : Kn} {Hk F H : Hp} {σ : L2.St}
theorem argsC_len : ∀ {cs : List (Option Nat)} {ms : List Bool} {xs : List Vr} {env e2 : Env} {os : List O} {js : List Nat}, argsC cs ms xs env = some (os, js, e2) → env.length = e2.length ∧ os.length = cs.length ∧ ms.length = cs.length
  | [], [], [], env, e2, os, js, e => by
    simp only [argsC] at e
    cases e
    exact ⟨rfl, rfl, rfl⟩
  | some id :: cs, false :: ms, x :: xs, env, e2, os, js, e => by
    simp only [argsC] at e
    split at e
    · split at e
      · rename_i os' js' e3 ha
        cases e
        obtain ⟨a, b, c⟩ := argsC_len ha
        exact ⟨a, by simp [b], by simp [c]⟩
      · cases e
    · cases e
  | none :: cs, false :: ms, x :: xs, env, e2, os, js, e => by
    simp only [argsC] at e
    split at e
    · rename_i d e1 hd
      split at e
      · rename_i os' js' e3 ha
        cases e
        obtain ⟨a, b, c⟩ := argsC_len ha
        exact ⟨(frz1_len hd).trans a, by simp [b], by simp [c]⟩
      · cases e
    · cases e
  | none :: cs, true :: ms, .sl i :: xs, env, e2, os, js, e => by
    simp only [argsC] at e
    split at e
    · split at e
      · rename_i os' js' e3 hn ha
        cases e
        obtain ⟨a, b, c⟩ := argsC_len ha
        exact ⟨by rw [← a]; simp, by simp [b], by simp [c]⟩
      · cases e
    · cases e
  | [], _ :: _, _, env, e2, os, js, e => by simp [argsC] at e
  | [], [], _ :: _, env, e2, os, js, e => by simp [argsC] at e
  | _ :: _, [], _, env, e2, os, js, e => by simp [argsC] at e
  | some _ :: _, true :: _, _, env, e2, os, js, e => by simp [argsC] at e
  | some _ :: _, false :: _, [], env, e2, os, js, e => by simp [argsC] at e
  | none :: _, false :: _, [], env, e2, os, js, e => by simp [argsC] at e
  | none :: _, true :: _, [], env, e2, os, js, e => by simp [argsC] at e
  | none :: _, true :: _, .ob _ :: _, env, e2, os, js, e => by simp [argsC] at e
theorem Wd.fnOn {f : Addr} {j : Nat} {env : Env} (w : Wd k Hk F H σ env) (h : ∀ Hk', Ex Hk Hk' → k.L j f Hk') : Wd k Hk F H (some (.ref f) :: σ) (some (.fn j) :: env) := w.push (Ex.refl _) (.fn h) List.nodup_nil (fun a h => by simp at h)
theorem argsC_ok : ∀ {cs : List (Option Nat)} {ms : List Bool} {vs : List V} {xs : List Vr} {Hk F : Hp} {env e2 : Env} {os : List O} {js : List Nat}, Wl k Hk F H σ env vs xs → argsC cs ms xs env = some (os, js, e2) →
    ∃ Hk', Ex Hk Hk' ∧ Wd k Hk' F H (vs.map some ++ σ) (os.map some ++ e2) ∧ vs.length = ms.length ∧ AtS σ (selV ms vs) js
  | [], [], [], [], Hk, F, env, e2, os, js, w, e => by
    simp only [argsC] at e
    cases e
    exact ⟨Hk, Ex.refl _, w.base, rfl, .nil⟩
  | some id :: cs, false :: ms, v :: vs, x :: xs, Hk, F, env, e2, os, js, w, e => by
    simp only [argsC] at e
    split at e
    · rename_i hx
      split at e
      · rename_i os' js' e3 ha
        cases e
        have hf : ∃ f, v = .ref f ∧ ∀ Hk', Ex Hk Hk' → k.L id f Hk' := by
          cases x with
          | ob o =>
            cases o with
            | fn j =>
              simp only [isFnV, Option.some.injEq] at hx
              subst hx
              have w' : Wd k Hk F H (some v :: (topV vs xs ++ σ)) (some (.fn j) :: (topE xs ++ env)) := w.w
              obtain ⟨l, r⟩ := w'.top
              cases r with
              | fn h => exact ⟨_, rfl, h⟩
            | _ => simp [isFnV] at hx
          | sl i =>
            simp only [isFnV] at hx
            split at hx
            · rename_i j hj
              cases hx
              obtain ⟨f, h1, h2⟩ := clo_slot w.base hj
              have hv := w.sl 0 i v rfl rfl
              rw [hv] at h1
              cases h1
              exact ⟨f, rfl, h2⟩
            · cases hx
        obtain ⟨f, rfl, hf⟩ := hf
        obtain ⟨Hk2, ex2, w2, l2, f2⟩ := argsC_ok w.tail ha
        exact ⟨Hk2, ex2, w2.fnOn fun Hk' ex' => hf Hk' (ex2.trans ex'), by simpa using l2, f2⟩
      · cases e
    · cases e
  | none :: cs, false :: ms, v :: vs, x :: xs, Hk, F, env, e2, os, js, w, e => by
    simp only [argsC] at e
    split at e
    · rename_i d e1 hd
      split at e
      · rename_i os' js' e3 ha
        cases e
        obtain ⟨Hk1, ex1, w1, r1⟩ := w.frz1 hd
        obtain ⟨Hk2, ex2, w2, l2, f2⟩ := argsC_ok w1 ha
        exact ⟨Hk2, ex1.trans ex2, w2.pushV (r1.mono ex2), by simpa using l2, f2⟩
      · cases e
    · cases e
  | none :: cs, true :: ms, v :: vs, .sl i :: xs, Hk, F, env, e2, os, js, w, e => by
    simp only [argsC] at e
    split at e
    · rename_i o ho
      split at e
      · rename_i os' js' e3 hn ha
        cases e
        have hv := w.sl 0 i v rfl rfl
        have wt := w.tail
        have hl := top_len wt.len
        have g : (topE xs ++ env)[(topE xs).length + i]? = some (some o) := by
          rw [List.getElem?_append_right (by omega)]
          simpa using ho
        obtain ⟨v', h1, w1⟩ := wt.w.take g
        rw [← hl, List.getElem?_append_right (by omega)] at h1
        simp at h1
        rw [hv] at h1
        cases h1
        rw [set_app] at w1
        obtain ⟨F2, w2, back⟩ := w1.aside1
        have w3 : Wl k Hk F2 H σ (env.set i none) vs xs := ⟨wt.len, w2, wt.sl⟩
        obtain ⟨Hk2, ex2, w4, l4, f4⟩ := argsC_ok w3 ha
        exact ⟨Hk2, ex2, back _ _ _ _ ex2 w4, by simpa using l4, .cons hv f4⟩
      · cases e
    · cases e
  | [], [], _ :: _, [], Hk, F, env, e2, os, js, w, e => by
    have := w.len
    simp at this
  | _, _, [], _ :: _, Hk, F, env, e2, os, js, w, e => by
    have := w.len
    simp at this
  | _, _, _ :: _, [], Hk, F, env, e2, os, js, w, e => by
    have := w.len
    simp at this
  | [], _ :: _, _, _, Hk, F, env, e2, os, js, w, e => by simp [argsC] at e
  | [], [], _, _ :: _, Hk, F, env, e2, os, js, w, e => by simp [argsC] at e
  | _ :: _, [], _, _, Hk, F, env, e2, os, js, w, e => by simp [argsC] at e
  | some _ :: _, true :: _, _, _, Hk, F, env, e2, os, js, w, e => by simp [argsC] at e
  | some _ :: _, false :: _, _, [], Hk, F, env, e2, os, js, w, e => by simp [argsC] at e
  | none :: _, false :: _, _, [], Hk, F, env, e2, os, js, w, e => by simp [argsC] at e
  | none :: _, true :: _, _, [], Hk, F, env, e2, os, js, w, e => by simp [argsC] at e
  | none :: _, true :: _, _, .ob _ :: _, Hk, F, env, e2, os, js, w, e => by simp [argsC] at e
theorem argsC_nf : ∀ {cs : List (Option Nat)} {ms : List Bool} {xs : List Vr} {env e2 : Env} {os : List O} {js : List Nat} {n : Nat} {o : O}, argsC cs ms xs env = some (os, js, e2) → os[n]? = some o → (∃ id, cs[n]? = some (some id) ∧ o = .fn id) ∨ (cs[n]? = some none ∧ o.nf = true)
  | [], [], [], env, e2, os, js, n, o, e, h => by
    simp only [argsC] at e
    cases e
    simp at h
  | some id :: cs, false :: ms, x :: xs, env, e2, os, js, n, o, e, h => by
    simp only [argsC] at e
    split at e
    · split at e
      · rename_i os' js' e3 ha
        cases e
        cases n with
        | zero =>
          simp at h
          subst h
          exact .inl ⟨id, rfl, rfl⟩
        | succ n => simpa using argsC_nf (n := n) ha (by simpa using h)
      · cases e
    · cases e
  | none :: cs, false :: ms, x :: xs, env, e2, os, js, n, o, e, h => by
    simp only [argsC] at e
    split at e
    · rename_i d e1 hd
      split at e
      · rename_i os' js' e3 ha
        cases e
        cases n with
        | zero =>
          simp at h
          subst h
          exact .inr ⟨rfl, rfl⟩
        | succ n => simpa using argsC_nf (n := n) ha (by simpa using h)
      · cases e
    · cases e
  | none :: cs, true :: ms, .sl i :: xs, env, e2, os, js, n, o, e, h => by
    simp only [argsC] at e
    split at e
    · split at e
      · rename_i os' js' e3 hn ha
        cases e
        cases n with
        | zero =>
          simp at h
          subst h
          exact .inr ⟨rfl, hn⟩
        | succ n => simpa using argsC_nf (n := n) ha (by simpa using h)
      · cases e
    · cases e
  | [], _ :: _, _, env, e2, os, js, n, o, e, _ => by simp [argsC] at e
  | [], [], _ :: _, env, e2, os, js, n, o, e, _ => by simp [argsC] at e
  | _ :: _, [], _, env, e2, os, js, n, o, e, _ => by simp [argsC] at e
  | some _ :: _, true :: _, _, env, e2, os, js, n, o, e, _ => by simp [argsC] at e
  | some _ :: _, false :: _, [], env, e2, os, js, n, o, e, _ => by simp [argsC] at e
  | none :: _, false :: _, [], env, e2, os, js, n, o, e, _ => by simp [argsC] at e
  | none :: _, true :: _, [], env, e2, os, js, n, o, e, _ => by simp [argsC] at e
  | none :: _, true :: _, .ob _ :: _, env, e2, os, js, n, o, e, _ => by simp [argsC] at e
/-- the arguments as the called def knows them -/
theorem renum_ok {k' : Kn} (gG : k.G = k'.G) (gK : k.K = k'.K) : ∀ {cs : List (Option Nat)} {n : Nat} {vs : List V} {os : List O} {l : List Addr}, Sl k Hk H (vs.map some) (os.map some) l → os.length = cs.length →
    (∀ (i : Nat) (o : O), os[i]? = some o → (∃ id, cs[i]? = some (some id) ∧ o = .fn id) ∨ (cs[i]? = some none ∧ o.nf = true)) → (∀ (i id : Nat) (f : Addr), cs[i]? = some (some id) → vs[i]? = some (.ref f) → (∀ Hk', Ex Hk Hk' → k.L id f Hk') → ∀ Hk', k'.L (n + i) f Hk') →
    Sl k' Hk H (vs.map some) ((renum cs n os).map some) l
  | [], n, [], [], l, h, _, _, _ => by
    cases h
    exact .nil
  | [], _, _, _ :: _, _, _, hl, _, _ => by simp at hl
  | _ :: _, _, _, [], _, _, hl, _, _ => by simp at hl
  | _, _, [], _ :: _, _, h, _, _, _ => by cases h
  | _, _, _ :: _, [], _, h, _, _, _ => by cases h
  | c :: cs, n, v :: vs, o :: os, l, h, hl, hn, hL => by
    cases h with
    | yes r h =>
      have ih := renum_ok gG gK (n := n + 1) h (by simpa using hl) (fun i o e => by simpa using hn (i + 1) o (by simpa using e)) (fun i id f a b c => by
        have := hL (i + 1) id f (by simpa using a) (by simpa using b) c
        rwa [show n + 1 + i = n + (i + 1) from by omega])
      rcases hn 0 o rfl with ⟨id, h1, h2⟩ | ⟨h1, h2⟩
      · simp at h1
        subst h1 h2
        cases r with
        | fn hf => exact .yes (.fn fun Hk' _ => hL 0 id _ rfl rfl hf Hk') ih
      · simp at h1
        subst h1
        exact .yes (r.kn gG gK (.inl h2)) ih
end
section
variable {X : Cx} {G : Gn} {W : WX} {pos p : Pos} {e : Expr} {es : List Expr} {x : Str}
theorem q_callC {f : Addr} {fd : FuncData} {ps : List Str} {lv lc : Nat} {mfc : (Nat → MF) → MF} {clos : Env → Nat → Option MF} {cs : List (Option Nat)} {ar : Nat → Nat} {ma : MA} {dvs : List V} {dsV : List Value} (mo : List Bool) (ds : List D)
    (F : ∀ c : Nat → MF, FnOkC X.prog X.w X.K X.mg X.base lv f fd ps G.g G.T (mo ++ ds.map fun _ => false) (mfc c) (fun n => some (List.replicate (ar n) false, c n)) lc)
    (hC : ∀ {pins : List (Addr × Obj)} {s : Shared} {σ : L2.St} {H Hk F : Hp} {env : Env}, Inv X pins σ H s → Wd (mkK X.K G) Hk F H σ env → ∀ n id m f, cs[n]? = some (some id) → clos env n = some m → (∀ Hk', Ex Hk Hk' → G.L id f Hk') → Live X.prog X.w X.K X.mg X.base lc ⟨X.K, G.g, Hk, G.T, noL⟩ f (List.replicate (ar n) false) m s H)
    (hr : Room lv X.A) (hg : Gl X x) (hm : X.mg x = some (.ref f)) (hk : PySem.W.keepIn X.K (.ref f) = true) (hb : Binds X.K fd ps dsV) (hps : mo.length + ds.length = ps.length) (hd : Vals dvs dsV) (hD : ∀ k H, RpAll k H dvs ds) (tk : Takes X W) (ha : PMA X G W (e :: es) ma)
    (hdb : (x == ("__debug__" : Str)) = false := by decide) (he : starEach (e :: es) X.env = (false, eval e X.env) :: starEach es X.env := by rfl) (hpl : (backTo pos (starEach es X.env)).any (·.1) = false := by rfl) :
    PM X G W (.Call (.Name x p) (e :: es) [] pos) (mCallC mfc clos cs mo ds ma) := by
  refine ⟨fun pins s σ H Q I h => ?_⟩
  obtain ⟨Hk, F0, env, w, h⟩ := h
  refine wpAny_Call_Name_kw (ld_glob I hg hm ?_ hdb)
  have hA : tMA (mkK X.K G) W ma σ H (fun vs H1 => ∃ Hk1 F1 env1 xs, Wl (mkK X.K G) Hk1 F1 H1 σ env1 vs xs ∧ Ex Hk Hk1 ∧ F1 = F0 ∧ WantE (mkK X.K G) W Hk1 F1 σ (match argsC cs mo xs env1 with
      | some (os, js, e) => if closOk cs (clos e) = true then callE e js (nfF (mfc (fun n => (clos e n).getD stuckF) (renum cs 0 os ++ ds.map O.val))) else .stuck
      | none => .stuck) Q) := by
    have b := h.bad
    refine seqA (Wl.nil w) b.exc b.ns fun ys e1 ws Hk1 H1 m1 ex1 w1 => ?_
    unfold mCallC at h
    rw [m1] at h
    have h1 := WantE.mono h ex1
    rw [R.bind_ok] at h1
    exact ⟨Hk1, F0, e1, ys, w1, ex1, rfl, h1⟩
  refine PySem.W.callWith_K (h₀ := X.base) I.ok.mod.kin hk (thn (ha.run pos pins s σ H _ I hA) fun us s1 ⟨ws, H1, I1, r, hq⟩ => ⟨I1.kIn, ?_⟩) he hpl
  obtain ⟨Hk1, F1, e1, xs, w1, ex1, eF, h1⟩ := hq
  subst eF
  split at h1
  · rename_i os js e2 hargs
    split at h1
    · rename_i hco
      obtain ⟨Hk2, ex2, w2, l2, f2⟩ := argsC_ok w1 hargs
      obtain ⟨n1, n2, n3⟩ := argsC_len hargs
      have h2 := WantE.mono h1 ex2
      have el : ws.length = os.length := by rw [l2, n3, n2]
      have w2' := w2
      obtain ⟨F2, w3, back⟩ := w2.aside (by simpa using el)
      obtain ⟨Fc, wc, _⟩ := w2'.aside (by simpa using el)
      -- the caller's own world, for what its names hold
      have wσ : ∃ F3, Wd (mkK X.K G) Hk2 F3 H1 σ e2 := by
        refine ⟨F1, ?_⟩
        exact Wd.dropL (by simpa using el) w2'
      obtain ⟨F3, wσ⟩ := wσ
      let L' : Nat → Addr → Hp → Prop := fun n f _ => ∃ id, cs[n]? = some (some id) ∧ ws[n]? = some (V.ref f) ∧ ∀ Hk', Ex Hk2 Hk' → G.L id f Hk'
      let c : Nat → MF := fun n => (clos e2 n).getD stuckF
      have hLive : ∀ j f Hk, L' j f Hk → ∃ cc, (fun n => some (List.replicate (ar n) false, c n)) j = some cc ∧ Live X.prog X.w X.K X.mg X.base lc ⟨X.K, G.g, Hk2, G.T, noL⟩ f cc.1 cc.2 s1 H1 := by
        rintro j f _ ⟨id, a1, a2, a3⟩
        refine ⟨_, rfl, ?_⟩
        have hj : j < cs.length := (List.getElem?_eq_some_iff.mp a1).1
        have := List.all_eq_true.mp hco j (List.mem_range.mpr hj)
        rw [a1] at this
        obtain ⟨m, hm'⟩ := Option.isSome_iff_exists.mp this
        have e3 : c j = m := by show (clos e2 j).getD stuckF = m; rw [hm']; rfl
        rw [e3]
        exact hC I1 wσ j id m f a1 hm' a3
      have hw4 : Wd ⟨X.K, G.g, Hk2, G.T, L'⟩ Hk2 F2 H1 (ws.map some) ((renum cs 0 os).map some) := by
        obtain ⟨fp, hs, nd, hdj⟩ := w3.sl
        exact ⟨w3.ex, w3.fr, ⟨w3.dj.d, Ex.refl _, w3.dj.t⟩, fp, renum_ok (k := mkK X.K G) (k' := ⟨X.K, G.g, Hk2, G.T, L'⟩) rfl rfl hs n2 (fun i o ho => argsC_nf hargs ho) (fun i id f a b cc Hk' => ⟨id, by rw [Nat.zero_add]; exact a, by rw [Nat.zero_add]; exact b, cc⟩), nd, hdj⟩
      have hl : (us ++ dsV).length = ps.length := by
        rw [List.length_append, ← r.length, ← hd.length, l2, (hD (mkK X.K G) H1).len]
        exact hps
      have hsel : ∀ (ms : List Bool) (ws : List V), ws.length = ms.length → selV (ms ++ ds.map fun _ => false) (ws ++ dvs) = selV ms ws := by
        intro ms
        induction ms with
        | nil =>
          intro ws hw
          have : ws = [] := List.eq_nil_of_length_eq_zero hw
          subst this
          have : ∀ (dvs : List V) (ds : List D), selV (ds.map fun _ => false) dvs = [] := by
            intro dvs
            induction dvs with
            | nil => intro ds; cases ds <;> rfl
            | cons v vs ih =>
              intro ds
              cases ds with
              | nil => rfl
              | cons d ds => exact ih ds
          exact this dvs ds
        | cons b ms ih =>
          intro ws hw
          cases ws with
          | nil => simp at hw
          | cons w ws =>
            have := ih ws (by simpa using hw)
            cases b with
            | true => simp [selV, this]
            | false => simp [selV, this]
      have toK : ∀ {Hk' H' : Hp} {σ : L2.St} {env : Env} {F : Hp}, nfE env = true → Wd ⟨X.K, G.g, Hk2, G.T, L'⟩ Hk' F H' σ env → Wd (mkK X.K G) Hk' F H' σ env := fun z w => w.kn rfl rfl rfl ((w2'.dj.b).trans w.dj.b) (.inl z)
      have sp : spM ⟨X.K, G.g, Hk2, G.T, L'⟩ (mo ++ ds.map fun _ => false) (mfc c) (ws ++ dvs) H1 Q (fun cls d H => W cls d σ H) := by
        refine ⟨by simp [l2, (hD (mkK X.K G) H1).len], Hk2, F2, renum cs 0 os ++ ds.map O.val, ?_, ?_⟩
        · rw [List.map_append, List.map_append]
          exact hw4.vals (hD _ Hk2)
        rw [hsel mo ws l2]
        have h2 : WantE (mkK X.K G) W Hk2 F1 σ (callE e2 js (nfF (mfc c (renum cs 0 os ++ ds.map O.val)))) Q := h2
        generalize hrr : mfc c (renum cs 0 os ++ ds.map O.val) = rr at h2
        cases rr with
        | ok o io =>
          intro v Hk' H' ex w'
          simp only [nfF] at h2
          split at h2
          · rename_i hnf
            simp only [callE] at h2
            split at h2
            · rename_i e3 hp
              exact h2 v Hk' H' ex (Wl.one (putB_ok f2 hp (back Hk' H' _ _ ex (toK hnf w'))))
            · exact h2.elim
          · exact h2.elim
        | exc cc fs io =>
          intro cls dd Hk' H' ex w' xc
          simp only [nfF] at h2
          split at h2
          · rename_i hnf
            simp only [callE] at h2
            split at h2
            · rename_i e3 hp
              obtain ⟨C, c1, c2, c3⟩ := xc
              exact h2 cls dd Hk' H' ex (putB_ok f2 hp (back Hk' H' _ _ ex (toK hnf w')).nope (x := none)).drop ⟨C, c1, c2, c3.imp id fun ⟨z, d, ps, a, b, c⟩ => ⟨z, d, ps, a, b, RpF.kn (k := ⟨X.K, G.g, Hk2, G.T, L'⟩) (k' := mkK X.K G) rfl c⟩⟩
            · exact h2.elim
          · exact h2.elim
        | stuck => exact h2.elim
      refine wpAny_call (codeAny_mono ((F c).run X.A X.stack s1 H1 ⟨us, []⟩ (us ++ dsV) (ws ++ dvs) Q (fun cls d H => W cls d σ H) Hk2 L' hr I1.env0 (hb s1 us I1.kIn hl) (r.append hd) (by rw [(r.append hd).length]; exact hl) hLive sp) fun r' s' hq => ?_)
      cases r' with
      | error e => exact passAt tk σ pins H1 s1 e s' I1 hq
      | ok fl =>
        cases fl with
        | ret u => exact I1.after hq
        | next => exact False.elim hq
        | brk => exact False.elim hq
        | cont => exact False.elim hq
    · exact h1.elim
  · exact h1.elim
end
end SW

/-! exceptions caught and kept; isinstance of them; list.count, list.index; is None -/
namespace L2
open PySem PySem.Spec PyProof.Rows SW
section
variable {X : Cx} {x n : Str} {c : Value} {i : Nat} {body suite : List Stmt} {b₀ : Stmt} {np pos pos' : Pos} {tb : WX → TS} {ts : Addr → TS} {Wout : WX}
/-- except x as n: n's object is known behind the suite -/
def wKeep (K : PySem.W.Frag) (c : Value) (i : Nat) (ts : Addr → TS) (Wout : WX) (D : Ends) : WX := fun cls d σ H =>
  ∃ b, PySem.W.exmOne K cls c = some b ∧ (b = true → d = none ∧ ∀ a, H a = none → ts a { nx := fun σ' H' => H' a = none → D.nx (σ'.set i none) (upd H' a (ExV cls a)), rt := fun _ _ => False, bk := fun _ _ => False, ct := fun _ _ => False } (σ.set i (some (.ref a))) H) ∧
    (b = false → Wout cls d σ H)
/-- an object that came since is known from now on -/
theorem Inv.track {pins : List (Addr × Obj)} {σ : St} {H : Hp} {s : Shared} {a : Addr} {oe : Obj} {vs : Array Value} {cls : Value} (I : Inv X ((a, oe) :: pins) σ H s) (hz : Zc cls none oe) (hd : oe.data = .fields vs) (h0 : X.s_0.heap.get? a = none) (hp : ∀ p ∈ X.pn ++ pins, p.1 ≠ a) :
    Inv X pins σ (upd H a (ExV cls a)) s := by
  obtain ⟨e1, n1, nL, nF, ncell⟩ := I.pin (a, oe) (List.mem_append_right _ List.mem_cons_self)
  have n1 : H a = none := n1
  have e1 : s.heap.get? a = some oe := e1
  have ob : ObjOk X.prog X.w (upd H a (ExV cls a)) s.heap a (ExV cls a) := by
    refine ⟨⟨oe, vs, e1, hz.1, hz.2, hd⟩, ⟨oe, e1⟩, ?_⟩
    rintro h1 h2 ⟨o, v, q1, q2, q3, q4⟩ st
    exact ⟨o, v, st _ q1, q2, q3, q4⟩
  refine ⟨I.ok, I.os, I.bare, ⟨I.base.keep, I.base.slot, fun b o e n hx => ?_, I.base.there, fun b xs e => ?_, fun b o u e => ?_, fun b ps e => ?_⟩, I.loc, I.cell, ?_, fun y c e => ?_, fun p hpm => ?_, I.hok.laidN (fun _ _ z => z) n1 ob, I.len⟩
  · rw [upd_ne (fun z => by rw [z, h0] at e; cases e)]
    exact I.base.free b o e n hx
  · have := I.base.tups b xs e
    rw [upd_ne (ne_of_none this n1)]
    exact this
  · have := I.base.frzs b o u e
    rw [upd_ne (ne_of_none this n1)]
    exact this
  · obtain ⟨more, z⟩ := I.base.tbls b ps e
    exact ⟨more, by rw [upd_ne (ne_of_none z n1)]; exact z⟩
  · rw [upd_ne (fun z => nL z.symm)]
    exact I.free
  · obtain ⟨v, o, ho, hdo⟩ := I.cell y c e
    rw [upd_ne (fun z => by
      rw [z, e1] at ho
      cases ho
      rw [hd] at hdo
      cases hdo)]
    exact I.freeC y c e
  · obtain ⟨z1, z2, z3⟩ := I.pin p (by
      rcases List.mem_append.mp hpm with h | h
      · exact List.mem_append_left _ h
      · exact List.mem_append_right _ (List.mem_cons_of_mem _ h))
    exact ⟨z1, by rw [upd_ne (hp p hpm)]; exact z2, z3⟩
theorem ps_try_keep (hex : X.ex = []) (hs : X.stack = X.env :: X.outer) (hf : X.env.frame = some X.env.locals) (hN : X.N.Nodup) (hi : X.N[i]? = some n) (hln : X.env.kindOf n = some .local) (hc : Names X x c) (tk : Takes X Wout)
    (hb : ∀ (W : WX) (pn : List (Addr × Obj)) (xe : Value → Shared → Prop), Takes (X.tr pn xe) W → PassesOwn (model X.prog X.w) X.A X.env xe → PSs (X.tr pn xe) body (tb W))
    (hsu : ∀ (a : Addr) (oe : Obj) (pn : List (Addr × Obj)), PSs (X.suite a ((a, oe) :: pn)) (b₀ :: suite) (ts a)) :
    PS X (.Try body [.ExceptHandler (some (.Name x np)) (some n) (b₀ :: suite) pos'] [] [] pos) (fun D σ H => tb (wKeep X.K c i ts Wout D) D σ H) := by
  refine ⟨fun pins s σ H D I h => ?_⟩
  have ok := I.ok
  have hfr : X.A.frames = some (X.env :: X.outer) := by rw [ok.frames, hs]
  have hloc : Loc X.env.scope n := .inl hln
  refine wpAny_Try_except ?_
  refine wpAny_mono ((hb (wKeep X.K c i ts Wout D) (X.pn ++ pins) (fun e s₁ => wpAny (model X.prog X.w) X.A (noteFrame e X.env) (fun _ s₂ => wpAny (model X.prog X.w) X.A (setFlight e none) (fun _ s₃ =>
    wpAny (model X.prog X.w) X.A (handleBy e X.env [.ExceptHandler (some (.Name x np)) (some n) (b₀ :: suite) pos']) (SP X pins D) X.xe s₃) X.xe s₂) X.xe s₁) (fun u s' xx => ?_) PassesOwn.looking).run [] s σ H D (I.toTry _) h) (fun f s1 hsp => ?_) (fun e s1 he => he)
  · -- the catch
    obtain ⟨a, B, sI, pins', σ', H', cls, d, rfl, J', nb, up, sky, na, os, ag, b, hb1, hyes, hno⟩ := xx
    have J : Inv X pins σ' H' sI := J'.ofTry ok
    have sky' : Sky B (X.env :: X.outer) a (Zc cls d) X.env.locals s'.heap := by rw [← hs]; exact sky
    show wpAny (model X.prog X.w) X.A (noteFrame (.ref a) X.env) _ _ _
    refine Sky.land Zc.steady hfr hf sky' fun h3 fl3 up3 => ?_
    have J3 : Inv X pins σ' H' { s' with heap := h3 } := J.landed nb fl3.1 (up.trans up3) os ag
    obtain ⟨oe3, vs3, he3, hz3, hd3⟩ := fl3.there
    have notFr : ∀ {h : Heap} {o : Obj} {vs : Array Value}, h.FunFrames B (X.env :: X.outer) → h.get? a = some o → o.data = .fields vs → a ∉ frs (X.env :: X.outer) := fun {h o vs} ff e dd hm => by
      obtain ⟨_, o', e', hnf⟩ := ff.mem hm
      rw [e] at e'; cases e'
      exact hnf _ dd
    have nfr := notFr fl3.2.2.1 he3 hd3
    have nL : a ≠ X.env.locals := fun z => nfr (List.mem_filterMap.mpr ⟨X.env, List.mem_cons_self, by rw [hf, z]⟩)
    have nF : a ∉ X.fs := fun hm => by
      obtain ⟨e, he, q⟩ := List.mem_filterMap.mp hm
      exact nfr (List.mem_filterMap.mpr ⟨e, List.mem_cons_of_mem _ he, q⟩)
    have nI : sI.heap.get? a = none := by
      cases q : sI.heap.get? a with
      | none => rfl
      | some o =>
        have := nb a o q (by rw [hs]; exact nfr)
        rw [fl3.2.1] at this
        cases this
    have n0 : X.s_0.heap.get? a = none := by
      cases q : X.s_0.heap.get? a with
      | none => rfl
      | some o =>
        obtain ⟨o', z⟩ := J.base.there a o q (by rw [hex]; simp)
        rw [nI] at z
        cases z
    have npin : ∀ p ∈ X.pn ++ pins, p.1 ≠ a := fun p hp z => by
      obtain ⟨z1, _⟩ := J.pin p hp
      rw [z, nI] at z1
      cases z1
    have S3 := J3.suite he3 hd3 na nL nF
    refine wpAny_handleBy_cons (codeAny_handlers_test ?_) (by intro q; cases q)
    have LT : PySem.W.Looks (model X.prog X.w) h3 (typeOf (.ref a)) cls := fun A Q E s k q => wpAny_typeOf_ref (k _ _ he3) (by rw [hz3.1]; exact q)
    have LM := PySem.W.exm_one (M := model X.prog X.w) (J3.kIn) LT hb1
    have test : ∀ {Q : Value → Shared → Prop} {E : Value → Shared → Prop}, Q c { s' with heap := h3 } → wpAny (model X.prog X.w) (X.A.mark (some (.ref a))) (eval (.Name x np) X.env) Q E { s' with heap := h3 } := fun {Q E} q => by
      obtain ⟨hg, hdbg, hm | ⟨hm, hv, hnn⟩⟩ := hc
      · exact ld_glob (X := X.suite a ((a, oe3) :: (X.pn ++ pins))) S3 hg hm q hdbg
      · exact ld_blt (X := X.suite a ((a, oe3) :: (X.pn ++ pins))) S3 hg hm hv q hnn hdbg
    refine test (LM.here ?_)
    cases b with
    | true =>
      obtain ⟨dn, hyes2⟩ := hyes rfl
      subst dn
      refine codeAny_handlers_suite_as ?_
      refine HandSPX.lands_againZ fl3 fun h4 fl4 up4 => ?_
      have J4 : Inv X pins σ' H' { s' with heap := h4 } := J.landed nb fl4.1 ((up.trans up3).trans up4) os ag
      obtain ⟨oe4, vs4, he4, hz4, hd4⟩ := fl4.there
      have S4 := J4.suite he4 hd4 na nL nF
      refine store_ok (X := X.suite a ((a, oe4) :: (X.pn ++ pins))) (v := .ref a) S4 hN hi hloc rfl (fun s5 S5 => ?_) (.inr hln)
      refine wpAny_mono ((hsu a oe4 (X.pn ++ pins)).run [] s5 _ H' _ S5 (hyes2 a na)) (fun f s6 hsp => ?_) (fun _ _ z => False.elim z)
      cases f with
      | next =>
        obtain ⟨σ6, H6, S6, q6⟩ := hsp
        have pa := S6.pin (a, oe4) (List.mem_append_left _ List.mem_cons_self)
        have J6 : Inv X ((a, oe4) :: pins) σ6 H6 s6 := (S6.unsuite (pins := pins) ok).pins_of fun p hp => by
          rcases List.mem_cons.mp hp with z | z
          · rw [z]
            exact pa
          · exact (S6.unsuite (pins := pins) ok).pin p (List.mem_append_right _ z)
        refine gone_ok J6 hN hi hln fun s7 J7 => ?_
        have na6 : H6 a = none := pa.2.1
        exact ⟨_, _, J7.track hz4 hd4 n0 npin, q6 na6⟩
      | brk =>
        obtain ⟨σ6, H6, S6, q6⟩ := hsp
        exact q6.elim
      | cont =>
        obtain ⟨σ6, H6, S6, q6⟩ := hsp
        exact q6.elim
      | ret u =>
        obtain ⟨v6, σ6, H6, S6, r6, q6⟩ := hsp
        exact q6.elim
    | false =>
      show wpAny _ X.A (handleBy (.ref a) X.env []) _ _ _
      refine wpAny_handleBy_nil ?_
      obtain ⟨k1, k2, k3, oe, vs, T, oT, ts', he, hz, hd, h1, hr⟩ := id fl3
      unfold PySem.passOn
      refine wpAny_bind (wpAny_field he hd h1 ?_)
      rw [if_neg (show ¬ ((Value.ref T == Value.none) = true) from by simp)]
      have fin : wpAny (model X.prog X.w) X.A (setFlight (.ref a) X.env.frame) (fun _ s4 => wpAny (model X.prog X.w) X.A (throw (.ref a) : Sem Flow) (SP X pins D) X.xe s4) X.xe { s' with heap := h3 } := by
        rw [hf]
        refine HandSPX.setFlight_upZ fl3 fun h4 hh4 up4 => wpAny_throw (tk _ _ ?_)
        exact ⟨a, B, sI, pins, σ', H', cls, d, rfl, J, nb, (up.trans up3).trans up4, .inr (.inr (by rw [hs]; exact hh4)), na, os, ag, hno rfl⟩
      first
        | exact wpAny_bind (wpAny_pure (wpAny_bind fin))
        | exact wpAny_bind fin
  · cases f with
    | next =>
      obtain ⟨σ', H', J', q⟩ := hsp
      exact wpAny_execs_nil ⟨σ', H', J'.ofTry ok, q⟩
    | brk =>
      obtain ⟨σ', H', J', q⟩ := hsp
      exact ⟨σ', H', J'.ofTry ok, q⟩
    | cont =>
      obtain ⟨σ', H', J', q⟩ := hsp
      exact ⟨σ', H', J'.ofTry ok, q⟩
    | ret u =>
      obtain ⟨v, σ', H', J', r, q⟩ := hsp
      exact ⟨v, σ', H', J'.ofTry ok, r, q⟩
end
end L2

/-! words: try and keep, isinstance of what was caught, methods of built-in types, is -/
namespace SW
open PySem PySem.Spec L2 PyProof.Rows SWZ

theorem u65 {k : Nat} {A : Around} (r : Room k A) : A.units + 65 < cLine := by have := r.un; omega

/-! ### try: x = f() / except C as e: y = e -/
def mTryKeep (sub : Str → Option Bool) (i y : Nat) (mb : MS) : MS := fun env => match mb env with
  | .exc c fs e => match sub c with
    | some true => if fs.isEmpty = true ∧ i < e.length ∧ y < e.length then .nx (((e.set i (some (.val (.xc c)))).set y (some (.val (.xc c)))).set i none) else .stuck
    | some false => .exc c fs e
    | none => .stuck
  | r => r
section
variable {k : Kn} {W : WX} {P : Pn} {Hk F H : Hp} {σ : L2.St} {env : Env} {D : Ends} {Q : VK}
theorem tMS_tryKeep {sub : Str → Option Bool} {i y : Nat} {mb : MS} {cl : Value} (hsub : ∀ c C b, k.G c = some C → sub c = some b → PySem.W.exmOne k.K (.ref C) cl = some b) (hi : (P.ms[i]? == some true) = false) (hy : (P.ms[y]? == some true) = false)
    (h : tMS k W P (mTryKeep sub i y mb) D σ H) : tMS k (wKeep k.K cl i (fun _ => tAsg (tVar i) (gName y)) W D) P mb D σ H := by
  obtain ⟨Hk, F, env, w, p, h⟩ := h
  refine ⟨Hk, F, env, w, p, ?_⟩
  unfold mTryKeep at h
  cases em : mb env with
  | exc c fs e =>
    rw [em] at h
    simp only at h
    intro cls dd σ' Hk' H' ex w' p' xc
    obtain ⟨C, hC, rfl, hfs⟩ := xc
    split at h
    · rename_i hs
      split at h
      · rename_i hc
        obtain ⟨he, hi', hy'⟩ := hc
        have fs0 : fs = [] := by simpa using he
        refine ⟨true, hsub c C true hC hs, fun _ => ?_, fun z => nomatch z⟩
        have dd0 : dd = none := by
          rcases hfs with ⟨_, z⟩ | ⟨z, _⟩
          · exact z
          · exact absurd fs0 z
        refine ⟨dd0, fun a na => ?_⟩
        have lσ : σ'.length = e.length := w'.len
        refine ⟨.ref a, by rw [List.getElem?_set_self (by omega)], ?_⟩
        intro na'
        have w1 := w'.growK (u := ExV (.ref C) a) na
        have r : Rp k (upd Hk' a (ExV (.ref C) a)) (.ref a) (.xc c) := .xc hC upd_same
        have w2 := (w1.setV r (i := i) (by omega)).setV r (i := y) (by simp; omega)
        have w3 := w2.forget i none
        exact h _ _ _ (ex.trans (Ex.new (w'.ex.free na))) w3 (((p'.set hi).set hy).set hi)
      · exact h.elim
    · rename_i hs
      exact ⟨false, hsub c C false hC hs, fun z => (nomatch z), fun _ => h _ _ _ _ _ ex w' p' ⟨C, hC, rfl, hfs⟩⟩
    · exact h.elim
  | nx e => rw [em] at h; exact h
  | rt x e => rw [em] at h; exact h
  | bk e => rw [em] at h; exact h
  | ct e => rw [em] at h; exact h
  | stuck => rw [em] at h; exact h
end

/-! ### isinstance of what was caught -/
theorem RpN.xc {k : Kn} {Hk H : Hp} {v : V} {c : Str} (h : RpN k Hk H v (.xc c)) : ∃ a C, v = .ref a ∧ k.G c = some C ∧ Hk a = some (ExV (.ref C) a) := by
  obtain ⟨o, l, r, e⟩ := h
  cases r with
  | val r =>
    cases e
    cases r with
    | xc g h => exact ⟨_, _, rfl, g, h⟩
  | lst _ _ => cases e
  | dic _ _ => cases e
  | dicT _ _ => cases e
  | ins _ _ _ => cases e
  | st _ _ _ => cases e
  | scr _ => cases e
  | fn _ => cases e
def rIsV (K : PySem.W.Frag) : List V → Hp → VK → Prop := fun xs H Q => ∃ (a D : Addr) (c : V) (cv : Value) (b : Bool), xs = [.ref a, c] ∧ H a = some (ExV (.ref D) a) ∧ ExcC K D ∧ ClsV c cv ∧ PySem.W.kitOne K (.ref D) cv = some b ∧ Q (.bl b) H
def rIsVT (K : PySem.W.Frag) : List V → Hp → VK → Prop := fun xs H Q => ∃ (a D tp : Addr) (cs : List V) (us : List Value) (b : Bool), xs = [.ref a, .ref tp] ∧ H a = some (ExV (.ref D) a) ∧ ExcC K D ∧ H tp = some (.tup cs) ∧ Paired ClsV cs us ∧ PySem.W.kitAny K (.ref D) us = some b ∧ Q (.bl b) H
section
variable {X : Cx}
theorem exv_at {pins : List (Addr × Obj)} {σ : L2.St} {H : Hp} {s : Shared} {a D : Addr} (I : Inv X pins σ H s) (h : H a = some (ExV (.ref D) a)) : ∃ oe, PySem.W.InstAt s.heap a oe D none := by
  obtain ⟨⟨oe, vs, e1, e2, e3, e4⟩, _⟩ := I.hok a _ h
  obtain ⟨oc, od, oda, osl⟩ := oe
  dsimp only at e2 e3 e4
  subst e2 e3 e4
  exact ⟨_, e1, rfl, rfl, trivial⟩
theorem call_isV : CallR X (.builtin "isinstance") (rIsV X.K) := by
  intro pins s σ H xs us Q I r h
  obtain ⟨a, D, c, cv, b, rfl, ha, C, k, e, q⟩ := h
  obtain ⟨u1, u2, rfl, r1, r2⟩ := vals2 r
  have e2 := k.eq r2
  subst e2
  cases (show u1 = Value.ref a from r1)
  obtain ⟨oe, J⟩ := exv_at I ha
  exact PySem.W.kia_one (PySem.W.handS_kitx_exc C.hg C.hk C.hs C.hd C.ha C.hn C.ht C.hm) I.kIn J e (fun z => nomatch z) fun tk => ⟨.bl b, H, I.tok tk, rfl, q⟩
theorem call_isVT : CallR X (.builtin "isinstance") (rIsVT X.K) := by
  intro pins s σ H xs us Q I r h
  obtain ⟨a, D, tp, cs, ws, b, rfl, ha, C, hT, k, e, q⟩ := h
  obtain ⟨u1, u2, rfl, r1, r2⟩ := vals2 r
  cases (show u2 = Value.ref tp from r2)
  cases (show u1 = Value.ref a from r1)
  obtain ⟨oe, J⟩ := exv_at I ha
  obtain ⟨_, its, rv, o, h1, h2, n, h3⟩ := (show ObjOk X.prog X.w H s.heap tp (.tup cs) from I.hok tp _ hT)
  have e3 := ClsV.all k rv
  subst e3
  obtain ⟨oc, od, dt, sl⟩ := o
  simp only at h2 h3
  subst h2 h3
  exact PySem.W.kia_tup (PySem.W.handS_kitx_exc C.hg C.hk C.hs C.hd C.ha C.hn C.ht C.hm) I.kIn J h1 e (fun z => nomatch z) fun tk => ⟨.bl b, H, I.tok tk, rfl, q⟩
/-- isinstance(e, C) of a caught exception: tab tells by its class -/
def mIsx (tab : List (Str × Bool)) (m : ME) : ME := fun env => R.bind (m env) fun p => match rd p.2 p.1 with
  | some (.xc c) => match tab.lookup c with
    | some b => .ok (.ob (.val (.bl b)), p.2)
    | none => .stuck
  | _ => .stuck
variable {G : Gn} {W : WX} {pos p p2 : Pos} {e : Expr} {m : ME} {es : List Expr}
structure IsT (K : PySem.W.Frag) (g : Str → Option Addr) (f : Addr → Option Bool) (tab : List (Str × Bool)) : Prop where
  ok : ∀ c b C, tab.lookup c = some b → g c = some C → ExcC K C ∧ f C = some b
theorem IsT.nil {K : PySem.W.Frag} {g : Str → Option Addr} {f : Addr → Option Bool} : IsT K g f [] := ⟨fun c b C h => by simp at h⟩
theorem IsT.cons {K : PySem.W.Frag} {g : Str → Option Addr} {f : Addr → Option Bool} {c : Str} {b : Bool} {C : Addr} {tab : List (Str × Bool)} (hg : g c = some C) (x : ExcC K C) (h : f C = some b) (r : IsT K g f tab) : IsT K g f ((c, b) :: tab) := ⟨fun c' b' C' h1 h2 => by
  rw [List.lookup_cons] at h1
  split at h1
  · rename_i z
    have z : c' = c := by simpa using z
    subst z
    cases h1
    rw [hg] at h2
    cases h2
    exact ⟨x, h⟩
  · exact r.ok c' b' C' h1 h2⟩
theorem tM_isx {k : Kn} {σ : L2.St} {H : Hp} {Q : VK} {c : V} {cv : Value} {tab : List (Str × Bool)} (hc : ClsV c cv) (hT : IsT k.K k.G (fun D => PySem.W.kitOne k.K (.ref D) cv) tab) (h : tM k W (mIsx tab m) σ H Q) : tCB (rIsV k.K) (tCons (tM k W m) (tCons (tC c) tNil)) σ H Q := by
  obtain ⟨Hk, F, env, w, h⟩ := h
  have b := h.bad
  refine seqE (Wl.nil w) b.exc b.ns fun x e1 v Hk1 H1 m1 ex1 w1 => ?_
  unfold mIsx at h
  rw [m1] at h
  have h1 := WantE.mono h ex1
  rw [R.bind_ok] at h1
  simp only at h1
  have w1 : Wl k Hk1 F H1 σ e1 [v] [x] := w1
  split at h1
  · rename_i cc hd
    split at h1
    · rename_i bb hb
      obtain ⟨a, D, rfl, g, ha⟩ := (w1.rdN (j := 0) rfl rfl hd).xc
      obtain ⟨x1, x2⟩ := hT.ok cc bb D hb g
      exact ⟨a, D, c, cv, bb, rfl, w1.base.ex _ _ ha, x1, hc, x2, h1 _ Hk1 H1 (Ex.refl _) (Wl.val w1.base (.bl _))⟩
    · exact h1.elim
  · exact h1.elim
theorem q_isx {x y : Str} {c : V} {cv : Value} {tab : List (Str × Bool)} (hx : x = "isinstance") (hg : Gl X x) (hm : X.mg x = none) (hv : bootBuiltins x = some (.builtin "isinstance")) (hy : PE X (.Name y p2) (tC c)) (hc : ClsV c cv) (hT : IsT X.K G.g (fun D => PySem.W.kitOne X.K (.ref D) cv) tab) (ha : PM X G W e m)
    (hn : x ≠ "__name__" := by decide) (hdb : (x == ("__debug__" : Str)) = false := by decide)
    (hs : starEach [e, .Name y p2] X.env = (false, eval e X.env) :: starEach [.Name y p2] X.env := by rfl) (hpl : (backTo pos (starEach [.Name y p2] X.env)).any (·.1) = false := by rfl) : PM X G W (.Call (.Name x p) [e, .Name y p2] [] pos) (mIsx tab m) :=
  (pe_callB call_isV hg hm hv (pa_cons ha (pa_cons hy pa_nil) hs) hn hdb hs hpl).imp fun _ _ _ => tM_isx (k := mkK X.K G) hc hT
/-- a tuple of classes -/
def tCs (cs : List V) : TA := fun _ H Q => Q cs H
theorem pa_cs0 : PA X [] (tCs []) := pa_nil.imp fun _ _ _ h => h
theorem pa_csc {v : V} {vs : List V} (ha : PE X e (tC v)) (hr : PA X es (tCs vs)) (hs : starEach (e :: es) X.env = (false, eval e X.env) :: starEach es X.env := by rfl) : PA X (e :: es) (tCs (v :: vs)) := (pa_cons ha hr hs).imp fun _ _ _ h => h
theorem tM_isxT {k : Kn} {σ : L2.St} {H : Hp} {Q : VK} {cs : List V} {us : List Value} {tab : List (Str × Bool)} (hl : cs.length ≤ 1000) (hc : Paired ClsV cs us) (hT : IsT k.K k.G (fun D => PySem.W.kitAny k.K (.ref D) us) tab) (h : tM k W (mIsx tab m) σ H Q) :
    tCB (rIsVT k.K) (tCons (tM k W m) (tCons (tTup (tCs cs)) tNil)) σ H Q := by
  obtain ⟨Hk, F, env, w, h⟩ := h
  have b := h.bad
  refine seqE (Wl.nil w) b.exc b.ns fun x e1 v Hk1 H1 m1 ex1 w1 => ?_
  unfold mIsx at h
  rw [m1] at h
  have h1 := WantE.mono h ex1
  rw [R.bind_ok] at h1
  simp only at h1
  have w1 : Wl k Hk1 F H1 σ e1 [v] [x] := w1
  refine ⟨Nat.le_trans hl (by decide), fun tp hp => ?_⟩
  split at h1
  · rename_i cc hd
    split at h1
    · rename_i bb hb
      obtain ⟨a, D, rfl, g, ha⟩ := (w1.rdN (j := 0) rfl rfl hd).xc
      obtain ⟨x1, x2⟩ := hT.ok cc bb D hb g
      have w2 := w1.base.grow (Ex.new (o := .tup cs) hp)
      exact ⟨a, D, tp, cs, us, bb, rfl, w2.ex _ _ ha, x1, upd_same, hc, x2, h1 _ Hk1 _ (Ex.refl _) (Wl.val w2 (.bl _))⟩
    · exact h1.elim
  · exact h1.elim
theorem q_isxT {x : Str} {cs : List V} {us : List Value} {tab : List (Str × Bool)} {x1} (hx : x = "isinstance") (hg : Gl X x) (hm : X.mg x = none) (hv : bootBuiltins x = some (.builtin "isinstance")) (hy : PA X es (tCs cs)) (hl : cs.length ≤ 1000) (hc : Paired ClsV cs us) (hT : IsT X.K G.g (fun D => PySem.W.kitAny X.K (.ref D) us) tab) (ha : PM X G W e m)
    (hn : x ≠ "__name__" := by decide) (hdb : (x == ("__debug__" : Str)) = false := by decide)
    (hs : starEach [e, .Tuple es x1 p2] X.env = (false, eval e X.env) :: starEach [.Tuple es x1 p2] X.env := by rfl) (hpl : (backTo pos (starEach [.Tuple es x1 p2] X.env)).any (·.1) = false := by rfl) : PM X G W (.Call (.Name x p) [e, .Tuple es x1 p2] [] pos) (mIsx tab m) :=
  (pe_callB call_isVT hg hm hv (pa_cons ha (pa_cons (pe_tup hy) pa_nil) hs) hn hdb hs hpl).imp fun _ _ _ => tM_isxT (k := mkK X.K G) hl hc hT
theorem ExcO.cls {y : Str} {C : Addr} (hg : Gl X y) (hm : X.mg y = some (.ref C)) (hd : (y == ("__debug__" : Str)) = false := by decide) : PE X (.Name y p) (tC (.ref C)) := pe_glob hg hm rfl hd

/-! ### is None, is True -/
theorem q_isN {a b : Expr} {ma mb : ME} (ha : PM X G W a ma) (hb : PM X G W b mb) : PM X G W (.Compare a [.Is] [b] pos) (mOp2 fIsN ma mb) := q_cmp op_isN s_isN ha hb (nomark _)
theorem q_notN {a b : Expr} {ma mb : ME} (ha : PM X G W a ma) (hb : PM X G W b mb) : PM X G W (.Compare a [.IsNot] [b] pos) (mOp2 fNotN ma mb) := q_cmp op_notN s_notN ha hb (nomark _)
theorem t_isN {a b : Expr} {ma mb : ME} (ha : PM X G W a ma) (hb : PM X G W b mb) : PMT X G W (.Compare a [.Is] [b] pos) (mBool (mOp2 fIsN ma mb)) := t_cmp op_isN s_isN ha hb (nomark _)
theorem t_notN {a b : Expr} {ma mb : ME} (ha : PM X G W a ma) (hb : PM X G W b mb) : PMT X G W (.Compare a [.IsNot] [b] pos) (mBool (mOp2 fNotN ma mb)) := t_cmp op_notN s_notN ha hb (nomark _)
def fIsB (neg : Bool) : D → D → Option O
  | .bl a, .bl b => some (.val (.bl (if neg then !decide (a = b) else decide (a = b))))
  | _, _ => none
theorem s_isB {k : Kn} : OpS k rIsB (fIsB false) := by
  intro Hk F H σ env x y a b o Q w ra rb e q
  unfold fIsB at e
  split at e <;> cases e
  cases ra.bl
  cases rb.bl
  exact ⟨_, _, rfl, rfl, q _ Hk H (Ex.refl _) (Wl.val w (.bl _))⟩
theorem s_notB {k : Kn} : OpS k rNotB (fIsB true) := by
  intro Hk F H σ env x y a b o Q w ra rb e q
  unfold fIsB at e
  split at e <;> cases e
  cases ra.bl
  cases rb.bl
  exact ⟨_, _, rfl, rfl, q _ Hk H (Ex.refl _) (Wl.val w (.bl _))⟩
theorem q_isB {a b : Expr} {ma mb : ME} (ha : PM X G W a ma) (hb : PM X G W b mb) : PM X G W (.Compare a [.Is] [b] pos) (mOp2 (fIsB false) ma mb) := q_cmp op_isBl s_isB ha hb (nomark _)
theorem q_notB {a b : Expr} {ma mb : ME} (ha : PM X G W a ma) (hb : PM X G W b mb) : PM X G W (.Compare a [.IsNot] [b] pos) (mOp2 (fIsB true) ma mb) := q_cmp op_notBl s_notB ha hb (nomark _)
theorem t_isB {a b : Expr} {ma mb : ME} (ha : PM X G W a ma) (hb : PM X G W b mb) : PMT X G W (.Compare a [.Is] [b] pos) (mBool (mOp2 (fIsB false) ma mb)) := t_cmp op_isBl s_isB ha hb (nomark _)
theorem t_notB {a b : Expr} {ma mb : ME} (ha : PM X G W a ma) (hb : PM X G W b mb) : PMT X G W (.Compare a [.IsNot] [b] pos) (mBool (mOp2 (fIsB true) ma mb)) := t_cmp op_notBl s_notB ha hb (nomark _)

/-! ### methods of built-in types that change nothing -/
def mBM (T : String) (f : D → List D → Option O) (mr : ME) (ma : MA) : ME := fun env => R.bind (mr env) fun p => if (rd p.2 p.1).bind tyD = some T then R.bind (ma p.2) fun q => match rd q.2 p.1, rds q.2 q.1 with
  | some a, some ds => ofO q.2 (f a ds)
  | _, _ => .stuck else .stuck
def MtS (k : Kn) (r : V → List V → Hp → VK → Prop) (f : D → List D → Option O) : Prop := ∀ {Hk F H : Hp} {σ : L2.St} {env : Env} {x : V} {a : D} {vs : List V} {ds : List D} {o : O} {Q : VK}, Wd k Hk F H σ env → RpN k Hk H x a → RpNs k Hk H vs ds → f a ds = some o →
  (∀ v Hk' H', Ex Hk Hk' → Wl k Hk' F H' σ env [v] [.ob o] → Q v H') → r x vs H Q
theorem tyV_of {k : Kn} {Hk H : Hp} {v : V} {d : D} {T : String} (ex : Ex Hk H) (r : RpN k Hk H v d) (h : tyD d = some T) (hT : T = "list" ∨ T = "str" ∨ T = "dict") : tyV k.K T v H := by
  cases d with
  | non => cases h; exact absurd hT (by decide)
  | bl b => cases h; exact absurd hT (by decide)
  | int i => cases h; exact absurd hT (by decide)
  | str s => cases h; rw [r.str.1]; exact rfl
  | lst ds =>
    cases h
    obtain ⟨a, xs, rfl, h1, _⟩ := r.lst ex
    exact .inl ⟨rfl, _, SqL.of h1⟩
  | tup ds => cases h; exact absurd hT (by decide)
  | dic t kvs =>
    cases h
    obtain ⟨a, rfl, ⟨_, ps, h1, _⟩ | ⟨_, ps, h1, _⟩⟩ := r.dic ex
    · exact .inr (.inr (.inl ⟨rfl, .inl ⟨_, h1⟩⟩))
    · exact .inr (.inr (.inl ⟨rfl, .inr ⟨_, h1⟩⟩))
  | ins c fs => cases h
  | xc c => cases h
theorem tM_bm {k : Kn} {σ : L2.St} {H : Hp} {Q : VK} {T : String} {r : V → List V → Hp → VK → Prop} {f : D → List D → Option O} {mr : ME} {ma : MA} (hT : T = "list" ∨ T = "str" ∨ T = "dict") (hs : MtS k r f) (h : tM k W (mBM T f mr ma) σ H Q) : tBM k.K T r (tM k W mr) (tMA k W ma) σ H Q := by
  obtain ⟨Hk, F, env, w, h⟩ := h
  have b := h.bad
  refine seqE (Wl.nil w) b.exc b.ns fun x e1 v Hk1 H1 m1 ex1 w1 => ?_
  unfold mBM at h
  rw [m1] at h
  have h1 := WantE.mono h ex1
  rw [R.bind_ok] at h1
  simp only at h1
  have w1 : Wl k Hk1 F H1 σ e1 [v] [x] := w1
  split at h1
  · rename_i ht
    obtain ⟨d, hd, ht⟩ := Option.bind_eq_some_iff.mp ht
    refine ⟨tyV_of w1.base.ex (w1.rdN (j := 0) rfl rfl hd) ht hT, ?_⟩
    have b := h1.bad
    refine seqA w1 b.exc b.ns fun ys e2 ws Hk2 H2 m2 ex2 w2 => ?_
    rw [m2] at h1
    have h2 := WantE.mono h1 ex2
    rw [R.bind_ok] at h2
    simp only at h2
    have w2 : Wl k Hk2 F H2 σ e2 (v :: ws) (x :: ys) := w2
    split at h2
    · rename_i a ds ha hds
      cases ef : f a ds with
      | none => rw [ef] at h2; exact h2.elim
      | some o =>
        rw [ef] at h2
        exact hs w2.base (w2.rdN (j := 0) rfl rfl ha) (w2.tail.rdNs hds) ef h2
    · exact h2.elim
  · exact h1.elim
theorem q_bm {o : Expr} {name : Str} {apos : Pos} {T id : String} {r : V → List V → Hp → VK → Prop} {f : D → List D → Option O} {mo : ME} {ma : MA} (pa : PlainAttrs T) (slot : Slot T name id) (hty : typeOf (.builtin id) = pure (.type "method_descriptor")) (hm : MtR X id r) (hs' : MtS (mkK X.K G) r f) (hT : T = "list" ∨ T = "str" ∨ T = "dict") (ho : PM X G W o mo) (ha : PMA X G W (e :: es) ma)
    (hbase : attributeBase o name X.env (eval o X.env) = eval o X.env := by rfl)
    (hfew : ((backTo pos (starEach (e :: es) X.env)).all (fun x => !x.1) && (backToKw pos (keywordEach [] X.env)).all (fun x => x.1.isSome)
      && decide ((e :: es).length + ([] : List Keyword).length + (if ([] : List Keyword).isEmpty then 0 else 1) < 30)) = true := by rfl)
    (hline : (apos.endLine == pos.line) = true := by rfl) (hs : starEach (e :: es) X.env = (false, eval e X.env) :: starEach es X.env := by rfl) (hplain : (backTo pos (starEach es X.env)).any (·.1) = false := by rfl) :
    PM X G W (.Call (.Attribute o name apos) (e :: es) [] pos) (mBM T f mo ma) :=
  (pe_bm pa slot hty hm ho ha hbase hfew hline hs hplain).imp fun _ _ _ => tM_bm (k := mkK X.K G) hT hs'
/-- l.count(x) over data -/
def rCountD (K : PySem.W.Frag) : V → List V → Hp → VK → Prop := fun x xs H Q => ∃ (a : Addr) (y : V) (d : PyData) (ds : List PyData), x = V.ref a ∧ xs = [y] ∧ Dp K H (V.ref a) (.list ds) ∧ Dp K H y d ∧ SeqAt.shaped (.list ds) = true ∧ SeqAt.shaped d = true ∧ Q (.int ((ds.countP fun z => PyData.eqv z d : Nat) : Int)) H
theorem mt_countD (hu : X.A.units + 65 < cLine) : MtR X "list.count" (rCountD X.K) := by
  intro pins s σ H x xs v us Q I rx rxs h
  obtain ⟨a, y, d, ds, rfl, rfl, hl, hy, sl, sd, q⟩ := h
  cases rx
  cases rxs with
  | cons ry rt =>
    rename_i uy ut
    cases rt
    obtain ⟨bs, r1⟩ := Dp.reads I d y uy hy ry
    have hxs : PyData.canLayAll0 ds = true := SeqAt.canLay_of_shaped sl
    have hroom : X.A.units + 1 + min (PyData.depthAll ds) d.depth < cLine := room_in_shaped sd hu
    cases hl with
    | lst hs ha =>
      obtain ⟨its, rv, ⟨⟨cls, dd, data, sls⟩, n, ho, hc, hdn, hdt⟩, hlen⟩ := I.list hs
      simp only at hc hdt
      subst hc hdt
      obtain ⟨as, h4⟩ := Dp.readsAll I ds _ its ha rv
      have hmap : its.map (SeqAt.readOf s.heap) = ds := SeqAt.readsAll_map ds its as hxs h4
      refine call_meets PySem.F.slot_list_count ⟨_, ho, rfl⟩ PySem.F.entry_list_count (PySem.F.args_list_count_2 _ _)
        (SeqAt.list_countAt a its.toArray n dd sls uy (fun u => PyData.eqv (SeqAt.readOf s.heap u) d)) ⟨ho, SeqAt.items_eqAt (vs := its.toArray) (show ReadsAll s.heap its.toArray.toList ds as from h4) r1 hxs (SeqAt.canLay_of_shaped sd) hroom, ?_⟩
      have ec : its.toArray.toList.countP (fun u => PyData.eqv (SeqAt.readOf s.heap u) d) = ds.countP fun z => PyData.eqv z d := by
        rw [← hmap, List.countP_map]
        rfl
      refine ⟨.int _, H, I.tok _, ⟨s.toks, ?_⟩, q⟩
      show Value.int _ s.toks = Value.int _ s.toks
      rw [ec]
def fCount (x : D) (as : List D) : Option O := match x, as with
  | .lst ds, [a] => if plain (.lst ds) 64 = true ∧ plain a 64 = true then some (.val (.int ((ds.countP fun z => eqD z a : Nat) : Int))) else none
  | _, _ => none
theorem pds_countP (d : D) (hd : plain d 64 = true) : ∀ (ds : List D) (n : Nat), plains ds n = true → ((pds ds).countP fun z => PyData.eqv z (pd d)) = ds.countP fun z => eqD z d
  | [], _, _ => rfl
  | x :: xs, n, h => by
    simp only [plains, Bool.and_eq_true] at h
    simp only [pds, List.countP_cons]
    rw [pds_countP d hd xs n h.2, pd_eqv x d n 64 h.1 hd]
theorem s_count {k : Kn} : MtS k (rCountD k.K) fCount := by
  intro Hk F H σ env x a vs ds o Q w ra rs e q
  unfold fCount at e
  split at e
  · rename_i ds1 a1
    split at e
    · rename_i hp
      cases e
      obtain ⟨v, rfl, rv⟩ := rs.one
      obtain ⟨h1, h2⟩ := (ra.now w.ex).dp 64 hp.1
      obtain ⟨h3, h4⟩ := (rv.now w.ex).dp 64 hp.2
      obtain ⟨p, xs, rfl, _, _⟩ := ra.lst w.ex
      refine ⟨p, v, pd a1, pds ds1, rfl, rfl, h1, h3, ?_, ?_, ?_⟩
      · have := plain_dep _ 64 hp.1
        simp only [pd] at this h2
        simp [SeqAt.shaped, h2, this]
      · simp [SeqAt.shaped, h4, plain_dep a1 64 hp.2]
      · have hpl : plains ds1 63 = true := by
          have := hp.1
          simp only [plain, Bool.and_eq_true] at this
          exact this.2
        rw [pds_countP a1 hp.2 ds1 63 hpl]
        exact q _ Hk H (Ex.refl _) (Wl.val w (.int _))
    · cases e
  · cases e
def findD (a : D) : List D → Option Nat
  | [] => none
  | x :: xs => if eqD x a = true then some 0 else (findD a xs).map (· + 1)
def fIndex (x : D) (as : List D) : Option O := match x, as with
  | .lst ds, [a] => if plain (.lst ds) 64 = true ∧ plain a 64 = true then (findD a ds).map fun j => .val (.int (j : Nat)) else none
  | _, _ => none
theorem findD_some {a : D} : ∀ {ds : List D} {j : Nat}, findD a ds = some j → ∃ z, ds[j]? = some z ∧ eqD z a = true ∧ ∀ (m : Nat) (z' : D), m < j → ds[m]? = some z' → eqD z' a = false
  | [], j, h => by simp [findD] at h
  | x :: xs, j, h => by
    simp only [findD] at h
    split at h
    · rename_i hx
      cases h
      exact ⟨x, rfl, hx, fun m z' hm => by omega⟩
    · rename_i hx
      obtain ⟨i, h1, rfl⟩ := Option.map_eq_some_iff.mp h
      obtain ⟨z, h2, h3, h4⟩ := findD_some h1
      refine ⟨z, by simpa using h2, h3, fun m z' hm hz => ?_⟩
      cases m with
      | zero =>
        simp at hz
        subst hz
        simpa using hx
      | succ m => exact h4 m z' (by omega) (by simpa using hz)
theorem pds_get : ∀ {ds : List D} {m : Nat}, (pds ds)[m]? = (ds[m]?).map pd
  | [], m => by simp [pds]
  | x :: xs, 0 => by simp [pds]
  | x :: xs, m + 1 => by simp [pds, pds_get (ds := xs) (m := m)]
theorem plains_get : ∀ {ds : List D} {n m : Nat} {z : D}, plains ds n = true → ds[m]? = some z → plain z n = true
  | [], n, m, z, _, h => by simp at h
  | x :: xs, n, 0, z, p, h => by
    simp only [plains, Bool.and_eq_true] at p
    simp at h
    subst h
    exact p.1
  | x :: xs, n, m + 1, z, p, h => by
    simp only [plains, Bool.and_eq_true] at p
    exact plains_get (m := m) p.2 (by simpa using h)
theorem s_index {k : Kn} : MtS k (rIndexD k.K) fIndex := by
  intro Hk F H σ env x a vs ds o Q w ra rs e q
  unfold fIndex at e
  split at e
  · rename_i ds1 a1
    split at e
    · rename_i hp
      obtain ⟨j, hj, rfl⟩ := Option.map_eq_some_iff.mp e
      obtain ⟨z, z1, z2, z3⟩ := findD_some hj
      obtain ⟨v, rfl, rv⟩ := rs.one
      obtain ⟨h1, h2⟩ := (ra.now w.ex).dp 64 hp.1
      obtain ⟨h3, h4⟩ := (rv.now w.ex).dp 64 hp.2
      obtain ⟨p, xs, rfl, _, _⟩ := ra.lst w.ex
      have hpl : plains ds1 63 = true := by
        have := hp.1
        simp only [plain, Bool.and_eq_true] at this
        exact this.2
      refine ⟨p, v, pd a1, pds ds1, j, pd z, rfl, rfl, h1, h3, ?_, ?_, ?_, ?_, ?_, q _ Hk H (Ex.refl _) (Wl.val w (.int _))⟩
      · have := plain_dep _ 64 hp.1
        simp only [pd] at this h2
        simp [SeqAt.shaped, h2, this]
      · simp [SeqAt.shaped, h4, plain_dep a1 64 hp.2]
      · rw [pds_get, z1]; rfl
      · rw [pd_eqv z a1 63 64 (plains_get hpl z1) hp.2]; exact z2
      · intro m z' hm hz'
        rw [pds_get] at hz'
        obtain ⟨y, y1, rfl⟩ := Option.map_eq_some_iff.mp hz'
        rw [pd_eqv y a1 63 64 (plains_get hpl y1) hp.2]
        exact z3 m y hm y1
    · cases e
  · cases e
theorem q_count {o : Expr} {apos : Pos} {mo : ME} {ma : MA} (hu : X.A.units + 65 < cLine) (ho : PM X G W o mo) (ha : PMA X G W (e :: es) ma)
    (hbase : attributeBase o "count" X.env (eval o X.env) = eval o X.env := by rfl)
    (hfew : ((backTo pos (starEach (e :: es) X.env)).all (fun x => !x.1) && (backToKw pos (keywordEach [] X.env)).all (fun x => x.1.isSome)
      && decide ((e :: es).length + ([] : List Keyword).length + (if ([] : List Keyword).isEmpty then 0 else 1) < 30)) = true := by rfl)
    (hline : (apos.endLine == pos.line) = true := by rfl) (hs : starEach (e :: es) X.env = (false, eval e X.env) :: starEach es X.env := by rfl) (hplain : (backTo pos (starEach es X.env)).any (·.1) = false := by rfl) :
    PM X G W (.Call (.Attribute o "count" apos) (e :: es) [] pos) (mBM "list" fCount mo ma) := q_bm PySem.F.plainAttrs_list PySem.F.slot_list_count PySem.F.type_list_count (mt_countD hu) s_count (.inl rfl) ho ha hbase hfew hline hs hplain
theorem q_index {o : Expr} {apos : Pos} {mo : ME} {ma : MA} (hu : X.A.units + 65 < cLine) (ho : PM X G W o mo) (ha : PMA X G W (e :: es) ma)
    (hbase : attributeBase o "index" X.env (eval o X.env) = eval o X.env := by rfl)
    (hfew : ((backTo pos (starEach (e :: es) X.env)).all (fun x => !x.1) && (backToKw pos (keywordEach [] X.env)).all (fun x => x.1.isSome)
      && decide ((e :: es).length + ([] : List Keyword).length + (if ([] : List Keyword).isEmpty then 0 else 1) < 30)) = true := by rfl)
    (hline : (apos.endLine == pos.line) = true := by rfl) (hs : starEach (e :: es) X.env = (false, eval e X.env) :: starEach es X.env := by rfl) (hplain : (backTo pos (starEach es X.env)).any (·.1) = false := by rfl) :
    PM X G W (.Call (.Attribute o "index" apos) (e :: es) [] pos) (mBM "list" fIndex mo ma) := q_bm PySem.F.plainAttrs_list PySem.F.slot_list_index PySem.F.type_list_index (mt_indexD hu) s_index (.inl rfl) ho ha hbase hfew hline hs hplain
end
end SW

/-! calls with keywords -/
namespace SW
open PySem PySem.Spec L2 PyProof.Rows SWZ

def permL {α : Type} (π : List Nat) (l : List α) : List α := π.filterMap (l[·]?)
structure KwB (K : PySem.W.Frag) (fd : FuncData) (ps : List Str) (n : Nat) (ks : List Str) (π : List Nat) : Prop where
  to : ∀ (s : Shared) (us ws : List Value), us.length = n → ws.length = ks.length → BindsTo s fd ⟨us, ks.zip ws⟩ (ps.zip (permL π (us ++ ws)))
theorem fun_kwb {K : PySem.W.Frag} {x qual : Str} {st : Stmt} {f : Addr} {fd : FuncData} {ps ks : List Str} {n : Nat} {π : List Nat} (F : Fun K x qual st f fd)
    (h : ∀ (kV doc pm : Value) (an : Option Addr) (cdv ct : Value) (us ws : List Value), us.length = n → ws.length = ks.length → bindArgs (PySem.W.fnOf x qual (defArgs st) (defBody st) (defScope st) .none kV doc pm an cdv ct) ⟨us, ks.zip ws⟩ = pure (ps.zip (permL π (us ++ ws)))) : KwB K fd ps n ks π := by
  obtain ⟨oc, od, kV, doc, pm, an, cdv, ct, osl, rfl, lk, hcd⟩ := F.ex
  exact ⟨fun s us ws h1 h2 => .of_eq (h kV doc pm an cdv ct us ws h1 h2)⟩
theorem Vals.perm {vs : List V} {us : List Value} (r : Vals vs us) : ∀ (π : List Nat), Vals (permL π vs) (permL π us)
  | [] => .nil
  | i :: π => by
    have ih := Vals.perm r π
    unfold permL at ih ⊢
    simp only [List.filterMap_cons]
    cases e : vs[i]? with
    | none =>
      rw [Vals.none_of r e]
      exact ih
    | some v =>
      obtain ⟨u, h1, h2⟩ := r.get e
      rw [h1]
      exact .cons h2 ih
section
variable {k : Kn} {Hk F H : Hp} {σ : L2.St} {env : Env} {W : WX}
theorem RpAll.perm {vs : List V} {ds : List D} (r : RpAll k H vs ds) : ∀ (π : List Nat), RpAll k H (permL π vs) (permL π ds)
  | [] => .nil
  | i :: π => by
    have ih := RpAll.perm r π
    have hl := r.len
    unfold permL at ih ⊢
    simp only [List.filterMap_cons]
    cases e : ds[i]? with
    | none =>
      have : vs[i]? = none := by
        rw [List.getElem?_eq_none_iff] at e ⊢
        omega
      rw [this]
      exact ih
    | some d =>
      obtain ⟨v, h1, h2⟩ := r.get e
      rw [h1]
      exact .cons h2 ih
/-- f(.., k = v, ..): all is kept, then put in the parameters' order -/
def mCallKw (m : MF) (np : Nat) (π : List Nat) (ma mk : MA) : ME := fun env => R.bind (ma env) fun p => R.bind (mk p.2) fun q => match frzs q.2 (p.1 ++ q.1) with
  | some (ds, e) => if (permL π ds).length = np then callE e [] (m ((permL π ds).map .val)) else .stuck
  | none => .stuck
theorem kw_sp {Q : VK} {m : MF} {np : Nat} {π : List Nat} {vs zs : List V} {xs ys : List Vr} (w : Wl k Hk F H σ env (vs ++ zs) (xs ++ ys)) (h : WantE k W Hk F σ (match frzs env (xs ++ ys) with
    | some (ds, e) => if (permL π ds).length = np then callE e [] (m ((permL π ds).map .val)) else .stuck
    | none => .stuck) Q) : spM k.b (List.replicate np false) m (permL π (vs ++ zs)) H Q (fun cls d H => W cls d σ H) := by
  split at h
  · rename_i ds e hd
    split at h
    · rename_i hn
      obtain ⟨Hk1, ex1, w1, r1⟩ := w.frzs hd
      have h := WantE.mono h ex1
      have rp := r1.perm π
      have hl : (permL π (vs ++ zs)).length = np := by rw [rp.len, hn]
      obtain ⟨F2, w2, back⟩ := (show Wd k Hk1 F H ([] ++ σ) ([] ++ e) from w1).aside rfl
      refine ⟨by simpa using hl, Hk1, F2, (permL π ds).map .val, ?_, ?_⟩
      · have := (show Wd k Hk1 F2 H [] [] from w2).vals rp
        refine Wd.toB (by simpa using this) ?_
        unfold nfE
        rw [List.all_eq_true]
        intro x hx
        simp at hx
        obtain ⟨d, _, rfl⟩ := hx
        rfl
      · have hs : ∀ (n : Nat) (l : List V), selV (List.replicate n false) l = [] := by
          intro n
          induction n with
          | zero => intro l; cases l <;> rfl
          | succ n ih => intro l; cases l with
            | nil => rfl
            | cons v l => exact ih l
        rw [hs]
        generalize m ((permL π ds).map .val) = r at h
        cases r with
        | ok o io =>
          intro v Hk' H' ex w'
          simp only [callE] at h
          split at h
          · rename_i e2 hp
            cases io with
            | nil =>
              simp only [putB] at hp
              cases hp
              have := back Hk' H' [some v] [some o] ex w'.ofB
              exact h v Hk' H' ex (Wl.one this)
            | cons _ _ => simp [putB] at hp
          · exact h.elim
        | exc c fs io =>
          intro cls dd Hk' H' ex w' xc
          simp only [callE] at h
          split at h
          · rename_i e2 hp
            cases io with
            | nil =>
              simp only [putB] at hp
              cases hp
              have := back Hk' H' [] [] ex w'.ofB
              obtain ⟨C, c1, c2, c3⟩ := xc
              exact h cls dd Hk' H' ex this ⟨C, c1, c2, c3.imp id fun ⟨z, d, ps, a, b, c⟩ => ⟨z, d, ps, a, b, RpF.kn (k := k.b) (k' := k) rfl c⟩⟩
            | cons _ _ => simp [putB] at hp
          · exact h.elim
        | stuck => exact h.elim
    · exact h.elim
  · exact h.elim
end
section
variable {X : Cx} {G : Gn} {W : WX} {pos p : Pos} {e : Expr} {es : List Expr} {kws : List Keyword} {x : Str} {me : ME} {ma mk : MA}
abbrev PMK (X : Cx) (G : Gn) (W : WX) (kws : List Keyword) (m : MA) : Prop := PK X kws (tMA (mkK X.K G) W m)
theorem PK.imp {t t' : TA} (h : PK X kws t) (i : ∀ σ H Q, t' σ H Q → t σ H Q) : PK X kws t' := ⟨fun pos pins s σ H Q I q => h.run pos pins s σ H Q I (i σ H Q q)⟩
theorem k_nil : PMK X G W [] mNil := PK.imp pk_nil fun _ _ _ => tMA_nil
theorem k_cons {nm : Option Str} {kpos : Pos} (ha : PM X G W e me) (hr : PMK X G W kws mk) : PMK X G W (⟨nm, e, kpos⟩ :: kws) (mCons me mk) := PK.imp (pk_cons ha hr) fun _ _ _ => tMA_cons
theorem run_kw {pins : List (Addr × Obj)} {σ : L2.St} {H : Hp} {s : Shared} {Q : VK} {f : Addr} {fd : FuncData} {ps ks : List Str} {lv n np : Nat} {m : MF} {π : List Nat} {us ws : List Value} {vs zs : List V} (F : FnOk X.prog X.w X.K X.mg X.base (L2.CX X.prog X.w) lv f fd ps (spM (mkK X.K G).b (List.replicate np false) m)) (hr : Room lv X.A)
    (hb : KwB X.K fd ps n ks π) (tk : Takes X W) (I : Inv X pins σ H s) (r : Vals vs us) (rz : Vals zs ws) (h1 : vs.length = n) (h2 : zs.length = ks.length) (h : spM (mkK X.K G).b (List.replicate np false) m (permL π (vs ++ zs)) H Q (fun cls d H => W cls d σ H)) :
    wpAny (model X.prog X.w) X.A (call (.ref f) us (ks.zip ws)) (EP X pins σ Q) X.xe s := by
  have r2 := Vals.perm (r.append rz) π
  refine wpAny_call (codeAny_mono (F.run X.A X.stack s H ⟨us, ks.zip ws⟩ (permL π (us ++ ws)) (permL π (vs ++ zs)) Q _ hr I.env0 (hb.to s us ws (by rw [← r.length]; exact h1) (by rw [← rz.length]; exact h2)) r2 h) fun r s' hq => ?_)
  cases r with
  | error e => exact passAt tk σ pins H s e s' I hq
  | ok fl =>
    cases fl with
    | ret u => exact I.after hq
    | next => exact False.elim hq
    | brk => exact False.elim hq
    | cont => exact False.elim hq
theorem q_callK0 {f : Addr} {fd : FuncData} {ps ks : List Str} {lv np : Nat} {m : MF} {π : List Nat} (F : FnOk X.prog X.w X.K X.mg X.base (L2.CX X.prog X.w) lv f fd ps (spM (mkK X.K G).b (List.replicate np false) m)) (hr : Room lv X.A) (hg : Gl X x)
    (hm : X.mg x = some (.ref f)) (hk : PySem.W.keepIn X.K (.ref f) = true) (hb : KwB X.K fd ps 0 ks π) (tk : Takes X W) (hkw : PMK X G W kws mk) (hmk : ∀ env p, mk env = .ok p → p.1.length = ks.length)
    (hall : (backToKw pos (keywordEach kws X.env)).all (·.1.isSome) = true := by rfl) (hks : (backToKw pos (keywordEach kws X.env)).filterMap (·.1) = ks := by rfl) (hdb : (x == ("__debug__" : Str)) = false := by decide)
    (hpl : ((backTo pos (starEach [] X.env)).any (·.1) || (backToKw pos (keywordEach kws X.env)).any (·.1.isNone)) = false := by rfl) :
    PM X G W (.Call (.Name x p) [] kws pos) (mCallKw m np π mNil mk) := by
  refine ⟨fun pins s σ H Q I h => ?_⟩
  obtain ⟨Hk, F0, env, w, h⟩ := h
  refine wpAny_Call_Name_kw (ld_glob I hg hm ?_ hdb)
  have hA : tMA (mkK X.K G) W mk σ H (fun zs H1 => zs.length = ks.length ∧ spM (mkK X.K G).b (List.replicate np false) m (permL π ([] ++ zs)) H1 Q (fun cls d H => W cls d σ H)) := by
    have b := h.bad
    refine seqA (f := fun q => match frzs q.2 ([] ++ q.1) with
      | some (ds, e) => if (permL π ds).length = np then callE e [] (m ((permL π ds).map .val)) else .stuck
      | none => .stuck) (Wl.nil w) b.exc b.ns fun ys e1 ws Hk1 H1 m1 ex1 w1 => ?_
    unfold mCallKw at h
    have h : WantE (mkK X.K G) W Hk F0 σ (R.bind (mk env) fun q => match frzs q.2 ([] ++ q.1) with
      | some (ds, e) => if (permL π ds).length = np then callE e [] (m ((permL π ds).map .val)) else .stuck
      | none => .stuck) Q := h
    rw [m1] at h
    have h1 := WantE.mono h ex1
    rw [R.bind_ok] at h1
    refine ⟨by have := hmk env _ m1; rw [← this]; exact w1.len, kw_sp (vs := []) (xs := []) w1 h1⟩
  refine PySem.W.callWith_KW0 (h₀ := X.base) I.ok.mod.kin hk hall ?_ hpl
  refine thn (hkw.run pos pins s σ H _ I hA) fun ws s2 ⟨zs, H2, I2, rz, l2, q2⟩ => ⟨I2.kIn, ?_⟩
  rw [hks]
  exact run_kw (us := []) (vs := []) F hr hb tk I2 .nil rz rfl l2 q2
theorem q_callK {f : Addr} {fd : FuncData} {ps ks : List Str} {lv n np : Nat} {m : MF} {π : List Nat} (F : FnOk X.prog X.w X.K X.mg X.base (L2.CX X.prog X.w) lv f fd ps (spM (mkK X.K G).b (List.replicate np false) m)) (hr : Room lv X.A) (hg : Gl X x)
    (hm : X.mg x = some (.ref f)) (hk : PySem.W.keepIn X.K (.ref f) = true) (hb : KwB X.K fd ps n ks π) (tk : Takes X W) (ha : PMA X G W (e :: es) ma) (hkw : PMK X G W kws mk)
    (hma : ∀ env p, ma env = .ok p → p.1.length = n) (hmk : ∀ env p, mk env = .ok p → p.1.length = ks.length)
    (hall : (backToKw pos (keywordEach kws X.env)).all (·.1.isSome) = true := by rfl) (hks : (backToKw pos (keywordEach kws X.env)).filterMap (·.1) = ks := by rfl) (hdb : (x == ("__debug__" : Str)) = false := by decide)
    (he : starEach (e :: es) X.env = (false, eval e X.env) :: starEach es X.env := by rfl) (hpl : ((backTo pos (starEach (e :: es) X.env)).any (·.1) || (backToKw pos (keywordEach kws X.env)).any (·.1.isNone)) = false := by rfl) :
    PM X G W (.Call (.Name x p) (e :: es) kws pos) (mCallKw m np π ma mk) := by
  refine ⟨fun pins s σ H Q I h => ?_⟩
  obtain ⟨Hk, F0, env, w, h⟩ := h
  refine wpAny_Call_Name_kw (ld_glob I hg hm ?_ hdb)
  have hA : tMA (mkK X.K G) W ma σ H (fun vs H1 => tMA (mkK X.K G) W mk σ H1 fun zs H2 => vs.length = n ∧ zs.length = ks.length ∧ spM (mkK X.K G).b (List.replicate np false) m (permL π (vs ++ zs)) H2 Q (fun cls d H => W cls d σ H)) := by
    have b := h.bad
    refine seqA (Wl.nil w) b.exc b.ns fun xs e1 vs Hk1 H1 m1 ex1 w1 => ?_
    unfold mCallKw at h
    rw [m1] at h
    have h1 := WantE.mono h ex1
    rw [R.bind_ok] at h1
    have b := h1.bad
    refine seqA w1 b.exc b.ns fun ys e2 zs Hk2 H2 m2 ex2 w2 => ?_
    simp only at h1
    rw [m2] at h1
    have h2 := WantE.mono h1 ex2
    rw [R.bind_ok] at h2
    refine ⟨by have := hma env _ m1; rw [← this]; exact w1.len, ?_, kw_sp w2 h2⟩
    have l1 := w1.len
    have l2 := w2.len
    have l3 := hmk e1 _ m2
    simp only [List.nil_append, List.length_append] at l1 l2
    simp only at l3
    omega
  refine PySem.W.callWith_KW (h₀ := X.base) I.ok.mod.kin hk hall (thn (ha.run pos pins s σ H _ I hA) fun us s1 ⟨vs, H1, I1, r, q⟩ => ?_) hpl he
  refine thn (hkw.run pos pins s1 σ H1 _ I1 q) fun ws s2 ⟨zs, H2, I2, rz, l1, l2, q2⟩ => ⟨I2.kIn, ?_⟩
  rw [hks]
  exact run_kw F hr hb tk I2 r rz l1 l2 q2
end
theorem mNil_len : ∀ (env : Env) (p : List Vr × Env), mNil env = .ok p → p.1.length = 0 := fun env p h => by
  cases h
  rfl
theorem mCons_len {me : ME} {ms : MA} {n : Nat} (h : ∀ (env : Env) (p : List Vr × Env), ms env = .ok p → p.1.length = n) : ∀ (env : Env) (p : List Vr × Env), mCons me ms env = .ok p → p.1.length = n + 1 := fun env p e => by
  unfold mCons at e
  cases e1 : me env with
  | ok q =>
    rw [e1, R.bind_ok] at e
    cases e2 : ms q.2 with
    | ok r =>
      rw [e2, R.bind_ok] at e
      cases e
      have := h _ _ e2
      simp [this]
    | exc _ _ _ => rw [e2] at e; cases e
    | stuck => rw [e2] at e; cases e
  | exc _ _ _ => rw [e1] at e; cases e
  | stuck => rw [e1] at e; cases e
end SW

/-! what a def knows of its lambdas; defs whose code object is told; the end with tables -/
namespace SW
open PySem PySem.Spec L2 PyProof.Rows SWZ LamX NdefX

structure LamD where
  N : List Str
  ps : List Str
  fr : List Str
  js : List Nat
  me : ME
  lv : Nat
structure LamOk (X : Cx) (g : Str → Option Addr) (T : List NTab) (d : LamD) (f : Addr) (Hk : Hp) : Prop where
  ex : ∃ (params : Arguments) (scope : Scope) (body : Expr), LamK X params scope body f Hk ∧ NScope d.N d.ps d.fr scope ∧
    (∀ (q : Str) (cl : List (Str × Addr)) (pm cv ctv : Value) (us : List Value), us.length = d.ps.length → bindArgs (PySem.W.kla_fn "<lambda>" q params body scope cl pm cv ctv) ⟨us, []⟩ = pure (d.ps.zip us)) ∧
    (∀ (B : Hp) (c' : Addr) (A : Around) (outer : List PySem.Env) (s : Shared) (H : Hp) (E : XK), Room d.lv (A.deeper (envF (lamF X params scope c') f s.heap.objs.size)) →
      PM (ncx (L2.CX X.prog X.w) X.prog X.w X.K X.mg X.base d.N (lamF X params scope c') f A outer s H E) ⟨g, B, T, noL⟩ (fun cls d _ H => E cls d H) body d.me) ∧
    (∀ y ∈ scope.names, y.2 = .free → X.env.scope.names.lookup y.1 = some .cell ∨ X.env.scope.names.lookup y.1 = some .free) ∧ (∀ y ∈ d.fr, (y, NameKind.free) ∈ scope.names) ∧ d.js.map (fun j => X.N[j]?) = d.fr.map some
def lamL (X : Cx) (g : Str → Option Addr) (T : List NTab) (ds : List LamD) : Nat → Addr → Hp → Prop := fun id f Hk => ∃ d, ds[id]? = some d ∧ LamOk X g T d f Hk
/-- the functions that a call gets, by what their names captured -/
def closL (ds : List LamD) (cs : List (Option Nat)) : Env → Nat → Option MF := fun env n => match cs[n]? with
  | some (some id) => match ds[id]? with
    | some d => cloM d.N.length d.ps.length d.js (mRet d.me) env
    | none => none
  | _ => none
section
variable {X : Cx} {G : Gn} {W : WX} {pos p : Pos}
/-- lambda ..: .. -/
theorem q_lamD {nm : Nat → Nat → Str} {c P : Addr} {params : Arguments} {body : Expr} {scope : Scope} {ds : List LamD} (d : LamD) (id : Nat) (hG : G.L = lamL X G.g G.T ds) (hid : ds[id]? = some d) (TB : TabB X.base X.mg c P) (hcode : X.env.code = .ref c)
    (hm : (P, nm) ∈ G.T) (hu : ∀ p ∈ G.T, p.1 = P → p.2 = nm) (S : NScope d.N d.ps d.fr scope)
    (hb : ∀ (q : Str) (cl : List (Str × Addr)) (pm cv ctv : Value) (us : List Value), us.length = d.ps.length → bindArgs (PySem.W.kla_fn "<lambda>" q params body scope cl pm cv ctv) ⟨us, []⟩ = pure (d.ps.zip us))
    (hbody : ∀ (f : Addr) (B : Hp) (c' : Addr) (A : Around) (outer : List PySem.Env) (s : Shared) (H : Hp) (E : XK), Room d.lv (A.deeper (envF (lamF X params scope c') f s.heap.objs.size)) →
      PM (ncx (L2.CX X.prog X.w) X.prog X.w X.K X.mg X.base d.N (lamF X params scope c') f A outer s H E) ⟨G.g, B, G.T, noL⟩ (fun cls d _ H => E cls d H) body d.me)
    (hfree : ndefB X.env.scope scope d.fr = true) (hjs : d.js.map (fun j => X.N[j]?) = d.fr.map some) (hn : nm pos.line pos.col = X.env.qual ++ "<lambda>") (hdef : defaultsOf params X.env = ([], [])) : PM X G W (.Lambda params body scope pos) (mLam id d.js) :=
  q_lam id d.js (fun f Hk h => by rw [hG]; exact ⟨d, hid, ⟨params, scope, body, h, S, hb, hbody f, ndef_free hfree, ndef_fr hfree, hjs⟩⟩) TB hcode hm hn hu hdef (ndef_free hfree)
theorem Live.lv {P : Program} {w : World} {K : PySem.W.Frag} {mg : Str → Option Value} {base : Heap} {lv lv' : Nat} {k : Kn} {f : Addr} {ms : List Bool} {m : MF} {s : Shared} {H : Hp} (l : Live P w K mg base lv k f ms m s H) (h : lv ≤ lv') : Live P w K mg base lv' k f ms m s H :=
  let ⟨Γ, a, b⟩ := l; ⟨Γ, ⟨a.stay, a.fn, fun A outer s H us vs Q E hr => a.run A outer s H us vs Q E (hr.mono h)⟩, b⟩
theorem live_lamL {ds : List LamD} {cs : List (Option Nat)} {ar : Nat → Nat} {lc : Nat} (hG : G.L = lamL X G.g G.T ds) (har : ∀ n id d, cs[n]? = some (some id) → ds[id]? = some d → ar n = d.ps.length ∧ d.lv + 1 ≤ lc) {pins : List (Addr × Obj)} {s : Shared} {σ : L2.St} {H Hk F : Hp} {env : Env}
    (I : Inv X pins σ H s) (w : Wd (mkK X.K G) Hk F H σ env) (n id : Nat) (m : MF) (f : Addr) (h1 : cs[n]? = some (some id)) (h2 : closL ds cs env n = some m) (h3 : ∀ Hk', Ex Hk Hk' → G.L id f Hk') :
    Live X.prog X.w X.K X.mg X.base lc ⟨X.K, G.g, Hk, G.T, noL⟩ f (List.replicate (ar n) false) m s H := by
  have q := h3 Hk (Ex.refl _)
  rw [hG] at q
  obtain ⟨d, hd, params, scope, body, hk, S, hb, hbody, hfree, hfr, hjs⟩ := q
  obtain ⟨e1, e2⟩ := har n id d h1 hd
  unfold closL at h2
  rw [h1] at h2
  simp only at h2
  rw [hd] at h2
  simp only at h2
  rw [e1]
  exact (live_lam (G := G) S hb hbody hfree hfr hjs I w hk h2).lv e2
end
/-- a def at f, its code object told -/
structure FunC (K : PySem.W.Frag) (x qual : Str) (st : Stmt) (f : Addr) (fd : FuncData) (c : Addr) : Prop where
  ex : ∃ (oc : Value) (od : Option Addr) (kV doc pm : Value) (an : Option Addr) (ct : Value) (osl : Array (Option Value)), fd = PySem.W.fnOf x qual (defArgs st) (defBody st) (defScope st) .none kV doc pm an (.ref c) ct ∧ K.lookup f = some ⟨oc, od, .func fd, osl⟩ ∧ PySem.W.codeIn K (.ref c) qual = true
section
variable {P : Program} {w : World} {K : PySem.W.Frag} {mg : Str → Option Value} {base : Heap} {g : Str → Option Addr} {T : List NTab}
theorem FunC.okX {x qual : Str} {st : Stmt} {f c : Addr} {fd : FuncData} {N ps : List Str} {k : Nat} {sp : Sp} (F : FunC K x qual st f fd c) (S : FnScope N ps (defScope st)) (len : ∀ vs H Q E, sp vs H Q E → vs.length = ps.length)
    (hbody : ∀ (A : Around) (outer : List PySem.Env) (s : Shared) (H : Hp) (vs : List V) (Q : VK) (E : XK), Room k (A.deeper (envOfC qual (defScope st) s.heap.objs.size f (.ref c))) → sp vs H Q E →
      ∃ t, PSs (cxOf (L2.CX P w) P w K mg base N qual (defScope st) f (.ref c) A outer s H E) (defBody st) t ∧ t { nx := fun _ H' => Q .non H', rt := Q } (L2.start N vs) H) : FnOk P w K mg base (L2.CX P w) (k + 1) f fd ps sp := by
  obtain ⟨oc, od, kV, doc, pm, an, ct, osl, rfl, lk, hcd⟩ := F.ex
  exact fn_of lk hcd S len fun A outer s H vs Q E hr hsp => hbody A outer s H vs Q E hr hsp
end
/-- where a def's table lies -/
theorem tabIn_of {K : PySem.W.Frag} {x : Str} {f c P : Addr} {oc oq : Value} {od oda dq : Option Addr} {fd : FuncData} {osl sq : Array (Option Value)} {vq : Array Value} (a : PySem.W.nsIn K mainGlobals x = some (some (.ref f))) (l : K.lookup f = some ⟨oc, od, .func fd, osl⟩) (hc : fd.code = .ref c)
    (q : K.lookup c = some ⟨oq, dq, .fields vq, sq⟩) (h : vq[11]? = some (.ref P)) : PySem.W.tabIn K x = some (c, P) := by
  unfold PySem.W.tabIn
  rw [a]
  simp only
  rw [l]
  simp only
  rw [hc]
  simp only
  rw [q]
  simp only
  rw [h]
theorem noTab {K : PySem.W.Frag} {h : Heap} {P : Addr} (X : K.In h) (hn : PySem.W.noTabs K = true) (e : h.get? P = some (PySem.W.tabObj #[])) : K.lookup P = none := by
  cases q : K.lookup P with
  | none => rfl
  | some o =>
    have := X _ _ q
    rw [e] at this
    cases this
    have h2 := List.all_eq_true.mp hn (P, _) (PySem.W.mem_of_lookupK q)
    cases h2
theorem walk_T {l : PySem.W.OpenLaw} {n k : Nat} {q : Program} {loose : List Str} {XP : (Str → Option Value) → Heap → Prop} {YP : World → Heap → Prop} {d : DefRec} {K : Params → PySem.W.Frag} {CX : World → CXT} {x : Str}
    (hn : l.most = some n) (hn2 : n ≤ sizeLine) (hdf : d.params.defaults = []) (hr : Room k callerA) (hY : ∀ (w : World) (h : Heap), YP w h → (K w.params).In h)
    (F : ∀ (w : World) (s₀ : Shared) (mg mb : Str → Option Value) (fa : Addr) (h : Heap), PySem.W.Ground q loose [] XP w s₀ mg mb h → (K w.params).In h → h.Ns mainGlobals mg → mg d.name = some (.ref fa) → LawAtS l w (K w.params) (CX w) k n x mg fa h)
    (hCX : ∀ (w : World) (H : Hp) (s : Shared) (e : Value) (s' : Shared), CX w [] H s (fun _ _ _ => False) e s' → False) :
    PySem.W.WalkO q loose XP YP l.row.toRowW d [] (fun f vs => PySem.call f vs) := by
  refine Att.attach_callB hn hdf fun w s₀ s₁ mg mb fa o pm cd doc a vs ns G Y ho hd hcd hmg hobj hints hlen hbits hg => ?_
  have KX := hY w _ Y
  obtain ⟨fd, cs, sp, hT, nT, C, hb, hsp, hF⟩ := F w s₀ mg mb fa _ G KX G.T.g hmg
  exact law_callTs KX G.T.g G.T.b G.T.builtins G.T.nolimit hg hT nT C G.T.bmain hobj hints (Nat.le_trans hlen hn2) hr hF hb (fun H hH hS => hsp H a ns hlen hbits hH hS) fun H e s' => hCX w H s₁ e s'
end SW

/-! words: try; facts of classes -/
namespace SW
open PySem PySem.Spec L2 PyProof.Rows SWZ LamX NdefX

structure ExT (K : PySem.W.Frag) (g : Str → Option Addr) (cl : Value) (tab : List (Str × Bool)) : Prop where
  ok : ∀ c b C, tab.lookup c = some b → g c = some C → PySem.W.exmOne K (.ref C) cl = some b
theorem ExT.nil {K : PySem.W.Frag} {g : Str → Option Addr} {cl : Value} : ExT K g cl [] := ⟨fun c b C h => by simp at h⟩
theorem ExT.cons {K : PySem.W.Frag} {g : Str → Option Addr} {cl : Value} {c : Str} {b : Bool} {C : Addr} {tab : List (Str × Bool)} (hg : g c = some C) (h : PySem.W.exmOne K (.ref C) cl = some b) (r : ExT K g cl tab) : ExT K g cl ((c, b) :: tab) := ⟨fun c' b' C' h1 h2 => by
  rw [List.lookup_cons] at h1
  split at h1
  · rename_i z
    have z : c' = c := by simpa using z
    subst z
    cases h1
    rw [hg] at h2
    cases h2
    exact h
  · exact r.ok c' b' C' h1 h2⟩
section
variable {X : Cx} {G : Gn} {W : WX} {P : Pn} {pos pos' np p1 p2 p3 : Pos}
theorem z_tryKeep (tab : List (Str × Bool)) (i y : Nat) {n yn x : Str} {body : List Stmt} {mb : MS} {cl : Value} (hT : ExT X.K G.g cl tab) (hN : X.N.Nodup) (hpi : (P.ms[i]? == some true) = false) (hpy : (P.ms[y]? == some true) = false) (hc : Names X x cl) (tk : Takes X W)
    (hb : ∀ (W' : WX) (pn : List (Addr × Obj)) (xe : Value → Shared → Prop), Takes (X.tr pn xe) W' → PassesOwn (model X.prog X.w) X.A X.env xe → PMSs (X.tr pn xe) G W' P body mb)
    (hex : X.ex = [] := by rfl) (hs : X.stack = X.env :: X.outer := by rfl) (hf : X.env.frame = some X.env.locals := by rfl) (hi : X.N[i]? = some n := by rfl) (hln : X.env.kindOf n = some .local := by rfl) (hy : X.N[y]? = some yn := by rfl) (hx : Loc X.env.scope yn := by first | exact Or.inl rfl | exact Or.inr rfl)
    (hyf : X.fn yn = true ∨ X.env.scope.names.lookup yn = some .local := by first | exact .inl rfl | exact .inr rfl) (hd : (n == ("__debug__" : Str)) = false := by decide) (hcd : (n == ("__classdict__" : Str)) = false := by decide) (hsw : swapsWith (.Name n p2) (some (.Name yn p1)) p3.line X.env = pure false := by rfl) :
    PMS X G W P (.Try body [.ExceptHandler (some (.Name x np)) (some n) [.Assign [.Name yn p1] (.Name n p2) p3] pos'] [] [] pos) (mTryKeep (fun c => tab.lookup c) i y mb) :=
  SW.PS.imp (ps_try_keep (tb := fun W' => tMS (mkK X.K G) W' P mb) (ts := fun _ => tAsg (tVar i) (gName y)) hex hs hf hN hi hln hc tk hb (fun a oe pn => pss_one (ps_set (X := X.suite a ((a, oe) :: pn)) hN hy hx (pe_var (X := X.suite a ((a, oe) :: pn)) hi (Or.inl hln) hd hcd) hsw hyf)))
    fun D σ H h => tMS_tryKeep (k := mkK X.K G) (fun c C b h1 h2 => hT.ok c b C h2 h1) hpi hpy h
end
section
variable {K : PySem.W.Frag} {C D : Addr} {b : Bool}
theorem kit_own (hd : PySem.W.hasDictIn K C = true) (ht : PySem.W.typeIn K (.ref C) = some (.type "type")) (hs : PySem.W.subIn K (.ref D) (.ref C) = some b) (hn : b = true ∨ (Value.ref D == Value.ref C) = false) : PySem.W.kitOne K (.ref D) (.ref C) = some b := by
  obtain ⟨cd, hc, _⟩ := PySem.W.any_some hd
  have e2 : ((PySem.W.clsIn K C).isSome && PySem.W.typeIn K (.ref C) == some (.type "type")) = true := by rw [hc, ht] <;> rfl
  unfold PySem.W.kitOne
  split
  · rename_i z
    rcases hn with z' | z'
    · rw [z']
    · rw [z'] at z
      cases z
  · unfold PySem.W.kitCls
    simp only
    rw [if_pos e2]
    exact hs
theorem kit_blt {T : String} (hm : PySem.W.kitMeta T = true) (hs : PySem.W.subIn K (.ref D) (.type T) = some b) : PySem.W.kitOne K (.ref D) (.type T) = some b := by
  unfold PySem.W.kitOne
  rw [if_neg (by intro z; cases z)]
  unfold PySem.W.kitCls
  simp only
  rw [if_pos hm]
  exact hs
theorem any_nil {t : Value} : PySem.W.kitAny K t [] = some false := rfl
theorem any_cons {t c : Value} {r : List Value} {b d : Bool} (h : PySem.W.kitOne K t c = some b) (hr : PySem.W.kitAny K t r = some d) : PySem.W.kitAny K t (c :: r) = some (b || d) := by
  unfold PySem.W.kitAny
  rw [h]
  cases b with
  | true => rfl
  | false => exact hr
end
def harB (cs : List (Option Nat)) (ds : List LamD) (ar : Nat → Nat) (lc : Nat) : Bool := (List.range cs.length).all fun n => match cs[n]? with
  | some (some id) => match ds[id]? with
    | some d => ar n == d.ps.length && decide (d.lv + 1 ≤ lc)
    | none => true
  | _ => true
theorem har_by {cs : List (Option Nat)} {ds : List LamD} {ar : Nat → Nat} {lc : Nat} (h : harB cs ds ar lc = true) : ∀ n id d, cs[n]? = some (some id) → ds[id]? = some d → ar n = d.ps.length ∧ d.lv + 1 ≤ lc := fun n id d h1 h2 => by
  have hn : n < cs.length := (List.getElem?_eq_some_iff.mp h1).1
  have := List.all_eq_true.mp h n (List.mem_range.mpr hn)
  rw [h1] at this
  simp only at this
  rw [h2] at this
  simpa using this
section
variable {X : Cx} {G : Gn} {W : WX} {pos : Pos} {a : Expr} {ma : ME}
theorem q_neg (ha : PM X G W a ma) : PM X G W (.UnaryOp .USub a pos) (mOp1 fNeg ma) := (pe_un un_neg ha).imp fun _ _ _ => tM_op1 s_neg
end
end SW

namespace SW
open PySem L2
@[simp] theorem bind_exc' {α β : Type} (c : Str) (fs : List (Str × D)) (e : Env) (f : α → R β) : R.bind (.exc c fs e) f = .exc c fs e := rfl
@[simp] theorem sb_exc' {α : Type} (c : Str) (fs : List (Str × D)) (e : Env) (f : α → RS) : R.sb (.exc c fs e) f = .exc c fs e := rfl
@[simp] theorem callE_exc' (e : Env) (js : List Nat) (c : Str) (fs : List (Str × D)) (io : List O) : callE e js (.exc c fs io) = match putB e js io with
    | some e2 => .exc c fs e2
    | none => .stuck := rfl
@[simp] theorem endF_exc' (ms : List Bool) (c : Str) (fs : List (Str × D)) (e : Env) : endF ms (.exc c fs e) = match selO ms e with
    | some io => .exc c fs io
    | none => .stuck := rfl
@[simp] theorem mRaise_eq (c : Str) (e : Env) : mRaise c e = .exc c [] e := rfl
/-! ### small laws of mirrors, used as terms -/
theorem seq_nx {a b : MS} {e e1 : Env} {r : RS} (h1 : a e = .nx e1) (h2 : b e1 = r) : mSeq a b e = r := by
  rw [mSeq_eq, h1]
  exact h2
theorem for_nx {mi : MI} {t : Tg} {body : MS} {e e2 : Env} {ds : List D} (h1 : mi e = .ok (ds, e)) (h2 : forLoop t body ds e = .nx e2) : mFor mi t body e = .nx e2 := by
  rw [mFor_eq, h1, sb_ok']
  exact h2
theorem var_ok {env : Env} {i : Nat} {d : D} (h : env[i]? = some (some (.val d))) : mVar i env = .ok (.ob (.val d), env) := by
  simp [h]
theorem op2_ok {env : Env} {f : D → D → Option O} {m1 m2 : ME} {x y : D} {o : O} (h1 : m1 env = .ok (.ob (.val x), env)) (h2 : m2 env = .ok (.ob (.val y), env)) (h : f x y = some o) : mOp2 f m1 m2 env = .ok (.ob o, env) := by
  simp [h1, h2, h]
theorem cb1_ok {env : Env} {f : List D → Option O} {m1 : ME} {x : D} {o : O} (h1 : m1 env = .ok (.ob (.val x), env)) (h : f [x] = some o) : mCB f (mCons m1 mNil) env = .ok (.ob o, env) := by
  simp [h1, h]
theorem call1 {env : Env} {d1 : D} {o : O} {m1 : ME} (f : MF) (h1 : m1 env = .ok (.ob (.val d1), env)) (h : f [.val d1] = .ok o []) :
    mCall f [false] [] (mCons m1 mNil) env = .ok (.ob o, env) := by
  simp [h1, h]
theorem call2 {env : Env} {d1 d2 : D} {o : O} {m1 m2 : ME} (f : MF) (h1 : m1 env = .ok (.ob (.val d1), env)) (h2 : m2 env = .ok (.ob (.val d2), env)) (h : f [.val d1, .val d2] = .ok o []) :
    mCall f [false, false] [] (mCons m1 (mCons m2 mNil)) env = .ok (.ob o, env) := by
  simp [h1, h2, h]
theorem callm {env : Env} {d1 d2 d3 : D} {o : O} {m1 m2 m3 : ME} (f : MF) (h1 : m1 env = .ok (.ob (.val d1), env)) (h2 : m2 env = .ok (.ob (.val d2), env)) (h3 : m3 env = .ok (.ob (.val d3), env)) (h : f [.val d1, .val d2, .val d3] = .ok o []) :
    mCall f [false, false, false] [] (mCons m1 (mCons m2 (mCons m3 (mNil)))) env = .ok (.ob o, env) := by
  simp [h1, h2, h3, h]
/-- a call with the state -/
theorem callS1 {env e2 : Env} {s s2 : Sd} {o : O} {i : Nat} (f : MF) (hi : env[i]? = some (some (stO s))) (h : f [stO s] = .ok o [stO s2]) (he : env.set i (some (stO s2)) = e2) :
    mCall f [true] [] (mCons (mVar i) mNil) env = .ok (.ob o, e2) := by
  have hl : i < env.length := (List.getElem?_eq_some_iff.mp hi).1
  have hl2 : i < (env.set i none).length := by simpa using hl
  have h' : f [.st s.gs s.cs s.r s.t] = .ok o [.st s2.gs s2.cs s2.r s2.t] := h
  have hi' : env[i]? = some (some (.st s.gs s.cs s.r s.t)) := hi
  subst he
  simp only [mCall_eq, mCons_eq, mVar_eq, hi', mNil_eq, bind_ok, argsO_t, nf_st, argsO_nil, List.map_nil, List.append_nil, h', callE_ok]
  simp [hl]
theorem callS2 {env e2 : Env} {s s2 : Sd} {o : O} {i : Nat} {m : ME} {d : D} (f : MF) (hi : env[i]? = some (some (stO s))) (hm : m env = .ok (.ob (.val d), env)) (h : f [stO s, .val d] = .ok o [stO s2]) (he : env.set i (some (stO s2)) = e2) :
    mCall f [true, false] [] (mCons (mVar i) (mCons m mNil)) env = .ok (.ob o, e2) := by
  have hl : i < env.length := (List.getElem?_eq_some_iff.mp hi).1
  have h' : f [.st s.gs s.cs s.r s.t, .val d] = .ok o [.st s2.gs s2.cs s2.r s2.t] := h
  have hi' : env[i]? = some (some (.st s.gs s.cs s.r s.t)) := hi
  subst he
  simp only [mCall_eq, mCons_eq, mVar_eq, hi', mNil_eq, bind_ok, hm, argsO_t, argsO_f, frz1_ob, frz_val, Option.map, nf_st, argsO_nil, List.map_nil, List.append_nil, h', callE_ok]
  simp [hl]
theorem callS3 {env e2 : Env} {s s2 : Sd} {o : O} {i : Nat} {m m2 : ME} {d d2 : D} (f : MF) (hi : env[i]? = some (some (stO s))) (hm : m env = .ok (.ob (.val d), env)) (hm2 : m2 env = .ok (.ob (.val d2), env)) (h : f [stO s, .val d, .val d2] = .ok o [stO s2]) (he : env.set i (some (stO s2)) = e2) :
    mCall f [true, false, false] [] (mCons (mVar i) (mCons m (mCons m2 mNil))) env = .ok (.ob o, e2) := by
  have hl : i < env.length := (List.getElem?_eq_some_iff.mp hi).1
  have h' : f [.st s.gs s.cs s.r s.t, .val d, .val d2] = .ok o [.st s2.gs s2.cs s2.r s2.t] := h
  have hi' : env[i]? = some (some (.st s.gs s.cs s.r s.t)) := hi
  subst he
  simp only [mCall_eq, mCons_eq, mVar_eq, hi', mNil_eq, bind_ok, hm, hm2, argsO_t, argsO_f, frz1_ob, frz_val, Option.map, nf_st, argsO_nil, List.map_nil, List.append_nil, h', callE_ok]
  simp [hl]
/-- if .. : return False, where the test is false -/
theorem if_no {env e2 : Env} {mt : MT} {p : MS} (h : mt env = .ok (false, e2)) : mIfS mt p mNext env = .nx e2 := by
  simp [h]
theorem set_ok {env e2 : Env} {m : ME} {o : O} {i : Nat} (h : m env = .ok (.ob o, e2)) (hi : i < e2.length) : mSet i m env = .nx (e2.set i (some o)) := by
  simp [h, hi]
theorem ne_no {env : Env} {m1 m2 : ME} {x y : D} (h1 : m1 env = .ok (.ob (.val x), env)) (h2 : m2 env = .ok (.ob (.val y), env)) (h : fNe x y = some (.val (.bl false))) : mBool (mOp2 fNe m1 m2) env = .ok (false, env) := by
  simp [h1, h2, h]
theorem range_ok {env : Env} {me : ME} {n : Nat} (h : me env = .ok (.ob (.val (.int (n : Int))), env)) (hn : n ≤ 1000) : mRange1 (mCons me mNil) env = .ok ((List.range n).map fun j : Nat => D.int (j : Int), env) := by
  have hr : rng 0 n = (List.range n).map fun j : Nat => D.int (j : Int) := by simp [rng]
  have b1 : -1000000 ≤ (n : Int) ∧ (n : Int) ≤ 1000000 := by omega
  simp [h, b1, hr]
/-- for x in [m1, m2]: .. where both are alike -/
theorem for_two {env : Env} {d : D} {m1 m2 : ME} {body : MS} {i : Nat} (h1 : m1 env = .ok (.ob (.val d), env)) (h2 : m2 env = .ok (.ob (.val d), env)) (hi : i < env.length) (hb : body (env.set i (some (.val d))) = .nx (env.set i (some (.val d)))) :
    mFor (mItems (mLst (mCons m1 (mCons m2 mNil)))) (.nm i) body env = .nx (env.set i (some (.val d))) := by
  have l2 : 2 ≤ LIM := le_lim (by decide)
  simp [h1, h2, forLoop, hi, hb, l2]
theorem callk3 {env : Env} {d1 d2 d3 : D} {o : O} {m1 m2 m3 : ME} {os : List O} (f : MF) (π : List Nat) (hp : (permL π [d1, d2, d3]).map O.val = os) (hn : os.length = 3) (h1 : m1 env = .ok (.ob (.val d1), env)) (h2 : m2 env = .ok (.ob (.val d2), env)) (h3 : m3 env = .ok (.ob (.val d3), env)) (h : f os = .ok o []) :
    mCallKw f 3 π mNil (mCons m1 (mCons m2 (mCons m3 mNil))) env = .ok (.ob o, env) := by
  have hl : (permL π [d1, d2, d3]).length = 3 := by
    rw [← hn, ← hp, List.length_map]
  simp [mCallKw, h1, h2, h3, hl, hp, h]
/-! ### functions handed over -/
theorem frzSl_id : ∀ {env : Env} (js : List Nat), (∀ j ∈ js, ∃ d, env[j]? = some (some (.val d))) → frzSl env js = some env
  | env, [], _ => rfl
  | env, j :: js, h => by
    obtain ⟨d, hd⟩ := h j (by simp)
    have e : env.set j (some (.val d)) = env := by
      refine List.ext_getElem? fun n => ?_
      rw [List.getElem?_set]
      split
      · rename_i q
        subst q
        rw [if_pos (List.getElem?_eq_some_iff.mp hd).1, hd]
      · rfl
    unfold frzSl
    rw [hd]
    simp only [frz_val]
    rw [e]
    exact frzSl_id js fun j hj => h j (by simp [hj])
theorem callL1 {ds : List LamD} {mfc : (Nat → MF) → MF} {id : Nat} {d : LamD} {env cap : Env} {r : D} (hid : ds[id]? = some d) (hf : frzSl env d.js = some env) (hc : capOf env d.js = cap) (hok : capOk cap = true) (hp : d.ps = [])
    (h : ∀ c : Nat → MF, c 0 [] = endF [] (mRet d.me (cap ++ List.replicate (d.N.length - cap.length) none)) → mfc c [.fn 0] = .ok (.val r) []) :
    mCallC mfc (closL ds [some id]) [some id] [false] [] (mCons (mLam id d.js) mNil) env = .ok (.ob (.val r), env) := by
  have hcl : closL ds [some id] env 0 = some (mDefC d.N.length [] cap (mRet d.me)) := by
    unfold closL
    simp [hid, cloM, hc, hok, hp]
  have hcc := h (fun n => (closL ds [some id] env n).getD stuckF) (by
    rw [show (closL ds [some id] env 0).getD stuckF = mDefC d.N.length [] cap (mRet d.me) from by rw [hcl]; rfl]
    unfold mDefC
    rw [if_pos ⟨rfl, rfl⟩]
    simp)
  have h0 : closOk [some id] (closL ds [some id] env) = true := by
    simp [closOk, hcl]
  simp only [mCallC, mCons_eq, mNil_eq, mLam, hf, bind_ok, argsC, isFnV, if_true, h0, renum, List.append_nil, List.map_nil, hcc]
  rfl
/-- a lambda's own text: a call of three -/
theorem lam3 {env : Env} {d1 d2 d3 : D} {m1 m2 m3 : ME} {r : RF} (f : MF) (h1 : m1 env = .ok (.ob (.val d1), env)) (h2 : m2 env = .ok (.ob (.val d2), env)) (h3 : m3 env = .ok (.ob (.val d3), env)) (h : f [.val d1, .val d2, .val d3] = r) (hr : (∃ d, r = .ok (.val d) []) ∨ ∃ c, r = .exc c [] []) :
    endF [] (mRet (mCall f [false, false, false] [] (mCons m1 (mCons m2 (mCons m3 mNil)))) env) = r := by
  rcases hr with ⟨d, rfl⟩ | ⟨c, rfl⟩
  · simp [h1, h2, h3, h]
  · simp [h1, h2, h3, h, callE, endF]
/-! ### equal texts -/
theorem eqDs_strs : ∀ x y : List (List Nat), eqDs (x.map .str) (y.map .str) = decide (x = y)
  | [], [] => by simp [eqDs]
  | [], _ :: _ => by simp [eqDs]
  | _ :: _, [] => by simp [eqDs]
  | a :: x, b :: y => by
    simp only [List.map_cons, eqDs, eqD, eqDs_strs x y]
    rw [Bool.eq_iff_iff]
    simp
theorem plains_strs (n : Nat) : ∀ x : List (List Nat), plains (x.map .str) n = true
  | [] => rfl
  | a :: x => by simp [plains, plain, plains_strs n x]
theorem fEq_tups (x y : List (List Nat)) : fEq (.tup (x.map .str)) (.tup (y.map .str)) = some (.val (.bl (decide (x = y)))) := by
  simp [fEq, plain, plains_strs, eqD, eqDs_strs]
theorem fEq_lsts (x y : List (List Nat)) : fEq (.lst (x.map .str)) (.lst (y.map .str)) = some (.val (.bl (decide (x = y)))) := by
  simp [fEq, plain, plains_strs, eqD, eqDs_strs]
theorem fNe_tups (x y : List (List Nat)) : fNe (.tup (x.map .str)) (.tup (y.map .str)) = some (.val (.bl (!decide (x = y)))) := by
  simp [fNe, plain, plains_strs, eqD, eqDs_strs]
theorem fJoin_one (u : List Nat) (h : u.length ≤ 100000) : fJoin (.str []) (.lst (u.map fun c => .str [c])) = some (.val (.str u)) := by
  have hs : ((u.map fun c => [c]).map List.length).sum = u.length := by
    have : ∀ w : List Nat, ((w.map fun c => [c]).map List.length).sum = w.length := fun w => by
      induction w with
      | nil => rfl
      | cons c w ih => simp at ih ⊢; omega
    exact this u
  have hl : ((u.map fun c => [c]).map List.length).sum + (u.map fun c => [c]).length * ([] : List Nat).length ≤ LIM := by
    rw [hs]
    simp
    exact le_lim h
  unfold fJoin
  simp only [txts_one, join_one]
  rw [if_pos hl]
theorem reps_mem {α : Type} {n : Nat} {a : List α} {x : α} (h : x ∈ reps n a) : x ∈ a := by
  unfold reps at h
  obtain ⟨l, hl, hx⟩ := List.mem_flatten.mp h
  rw [(List.mem_replicate.mp hl).2] at hx
  exact hx
theorem mulS_ok {env : Env} {m1 m2 : ME} {x : List Nat} {n : Nat} (h1 : m1 env = .ok (.ob (.val (.str x)), env)) (h2 : m2 env = .ok (.ob (.val (.int (n : Int))), env)) (hl : x.length * n ≤ 100000) (hn : n ≤ 100000) : mOp2 fMul m1 m2 env = .ok (.ob (.val (.str (reps n x))), env) := by
  refine op2_ok h1 h2 ?_
  unfold fMul
  have : x.length * (n : Int).toNat ≤ LIM ∧ -1000000 ≤ (n : Int) ∧ (n : Int) ≤ 1000000 := ⟨by simpa using le_lim hl, by omega, by omega⟩
  simp only [if_pos this]
  simp
end SW

/-! instances: fields, making, methods -/
namespace SW
open PySem PySem.Spec L2 PyProof.Rows

/-! ### fields as data -/
theorem RpF.lookup {k : Kn} {H : Hp} {f : Str} {d : SW.D} : ∀ {ps : List (Str × V)} {fs : List (Str × SW.D)}, RpF k H ps fs → fs.lookup f = some d → ∃ v, ps.lookup f = some v ∧ Rp k H v d
  | _, _, .nil, e => by simp at e
  | (y, v) :: ps, (_, d') :: fs, .cons h r, e => by
    simp only [List.lookup_cons] at e ⊢
    cases q : (f == y) with
    | true =>
      rw [q] at e
      cases e
      exact ⟨v, rfl, h⟩
    | false =>
      rw [q] at e
      exact RpF.lookup r e
theorem RpF.lookup_none {k : Kn} {H : Hp} {f : Str} : ∀ {ps : List (Str × V)} {fs : List (Str × SW.D)}, RpF k H ps fs → fs.lookup f = none → ps.lookup f = none
  | _, _, .nil, e => rfl
  | (y, v) :: ps, (_, d') :: fs, .cons h r, e => by
    simp only [List.lookup_cons] at e ⊢
    cases q : (f == y) with
    | true => rw [q] at e; cases e
    | false =>
      rw [q] at e
      exact RpF.lookup_none r e
theorem RpF.len {k : Kn} {H : Hp} : ∀ {ps : List (Str × V)} {fs : List (Str × SW.D)}, RpF k H ps fs → ps.length = fs.length
  | _, _, .nil => rfl
  | _, _, .cons _ r => by simp [RpF.len r]
def putFD (f : Str) (d : SW.D) : List (Str × SW.D) → List (Str × SW.D)
  | [] => [(f, d)]
  | (g, x) :: r => if g = f then (g, d) :: r else (g, x) :: putFD f d r
theorem RpF.put {k : Kn} {H : Hp} {f : Str} {v : V} {d : SW.D} (hv : Rp k H v d) : ∀ {ps : List (Str × V)} {fs : List (Str × SW.D)}, RpF k H ps fs → RpF k H (putF f v ps) (putFD f d fs)
  | _, _, .nil => .cons hv .nil
  | (y, w) :: ps, (_, d') :: fs, .cons h r => by
    unfold putF putFD
    by_cases q : y = f
    · rw [if_pos q, if_pos q]
      exact .cons hv r
    · rw [if_neg q, if_neg q]
      exact .cons h (RpF.put hv r)

/-! ### o.f -/
def fFld (c f : Str) : SW.D → Option O
  | .ins c' fs => if c' = c then (fs.lookup f).map .val else none
  | _ => none
def rFld (K : PySem.W.Frag) (f : Str) : V → Hp → VK → Prop := fun x H1 Q => ∃ a C dx fs v, x = .ref a ∧ H1 a = some (.ins C dx fs) ∧ L2.Cls K C ∧ NoAttr K C f ∧ fs.lookup f = some v ∧ Q v H1
theorem s_fld {k : Kn} {c f : Str} {C : Addr} (g : k.G c = some C) (cl : L2.Cls k.K C) (na : NoAttr k.K C f) : UnS k (rFld k.K f) (fFld c f) := by
  intro Hk F H σ env x a o Q w ra e q
  unfold fFld at e
  split at e
  · rename_i c' fs
    split at e
    · rename_i hc
      subst hc
      obtain ⟨d, hl, rfl⟩ := Option.map_eq_some_iff.mp e
      obtain ⟨b, C', dx, ps, rfl, g', hH, rF⟩ := RpN.ins w.ex ra
      rw [g] at g'
      cases g'
      obtain ⟨v, lv, rv⟩ := rF.lookup hl
      exact ⟨b, C, dx, ps, v, rfl, hH, cl, na, lv, q v Hk H (Ex.refl _) (Wl.val w rv)⟩
    · cases e
  · cases e

/-! ### o.f = e, o one's own -/
def mFldSet (c : Str) (i : Nat) (f : Str) (m : ME) : MS := fun env => R.sb (m env) fun p => match frz1 p.2 p.1 with
  | some (d, e) => match e[i]? with
    | some (some (.ins c' fs)) => if c' = c ∧ fs.length < 1000 then .nx (e.set i (some (.ins c' (putFD f d fs)))) else .stuck
    | _ => .stuck
  | none => .stuck
section
variable {k : Kn} {W : WX} {Hk F H : Hp} {σ : L2.St} {env : Env} {Q : VK} {P : Pn} {D : Ends}
theorem tMS_fld {c f : Str} {i : Nat} {m : ME} {C : Addr} (g : k.G c = some C) (cl : L2.Cls k.K C) (na : NoAttr k.K C f) (h : tMS k W P (mFldSet c i f m) D σ H) : sFld k.K (tVar i) (tM k W m) f D σ H := by
  obtain ⟨Hk, F, env, w, p, h⟩ := h
  refine seqES w p h fun x e1 v Hk1 H1 ex1 w1 h1 => ?_
  simp only at h1
  split at h1
  · rename_i d e2 hx
    obtain ⟨Hk2, ex2, w2, r2⟩ := w1.frz1 hx
    split at h1
    · rename_i c' fs hi
      split at h1
      · rename_i hc
        obtain ⟨rfl, hl⟩ := hc
        obtain ⟨u0, hu0, w3⟩ := w2.base.take hi
        obtain ⟨l, ro⟩ := w3.top
        cases ro with
        | @ins a C' dx _ ps _ g' hH rF =>
          rw [g] at g'
          cases g'
          refine ⟨_, hu0, a, C, dx, ps, rfl, hH, cl, na, by rw [rF.len]; exact hl, ?_⟩
          have w4 : Wd k Hk2 F (upd H1 a (.ins C dx (putF f v ps))) (some (.ref a) :: σ) (some (.ins c' (putFD f d fs)) :: e2.set i none) := w3.mut fun l2 r2' n2 h2 => by
            cases r2' with
            | ins g2 hH2 rF2 =>
              rw [hH] at hH2
              cases hH2
              exact ⟨.ins g upd_same (rF2.put r2), fun b hb => upd_ne (by simpa using hb)⟩
          have hi' : i < e2.length := (List.getElem?_eq_some_iff.mp hi).1
          have w5 := w4.put (i := i) (by rw [List.getElem?_set_self hi']) hu0
          rw [List.set_set] at w5
          exact h1 σ Hk2 _ ex2 w5 p
      · exact h1.elim
    · exact h1.elim
  · exact h1.elim

/-! ### calls, by what is promised -/
theorem sel_vals {ds : List SW.D} {dvs : List V} : ∀ (ms : List Bool) (ws : List V), ws.length = ms.length → selV (ms ++ ds.map fun _ => false) (ws ++ dvs) = selV ms ws := by
  intro ms
  induction ms with
  | nil =>
    intro ws hw
    have : ws = [] := List.eq_nil_of_length_eq_zero hw
    subst this
    have : ∀ (dvs : List V) (ds : List SW.D), selV (ds.map fun _ => false) dvs = [] := by
      intro dvs
      induction dvs with
      | nil => intro ds; cases ds <;> rfl
      | cons v vs ih =>
        intro ds
        cases ds with
        | nil => rfl
        | cons d ds => exact ih ds
    exact this dvs ds
  | cons b ms ih =>
    intro ws hw
    cases ws with
    | nil => simp at hw
    | cons w ws =>
      have := ih ws (by simpa using hw)
      cases b with
      | true => simp [selV, this]
      | false => simp [selV, this]
theorem nf_vals {os : List O} {ds : List SW.D} (h : nfE (os.map some) = true) : nfE ((os ++ ds.map O.val).map some) = true := by
  unfold nfE at h ⊢
  rw [List.map_append, List.all_append, h, Bool.true_and, List.all_eq_true]
  intro x hx
  simp at hx
  obtain ⟨d, _, rfl⟩ := hx
  rfl
theorem call_sp {m : MF} {ms : List Bool} {ds : List SW.D} {dvs : List V} {ws : List V} {ys : List Vr} {e1 : Env} (hd : ∀ H, RpAll k H dvs ds) (w1 : Wl k Hk F H σ e1 ws ys) (h1 : WantE k W Hk F σ (match argsO ms ys e1 with
    | some (os, js, e) => callE e js (m (os ++ ds.map O.val))
    | none => .stuck) Q) : spM k.b (ms ++ ds.map fun _ => false) m (ws ++ dvs) H Q (fun cls d H => W cls d σ H) := by
  split at h1
  · rename_i os js e2 ha
    obtain ⟨Hk2, ex2, w2, l2, f2⟩ := argsO_ok w1 ha
    have h2 := WantE.mono h1 ex2
    have el : ws.length = os.length := by
      have hw := w1.base.len
      have := w2.len
      have he : e1.length = e2.length := argsO_len ha
      simp at this
      omega
    obtain ⟨F2, w3, back⟩ := w2.aside (by simpa using el)
    refine ⟨by simp [l2, (hd H).len], Hk2, F2, os ++ ds.map O.val, ?_, ?_⟩
    · refine Wd.toB ?_ (nf_vals (argsO_nf ha))
      rw [List.map_append, List.map_append]
      exact w3.vals (hd Hk2)
    rw [sel_vals ms ws l2]
    generalize m (os ++ ds.map O.val) = r at h2
    cases r with
    | ok o io =>
      intro v Hk' H' ex w'
      simp only [callE] at h2
      split at h2
      · rename_i e3 hp
        exact h2 v Hk' H' ex (Wl.one (putB_ok f2 hp (back Hk' H' _ _ ex w'.ofB)))
      · exact h2.elim
    | exc c fs io =>
      intro cls dd Hk' H' ex w' xc
      simp only [callE] at h2
      split at h2
      · rename_i e3 hp
        obtain ⟨C, c1, c2, c3⟩ := xc
        exact h2 cls dd Hk' H' ex (putB_ok f2 hp (back Hk' H' _ _ ex w'.ofB).nope (x := none)).drop ⟨C, c1, c2, c3.imp id fun ⟨z, d, ps, a, b, c⟩ => ⟨z, d, ps, a, b, RpF.kn (k := k.b) (k' := k) rfl c⟩⟩
      · exact h2.elim
    | stuck => exact h2.elim
  · exact h1.elim

/-! ### C(..) -/
def newE (e : Env) (js : List Nat) : RF → R (Vr × Env)
  | .ok (.val .non) (.ins c' fs :: io) => match putB e js io with
    | some e2 => .ok (.ob (.ins c' fs), e2)
    | none => .stuck
  | .exc x xs (_ :: io) => match putB e js io with
    | some e2 => .exc x xs e2
    | none => .stuck
  | _ => .stuck
def mNew (c : Str) (m : MF) (ms : List Bool) (ds : List SW.D) (ma : MA) : ME := fun env => R.bind (ma env) fun p => match argsO ms p.1 p.2 with
  | some (os, js, e) => newE e js (m (.ins c [] :: (os ++ ds.map O.val)))
  | none => .stuck
/-- what making one asks for -/
def NewSp (C : Addr) (sp : Sp) (vs : List V) (H : Hp) (Q : VK) (E : XK) : Prop := ∀ x dx, H x = none → H dx = none → dx ≠ x → sp (.ref x :: vs) (upd (upd H dx (.own x)) x (.ins C dx [])) (fun v H2 => v = .non ∧ Q (.ref x) H2) E
theorem new_sp {c : Str} {C : Addr} {m : MF} {ms : List Bool} {ds : List SW.D} {dvs : List V} {ws : List V} {ys : List Vr} {e1 : Env} (g : k.G c = some C) (hd : ∀ H, RpAll k H dvs ds) (w1 : Wl k Hk F H σ e1 ws ys) (h1 : WantE k W Hk F σ (match argsO ms ys e1 with
    | some (os, js, e) => newE e js (m (.ins c [] :: (os ++ ds.map O.val)))
    | none => .stuck) Q) : NewSp C (spM k.b ((true :: ms) ++ ds.map fun _ => false) m) (ws ++ dvs) H Q (fun cls d H => W cls d σ H) := by
  intro x dx hx hdx ne
  split at h1
  · rename_i os js e2 ha
    obtain ⟨Hk2, ex2, w2, l2, f2⟩ := argsO_ok w1 ha
    have h2 := WantE.mono h1 ex2
    have el : ws.length = os.length := by
      have hw := w1.base.len
      have := w2.len
      have he : e1.length = e2.length := argsO_len ha
      simp at this
      omega
    have hx1 : (upd H dx (.own x)) x = none := by rw [upd_ne (Ne.symm ne)]; exact hx
    have eH : Ex H (upd (upd H dx (.own x)) x (.ins C dx [])) := (Ex.new hdx).trans (Ex.new hx1)
    have w2' : Wd k Hk2 F (upd (upd H dx (.own x)) x (.ins C dx [])) ((some (V.ref x) :: ws.map some) ++ σ) ((some (O.ins c []) :: os.map some) ++ e2) :=
      w2.push eH (.ins g upd_same .nil) (by simp) (fun a h => by simp at h; subst h; exact hx)
    obtain ⟨F2, w3, back⟩ := w2'.aside (by simpa using el)
    refine ⟨by simp [l2, (hd H).len], Hk2, F2, .ins c [] :: (os ++ ds.map O.val), ?_, ?_⟩
    · refine Wd.toB ?_ (by
        have := nf_vals (ds := ds) (argsO_nf ha)
        simp only [nfE, List.map_cons, List.all_cons] at this ⊢
        rw [this]
        rfl)
      have := w3.vals (hd Hk2)
      simpa using this
    have es : selV (true :: ms ++ ds.map fun _ => false) (V.ref x :: (ws ++ dvs)) = V.ref x :: selV ms ws := by
      have := sel_vals (ds := ds) (dvs := dvs) ms ws l2
      show V.ref x :: selV (ms ++ ds.map fun _ => false) (ws ++ dvs) = _
      rw [this]
    rw [es]
    generalize m (.ins c [] :: (os ++ ds.map O.val)) = r at h2
    cases r with
    | ok o io =>
      intro v Hk' H' ex w'
      unfold newE at h2
      split at h2
      · rename_i c' fs io' e
        cases e
        split at h2
        · rename_i e3 hp
          have hv := w'.topV
          cases hv
          have w4 := (back Hk' H' _ _ ex w'.ofB.drop)
          exact ⟨rfl, h2 _ Hk' H' ex (Wl.one (putB_ok f2 hp w4))⟩
        · exact h2.elim
      · rename_i e
        cases e
      · exact h2.elim
    | exc cx fs io =>
      intro cls dd Hk' H' ex w' xc
      unfold newE at h2
      split at h2
      · rename_i e
        cases e
      · rename_i y io' e
        cases e
        split at h2
        · rename_i e3 hp
          obtain ⟨C', c1, c2, c3⟩ := xc
          have w4 := back Hk' H' _ _ ex w'.ofB
          exact h2 cls dd Hk' H' ex (putB_ok f2 hp w4).drop ⟨C', c1, c2, c3.imp id fun ⟨z, d, ps, a, b, c⟩ => ⟨z, d, ps, a, b, RpF.kn (k := k.b) (k' := k) rfl c⟩⟩
        · exact h2.elim
      · exact h2.elim
    | stuck => exact h2.elim
  · exact h1.elim

/-! ### o.m(..) -/
def mMeth (c nm : Str) (m : MF) (ms : List Bool) (ds : List SW.D) (mr : ME) (ma : MA) : ME := fun env => R.bind (mr env) fun p => match rd p.2 p.1 with
  | some (.ins c' fs) => if c' = c ∧ fs.lookup nm = none then R.bind (ma p.2) fun q => match argsO ms (p.1 :: q.1) q.2 with
    | some (os, js, e) => callE e js (m (os ++ ds.map O.val))
    | none => .stuck else .stuck
  | _ => .stuck
def tMethSD (C : Addr) (m : Str) (sp : Sp) (dvs : List V) (E : L2.St → XK) (ta : TE) (t : TA) : TE := fun σ H Q => ta σ H fun x H1 => ∃ a dx fs, x = .ref a ∧ H1 a = some (.ins C dx fs) ∧ fs.lookup m = none ∧
  t σ H1 fun vs H2 => sp (x :: (vs ++ dvs)) H2 Q (E σ)
theorem tM_meth {c nm : Str} {C : Addr} {m : MF} {ms : List Bool} {ds : List SW.D} {dvs : List V} {mr : ME} {ma : MA} (g : k.G c = some C) (hd : ∀ H, RpAll k H dvs ds) (h : tM k W (mMeth c nm m ms ds mr ma) σ H Q) :
    tMethSD C nm (spM k.b (ms ++ ds.map fun _ => false) m) dvs (fun σ cls d H => W cls d σ H) (tM k W mr) (tMA k W ma) σ H Q := by
  obtain ⟨Hk, F, env, w, h⟩ := h
  have b := h.bad
  refine seqE (Wl.nil w) b.exc b.ns fun x e1 v Hk1 H1 m1 ex1 w1 => ?_
  unfold mMeth at h
  rw [m1] at h
  have h1 := WantE.mono h ex1
  rw [R.bind_ok] at h1
  simp only at h1
  split at h1
  · rename_i c' fs hr
    split at h1
    · rename_i hc
      obtain ⟨rfl, hl⟩ := hc
      obtain ⟨a, C', dx, ps, rfl, g', hH, rF⟩ := RpN.ins w1.base.ex (w1.rdN (j := 0) rfl rfl hr)
      rw [g] at g'
      cases g'
      refine ⟨a, dx, ps, rfl, hH, rF.lookup_none hl, ?_⟩
      have b := h1.bad
      refine seqA w1 b.exc b.ns fun ys e2 ws Hk2 H2 m2 ex2 w2 => ?_
      rw [m2] at h1
      have h2 := WantE.mono h1 ex2
      rw [R.bind_ok] at h2
      exact call_sp hd w2 h2
    · exact h1.elim
  · exact h1.elim
end

section
variable {X : Cx} {k lv : Nat} {f C : Addr} {fd : FuncData} {ps : List Str} {sp : Sp} {dvs : List V} {ds : List Value} {E : L2.St → XK} {x m : Str} {p pos apos : Pos} {e o : Expr} {es : List Expr} {ta : TE} {t : TA} {CX : CXT}
theorem run_newS {σ : L2.St} {pins : List (Addr × Obj)} {H : Hp} {s : Shared} {Q : VK} {us : List Value} {vs : List V} (M : Mk X.K C f) (F : FnOk X.prog X.w X.K X.mg X.base CX lv f fd ps sp) (hr : Room (lv + 1) X.A) (hb : Binds X.K fd ps ds) (hd : Vals dvs ds)
    (hx : PassesAt CX X σ (E σ)) (I : Inv X pins σ H s) (r : Vals vs us) (h : NewSp C sp (vs ++ dvs) H Q (E σ)) : wpAny (model X.prog X.w) X.A (call (.ref C) us) (EP X pins σ Q) X.xe s := by
  have hq := h (s.heap.objs.size + 1) s.heap.objs.size (I.hok.fresh (Nat.le_succ _)) (I.hok.fresh (Nat.le_refl _)) (Nat.ne_of_lt (Nat.lt_succ_self _))
  have I2 := Inv.made (C := C) I
  have r2 : Vals (V.ref (s.heap.objs.size + 1) :: (vs ++ dvs)) (Value.ref (s.heap.objs.size + 1) :: (us ++ ds)) := .cons rfl (r.append hd)
  have hl : (Value.ref (s.heap.objs.size + 1) :: us ++ ds).length = ps.length := by
    have e := r2.length
    rw [F.len _ _ _ _ hq] at e
    exact e.symm
  refine wpAny_call (make_map (f := f) I.kIn M.makes M.init (beq_iff_eq.mp M.fn) (codeAny_mono (F.run _ X.stack _ _ ⟨Value.ref (s.heap.objs.size + 1) :: us, []⟩ (Value.ref (s.heap.objs.size + 1) :: (us ++ ds)) _ _ (E σ) (hr.make C us [])
    (I2.env0.make C us []) (hb _ (Value.ref (s.heap.objs.size + 1) :: us) I2.kIn hl) r2 hq) fun r s' hq' => ?_))
  cases r with
  | error e => exact hx pins _ _ e s' I2 hq'
  | ok fl =>
    cases fl with
    | ret u =>
      obtain ⟨v, H', I3, rv, ev, q3⟩ := I2.after hq'
      subst ev
      exact ⟨rv, ⟨V.ref (s.heap.objs.size + 1), H', I3, rfl, q3⟩⟩
    | next => exact False.elim hq'
    | brk => exact False.elim hq'
    | cont => exact False.elim hq'
def tNewS (C : Addr) (sp : Sp) (dvs : List V) (E : L2.St → XK) (t : TA) : TE := fun σ H Q => t σ H fun vs H1 => NewSp C sp (vs ++ dvs) H1 Q (E σ)
theorem pe_newS (M : Mk X.K C f) (F : FnOk X.prog X.w X.K X.mg X.base CX lv f fd ps sp) (hr : Room (lv + 1) X.A) (hg : Gl X x) (hm : X.mg x = some (.ref C)) (hb : Binds X.K fd ps ds) (hd : Vals dvs ds) (hx : ∀ σ, PassesAt CX X σ (E σ))
    (ha : PA X (e :: es) t) (hdb : (x == ("__debug__" : Str)) = false := by decide) (he : starEach (e :: es) X.env = (false, eval e X.env) :: starEach es X.env := by rfl) (hpl : (backTo pos (starEach es X.env)).any (·.1) = false := by rfl) :
    PE X (.Call (.Name x p) (e :: es) [] pos) (tNewS C sp dvs E t) := by
  refine ⟨fun pins s σ H Q I h => ?_⟩
  refine wpAny_Call_Name_kw (ld_glob I hg hm ?_ hdb)
  refine PySem.W.callWith_K (h₀ := X.base) I.ok.mod.kin M.kp (thn (ha.run pos pins s σ H _ I h) fun us s1 ⟨vs, H1, I1, r, q⟩ => ⟨I1.kIn, ?_⟩) he hpl
  exact run_newS M F hr hb hd (hx σ) I1 r q
theorem pe_methSD {pl : Sem Bool} (he : PE X o ta) (c : L2.Cls X.K C) (hm : Meth X.K C m f) (F : FnOk X.prog X.w X.K X.mg X.base CX lv f fd ps sp) (hr : Room lv X.A) (hb : Binds X.K fd ps ds) (hd : Vals dvs ds) (hx : ∀ σ, PassesAt CX X σ (E σ)) (ha : PA X (e :: es) t)
    (hst : starEach (e :: es) X.env = (false, eval e X.env) :: starEach es X.env := by rfl) (hpl : (backTo pos (starEach es X.env)).any (·.1) = false := by rfl)
    (ht : eval (.Call (.Attribute o m apos) (e :: es) [] pos) X.env = (do
      let ov ← eval o X.env
      standAt apos.atName
      let (f, first) ← holding [ov] (getMethod ov m pl)
      callWith pos f first (backTo pos (starEach (e :: es) X.env)) (backToKw pos (keywordEach [] X.env))) := by rfl) :
    PE X (.Call (.Attribute o m apos) (e :: es) [] pos) (tMethSD C m sp dvs E ta t) := by
  refine ⟨fun pins s σ H Q I h => ?_⟩
  refine PySem.W.methodCall_KW (pl := pl) (thn (he.run pins s σ H _ I h) fun u s1 ⟨x, H1, I1, rx, a, dx, fs, ex, ea, l, q⟩ => ?_) ht
  subst ex
  obtain rfl : u = Value.ref a := rx
  refine getmeth_ok I1 ea c hm l ?_
  refine PySem.W.callWith_K (first := [.ref a]) (h₀ := X.base) I.ok.mod.kin hm.kp (thn (ha.run pos pins s1 σ H1 _ I1 q) fun us s2 ⟨vs, H2, I2, r, q2⟩ => ⟨I2.kIn, ?_⟩) hst hpl
  exact run_fnSD (us := .ref a :: us) (vs := .ref a :: vs) F hr hb hd (hx σ) I2 (.cons rfl r) q2
theorem pe_methSD0 {pl : Sem Bool} (he : PE X o ta) (c : L2.Cls X.K C) (hm : Meth X.K C m f) (F : FnOk X.prog X.w X.K X.mg X.base CX lv f fd ps sp) (hr : Room lv X.A) (hb : Binds X.K fd ps ds) (hd : Vals dvs ds) (hx : ∀ σ, PassesAt CX X σ (E σ))
    (ht : eval (.Call (.Attribute o m apos) [] [] pos) X.env = (do
      let ov ← eval o X.env
      standAt apos.atName
      let (f, first) ← holding [ov] (getMethod ov m pl)
      callWith pos f first (backTo pos (starEach [] X.env)) (backToKw pos (keywordEach [] X.env))) := by rfl) :
    PE X (.Call (.Attribute o m apos) [] [] pos) (tMethSD C m sp dvs E ta tNil) := by
  refine ⟨fun pins s σ H Q I h => ?_⟩
  refine PySem.W.methodCall_KW (pl := pl) (thn (he.run pins s σ H _ I h) fun u s1 ⟨x, H1, I1, rx, a, dx, fs, ex, ea, l, q⟩ => ?_) ht
  subst ex
  obtain rfl : u = Value.ref a := rx
  refine getmeth_ok I1 ea c hm l ?_
  exact PySem.W.callWith_K0 (first := [.ref a]) I1.kIn hm.kp (run_fnSD (us := [.ref a]) (vs := [.ref a]) F hr hb hd (hx σ) I1 (.cons rfl .nil) q)
end
end SW

/-! sorted(text) -/
namespace SW
open PySem PySem.Spec L2 PyProof.Rows

theorem strsAre_of {x : List Nat} : ∀ {vs : List Value} {n : Nat}, (∀ (j : Nat) (v : Value), vs[j]? = some v → ∃ c u, x[n + j]? = some c ∧ v = .str ⟨#[c]⟩ u) → n + vs.length = x.length → StrsAre vs ((x.drop n).map fun c => S [c])
  | [], n, h, hl => by
    have : x.drop n = [] := List.drop_eq_nil_iff.mpr (by simp at hl; omega)
    rw [this]
    exact .nil
  | v :: vs, n, h, hl => by
    obtain ⟨c, u, h1, rfl⟩ := h 0 v rfl
    have hn : n < x.length := by simp at hl; omega
    have e : x.drop n = c :: x.drop (n + 1) := by
      rw [List.drop_eq_getElem_cons hn]
      have : x[n] = c := by
        have := List.getElem?_eq_getElem hn
        rw [Nat.add_zero] at h1
        rw [this] at h1
        exact Option.some.inj h1
      rw [this]
    rw [e]
    exact .cons _ _ (strsAre_of (n := n + 1) (fun j v hj => by
      have := h (j + 1) v (by simpa using hj)
      rw [show n + (j + 1) = n + 1 + j from by omega] at this
      exact this) (by simp at hl; omega))
theorem sorted_text {prog : Program} {w : World} {A : Around} {E : Value → Shared → Prop} {s : Shared} {Q : Value → Shared → Prop} (hh : A.handled = none) (x : Str) (t : Tok) (hsz : x.cps.size ≤ sizeLine)
    (h : ∀ (h' : Heap) (tk : Nat) (D : Addr) (out : Array Value) (ep : Nat) (ss' : List Str), (∀ b o, s.heap.get? b = some o → h'.get? b = some o) → s.heap.get? D = none → h'.get? D = some (seqObj "list" out ep) → StrsAre out.toList ss' →
      ss'.Perm (x.cps.toList.map fun c => S [c]) → sortedS ss' = true → Q (.ref D) { s with heap := h', toks := tk }) : wpAny (model prog w) A (call (.builtin "sorted") [.str x t]) Q E s := by
  refine Calls.call_function_entry kind_sorted plain_sorted entry_sorted (args_sorted1 _) ?_
  unfold Builtin.«sorted»
  refine wpAny_bind (m := checkCount "sorted" 1 1 _) (wpAny_pure ?_)
  refine wpAny_bind (wpAny_collect_str (A := A.in1) hh x t (fun s' acc hk hg hd hos hacc => ?_) hsz)
  have hl : acc.toList.length = x.cps.size := by rw [Array.length_toList]; exact hacc.1
  refine wpAny_bind (wpAny_newList ?_ (by rw [hl]; exact hsz))
  have hoL : (s'.heap.push (seqObj "list" acc.toList.toArray 0)).get? s'.heap.objs.size = some (seqObj "list" acc.toList.toArray 0) := Heap.get?_push_size _ rfl
  have hS : StrsAre acc.toList (x.cps.toList.map fun c => S [c]) := by
    have := strsAre_of (x := x.cps.toList) (vs := acc.toList) (n := 0) (fun j v hj => by
      obtain ⟨c, u, h1, h2⟩ := hacc.2 j v (by rw [← Array.getElem?_toList]; exact hj)
      exact ⟨c, u, by rw [Nat.zero_add, Array.getElem?_toList]; exact h1, h2⟩) (by rw [Nat.zero_add, hl]; simp)
    simpa using this
  have hL : acc.toList.length ≤ sizeLine := by rw [hl]; exact hsz
  refine wpAny_bind (wpAny_holding (wpAny_call_entry slot_list_sort ⟨_, hoL, rfl⟩ entry_list_sort (list_sort_treeKAny strKind_oneLt hoL hS.keysOf (fun v₁ v₂ rest e => keyKind_strs (by rw [← e]; exact hS)) hL fun st' a1 a2 => ⟨_, rfl, ?_⟩) (args_list_sort _)))
  obtain ⟨ss', h1, h2, h3⟩ := sorted_out_str hS a1 a2
  obtain ⟨ep, he⟩ := sortedHeap_at (out := (arrOf st').map (·.2)) hoL
  refine wpAny_pure ⟨_, rfl, ?_⟩
  obtain ⟨hp, g', d', tk', os'⟩ := s'
  have e1 : g' = s.gens := hg
  have e2 : d' = s.drawn := hd
  have e3 : os' = s.os := hos
  subst e1 e2 e3
  refine h _ tk' hp.objs.size _ ep ss' (fun b o hb => ?_) ?_ he h1 h2 h3
  · have hb' := hk b o hb
    have hlt := Heap.lt_size hb'
    rw [sortedHeap_old (Nat.ne_of_lt hlt) (by rw [size_push']; exact Nat.lt_succ_of_lt hlt)]
    exact Heap.get?_push_of_some _ hb'
  · cases q : s.heap.get? hp.objs.size with
    | none => rfl
    | some o =>
      have := Heap.lt_size (hk _ _ q)
      exact absurd this (Nat.lt_irrefl _)
def rSortedT : List V → Hp → VK → Prop := fun vs H Q => ∃ z : Str, vs = [V.str z] ∧ z.length ≤ sizeLine ∧
  ∀ (ys : List Str) (p : Addr), ys.Perm (z.cps.toList.map fun c => S [c]) → sortedS ys = true → H p = none → Q (.ref p) (upd H p (.lst (ys.map V.str)))
theorem cr_sortedT {X : Cx} (hc : X.calm = true) : CallR X (.builtin "sorted") rSortedT := by
  intro pins s σ H vs us Q I r h
  obtain ⟨z, rfl, hz, q⟩ := h
  cases r with
  | cons r1 rs =>
    cases rs
    obtain ⟨t, e⟩ := r1
    subst e
    refine sorted_text (I.ok.hd hc) z t hz fun h' tk D out ep ss' hk hD ho h1 h2 h3 => ?_
    have hlen : (ss'.map V.str).length ≤ sizeLine := by
      rw [List.length_map, h2.length_eq, List.length_map]
      simpa [Str.length] using hz
    have hn : H D = none := HOk.gone I.hok hD
    exact ⟨.ref _, upd H D (.lst (ss'.map V.str)), I.laidN hk hD hn ⟨hlen, out.toList, ep, vals_of_strs h1, ho⟩, rfl, q ss' D h2 h3 hn⟩
end SW

/-! words: instances, sorted of anything, isinstance of several, text.index, while -/
namespace SW
open PySem PySem.Spec L2 PyProof.Rows

/-! ### sorted -/
def fSortedX : List SW.D → Option O
  | [.str s] => if s.length ≤ LIM then some (.lst ((sortL (s.map fun c => [c])).map .str)) else none
  | ds => fSorted ds
def rSortedX (K : PySem.W.Frag) : List V → Hp → VK → Prop := fun vs H Q => rSortedA K vs H Q ∨ rSortedT vs H Q
theorem cr_sortedX {X : Cx} (hc : X.calm = true) : CallR X (.builtin "sorted") (rSortedX X.K) := CallR.or cr_sortedA (cr_sortedT hc)
theorem s_sortedX {k : Kn} : CallS k (rSortedX k.K) fSortedX := by
  intro Hk F H σ env vs ds o Q w rs e q
  unfold fSortedX at e
  split at e
  · rename_i s
    split at e
    · rename_i hl
      cases e
      obtain ⟨v, rfl, r⟩ := rs.one
      obtain ⟨rfl, hok⟩ := r.str
      have hsl : (S s).length = s.length := by simp [Str.length, S]
      refine .inr ⟨S s, rfl, by rw [hsl]; exact lim hl, fun ys p py sy hp => ?_⟩
      rw [S_cps] at py
      have e1 : ys.map (fun z => z.cps.toList) = sortL (s.map fun c => [c]) := by
        refine sort_unique ?_ (sortedS_pw ys sy) (sortL_sorted _)
        refine (py.map _).trans ?_
        rw [List.map_map]
        have : (s.map ((fun z : Str => z.cps.toList) ∘ fun c => S [c])) = s.map fun c => [c] := List.map_congr_left fun c _ => S_cps [c]
        rw [this]
        exact (sortL_perm _).symm
      have e2 : ys = (sortL (s.map fun c => [c])).map S := by
        rw [← e1, List.map_map, show (S ∘ fun z : Str => z.cps.toList) = id from funext fun a => S_toList a, List.map_id]
      subst e2
      refine q _ Hk _ (Ex.refl _) (Wl.newL w hp (rp_strs fun t ht => ?_))
      obtain ⟨c, hc, rfl⟩ := List.mem_map.mp ((sortL_perm _).mem_iff.mp ht)
      exact okS_sub hok (by simpa using hc)
    · cases e
  · exact .inl (s_sorted w rs e q)

/-! ### isinstance(x, (int, str)) -/
def mIsiT (Ts : List String) (m : ME) : ME := fun env => R.bind (m env) fun p => match (rd p.2 p.1).bind tyD with
  | some t => .ok (.ob (.val (.bl (Ts.any fun T => isTy t T))), p.2)
  | none => .stuck
theorem kitAny_ty {K : PySem.W.Frag} {t : String} (ht : t ∈ tys) : ∀ {Ts : List String}, (∀ T ∈ Ts, T ∈ ["bool", "int", "str", "list", "tuple", "dict"]) → PySem.W.kitAny K (.type t) (Ts.map Value.type) = some (Ts.any fun T => isTy t T)
  | [], _ => kitAny_nil
  | T :: Ts, h => by
    have h1 : kitB t T = some (isTy t T) := of_decide_eq_true (List.all_eq_true.mp (List.all_eq_true.mp kit_tab t ht) T (h T (by simp)))
    have h2 := kitAny_ty (K := K) ht (Ts := Ts) fun T hT => h T (by simp [hT])
    refine kitAny_cons (kit_ty h1) (fun hb => ?_) (fun hb => ?_)
    · rw [h2, List.any_cons, hb, Bool.false_or]
    · rw [List.any_cons, hb, Bool.true_or]
theorem clsV_ty : ∀ Ts : List String, Paired ClsV (Ts.map V.ty) (Ts.map Value.type)
  | [] => .nil
  | T :: Ts => .cons (.ty T) (clsV_ty Ts)
theorem tM_isiT {k : Kn} {W : WX} {σ : L2.St} {H : Hp} {Q : VK} {Ts : List String} {m : ME} (hT : ∀ T ∈ Ts, T ∈ ["bool", "int", "str", "list", "tuple", "dict"]) (hl : Ts.length ≤ 1000) (h : tM k W (mIsiT Ts m) σ H Q) : tCB (rIsiT k.K) (tCons (tM k W m) (tCons (tTup (tCs (Ts.map V.ty))) tNil)) σ H Q := by
  obtain ⟨Hk, F, env, w, h⟩ := h
  have b := h.bad
  refine seqE (Wl.nil w) b.exc b.ns fun x e1 v Hk1 H1 m1 ex1 w1 => ?_
  unfold mIsiT at h
  rw [m1] at h
  have h1 := WantE.mono h ex1
  rw [R.bind_ok] at h1
  simp only at h1
  have w1 : Wl k Hk1 F H1 σ e1 [v] [x] := w1
  refine ⟨by rw [List.length_map]; exact Nat.le_trans hl (by decide), fun tp hp => ?_⟩
  split at h1
  · rename_i t ht
    obtain ⟨d, hd, ht⟩ := Option.bind_eq_some_iff.mp ht
    have w2 := w1.base.grow (Ex.new (o := .tup (Ts.map V.ty)) hp)
    have ty := tyX w1.base.ex (w1.rdN (j := 0) rfl rfl hd) ht
    have w1' : Wl k Hk1 F (upd H1 tp (.tup (Ts.map V.ty))) σ e1 [v] [x] := ⟨w1.len, w1.w.grow (Ex.new hp), w1.sl⟩
    exact ⟨v, tp, _, .type t, _, _, rfl, upd_same, clsV_ty Ts, tyX w2.ex (w1'.rdN (j := 0) rfl rfl hd) ht, kitAny_ty (tyD_mem ht) hT, h1 _ Hk1 _ (Ex.refl _) (Wl.val w2 (.bl _))⟩
  · exact h1.elim

/-! ### text.index(sign) -/
def fSIndex (x : SW.D) (as : List SW.D) : Option O := match x, as with
  | .str a, [.str b] => match Builtin.Str.occurrences (S a) (S b) 0 (S a).length 1 with
    | i :: _ => some (.val (.int (i : Nat)))
    | [] => none
  | _, _ => none
theorem s_sindex {k : Kn} : MtS k (fun x xs H Q => ∃ a b i rest, x = .str a ∧ xs = [.str b] ∧ Builtin.Str.occurrences a b 0 a.length 1 = i :: rest ∧ Q (.int (i : Nat)) H) fSIndex := by
  intro Hk F H σ env x a vs ds o Q w ra rs e q
  unfold fSIndex at e
  split at e
  · rename_i a1 b1
    split at e
    · rename_i i rest ho
      cases e
      obtain ⟨v, rfl, rv⟩ := rs.one
      exact ⟨S a1, S b1, i, rest, ra.str.1, by rw [rv.str.1], ho, q _ Hk H (Ex.refl _) (Wl.val w (.int _))⟩
    · cases e
  · cases e

/-! ### while -/
def whileLoop (t : MT) (body : MS) : Nat → Env → RS
  | 0, _ => .stuck
  | n + 1, env => R.sb (t env) fun p => if p.1 = true then (match body p.2 with
    | .nx e => whileLoop t body n e
    | .ct e => whileLoop t body n e
    | .bk e => .nx e
    | r => r) else .nx p.2
def mWhile (n : Nat) (t : MT) (body : MS) : MS := whileLoop t body n
section
variable {k : Kn} {W : WX} {Hk F H : Hp} {σ : L2.St} {env : Env} {Q : VK} {P : Pn} {D : Ends}
theorem tMS_while {n : Nat} {t : MT} {body : MS} (h : tMS k W P (mWhile n t body) D σ H) : tWhile (tMT k W t) (tMS k W P body) D σ H := by
  obtain ⟨Hk, F, env, w, p, h⟩ := h
  refine ⟨fun m σ H => ∃ Hk1 env, Ex Hk Hk1 ∧ Wd k Hk1 F H σ env ∧ P.In σ ∧ WantS k W P Hk1 F D (whileLoop t body m env), ⟨n, Hk, env, Ex.refl _, w, p, h⟩, ?_⟩
  rintro m σ H ⟨Hk1, env, ex1, w, p, h⟩
  cases m with
  | zero => exact h.elim
  | succ m =>
    refine seqTS w p h fun b e' Hk2 H2 ex2 w2 h2 => ?_
    cases b with
    | false => exact h2 σ Hk2 H2 (Ex.refl _) w2 p
    | true =>
      simp only [if_true] at h2
      refine ⟨fun σ' H' => ∃ Hk3 env, Ex Hk Hk3 ∧ Wd k Hk3 F H' σ' env ∧ P.In σ' ∧ WantS k W P Hk3 F D (whileLoop t body m env), fun σ' H' h => ⟨m, Nat.lt_succ_self _, h⟩, Hk2, F, e', w2, p, ?_⟩
      generalize body e' = r at h2
      cases r with
      | nx e => exact fun σ' Hk' H' ex w' p' => ⟨Hk', e, (ex1.trans ex2).trans ex, w', p', WantS.mono h2 ex⟩
      | ct e => exact fun σ' Hk' H' ex w' p' => ⟨Hk', e, (ex1.trans ex2).trans ex, w', p', WantS.mono h2 ex⟩
      | bk e => exact h2
      | rt x e => exact h2
      | exc c fs e => exact h2
      | stuck => exact h2
theorem tM_new {c : Str} {C : Addr} {m : MF} {ms : List Bool} {ds : List SW.D} {dvs : List V} {ma : MA} (g : k.G c = some C) (hd : ∀ H, RpAll k H dvs ds) (h : tM k W (mNew c m ms ds ma) σ H Q) :
    tNewS C (spM k.b ((true :: ms) ++ ds.map fun _ => false) m) dvs (fun σ cls d H => W cls d σ H) (tMA k W ma) σ H Q := by
  obtain ⟨Hk, F, env, w, h⟩ := h
  have b := h.bad
  refine seqA (Wl.nil w) b.exc b.ns fun ys e1 ws Hk1 H1 m1 ex1 w1 => ?_
  unfold mNew at h
  rw [m1] at h
  have h1 := WantE.mono h ex1
  rw [R.bind_ok] at h1
  exact new_sp g hd w1 h1
theorem tM_meth0 {c nm : Str} {C : Addr} {m : MF} {ms : List Bool} {ds : List SW.D} {dvs : List V} {mr : ME} (g : k.G c = some C) (hd : ∀ H, RpAll k H dvs ds) (h : tM k W (mMeth c nm m ms ds mr mNil) σ H Q) :
    tMethSD C nm (spM k.b (ms ++ ds.map fun _ => false) m) dvs (fun σ cls d H => W cls d σ H) (tM k W mr) tNil σ H Q := by
  obtain ⟨Hk, F, env, w, h⟩ := h
  have b := h.bad
  refine seqE (Wl.nil w) b.exc b.ns fun x e1 v Hk1 H1 m1 ex1 w1 => ?_
  unfold mMeth at h
  rw [m1] at h
  have h1 := WantE.mono h ex1
  rw [R.bind_ok] at h1
  simp only at h1
  split at h1
  · rename_i c' fs hr
    split at h1
    · rename_i hc
      obtain ⟨rfl, hl⟩ := hc
      obtain ⟨a, C', dx, ps, rfl, g', hH, rF⟩ := RpN.ins w1.base.ex (w1.rdN (j := 0) rfl rfl hr)
      rw [g] at g'
      cases g'
      refine ⟨a, dx, ps, rfl, hH, rF.lookup_none hl, ?_⟩
      rw [show mNil e1 = .ok ([], e1) from rfl, R.bind_ok] at h1
      exact call_sp (ws := [V.ref a]) (ys := [x]) hd w1 h1
    · exact h1.elim
  · exact h1.elim
end
section
variable {X : Cx} {G : Gn} {W : WX} {P : Pn} {pos p pos' apos : Pos} {e o : Expr} {es : List Expr} {kws : List Keyword} {x m : Str} {me mo : ME} {ma mk : MA} {body : List Stmt} {t : MT} {mb : MS}
theorem q_fld {c f : Str} {C : Addr} (g : G.g c = some C) (cl : L2.Cls X.K C) (na : NoAttr X.K C f) (ha : PM X G W e me) (hb : attributeBase e f X.env (eval e X.env) = eval e X.env := by rfl) : PM X G W (.Attribute e f pos) (mOp1 (fFld c f) me) :=
  (pe_fld ha hb).imp fun _ _ _ h => tM_op1 (s_fld (k := mkK X.K G) g cl na) h
theorem z_fld {c f : Str} {C : Addr} (i : Nat) (g : G.g c = some C) (cl : L2.Cls X.K C) (na : NoAttr X.K C f) (hv : PM X G W e me) (hN : X.N[i]? = some x := by rfl) (hvx : Vis X.env.scope x := by first | exact Or.inl rfl | exact Or.inr (Or.inl rfl) | exact Or.inr (Or.inr rfl)) (hd : (x == ("__debug__" : Str)) = false := by decide)
    (hcd : (x == ("__classdict__" : Str)) = false := by decide) (hs : swapsWith e (some (.Attribute (.Name x p) f pos')) pos.line X.env = pure false := by rfl) : PMS X G W P (.Assign [.Attribute (.Name x p) f pos'] e pos) (mFldSet c i f me) :=
  (ps_fld (pe_var hN hvx hd hcd) hv hs).imp fun _ _ _ => tMS_fld g cl na
theorem z_while (n : Nat) (hp : PassesOwn (model X.prog X.w) X.A X.env X.xe) (ht : PMT X G W e t) (hb : PMSs X G W P body mb) : PMS X G W P (.While e body [] pos) (mWhile n t mb) := (ps_while hp ht hb).imp fun _ _ _ => tMS_while
theorem q_sorted {dvs : List Expr} {p : Pos} (hc : X.calm = true) (hg : Gl X "sorted") (hm : X.mg "sorted" = none) (ha : PMA X G W (e :: es) ma)
    (he : starEach (e :: es) X.env = (false, eval e X.env) :: starEach es X.env := by rfl) (hpl : (backTo pos (starEach es X.env)).any (·.1) = false := by rfl) : PM X G W (.Call (.Name "sorted" p) (e :: es) [] pos) (mCB fSortedX ma) :=
  (pe_callB (cr_sortedX hc) hg hm (by decide +kernel) ha (by decide) (by decide) he hpl).imp fun _ _ _ h => tM_cb (k := mkK X.K G) s_sortedX h
theorem q_isiT {Ts : List String} {p p2 : Pos} {x1} (hg : Gl X "isinstance") (hm : X.mg "isinstance" = none) (hy : PA X es (tCs (Ts.map V.ty))) (hT : ∀ T ∈ Ts, T ∈ ["bool", "int", "str", "list", "tuple", "dict"]) (hl : Ts.length ≤ 1000) (ha : PM X G W e me)
    (hs : starEach [e, .Tuple es x1 p2] X.env = (false, eval e X.env) :: starEach [.Tuple es x1 p2] X.env := by rfl) (hpl : (backTo pos (starEach [.Tuple es x1 p2] X.env)).any (·.1) = false := by rfl) : PM X G W (.Call (.Name "isinstance" p) [e, .Tuple es x1 p2] [] pos) (mIsiT Ts me) :=
  (pe_callB call_isiT hg hm (by decide +kernel) (pa_cons ha (pa_cons (pe_tup hy) pa_nil) hs) (by decide) (by decide) hs hpl).imp fun _ _ _ h => tM_isiT (k := mkK X.K G) hT hl h
theorem q_sindex {apos : Pos} (ho : PM X G W o mo) (ha : PMA X G W (e :: es) ma)
    (hbase : attributeBase o "index" X.env (eval o X.env) = eval o X.env := by rfl)
    (hfew : ((backTo pos (starEach (e :: es) X.env)).all (fun x => !x.1) && (backToKw pos (keywordEach [] X.env)).all (fun x => x.1.isSome)
      && decide ((e :: es).length + ([] : List Keyword).length + (if ([] : List Keyword).isEmpty then 0 else 1) < 30)) = true := by rfl)
    (hline : (apos.endLine == pos.line) = true := by rfl) (hs : starEach (e :: es) X.env = (false, eval e X.env) :: starEach es X.env := by rfl) (hplain : (backTo pos (starEach es X.env)).any (·.1) = false := by rfl) :
    PM X G W (.Call (.Attribute o "index" apos) (e :: es) [] pos) (mBM "str" fSIndex mo ma) := q_bm PySem.F.plainAttrs_str PySem.F.slot_str_index PySem.F.type_str_index mt_sindex s_sindex (.inr (.inl rfl)) ho ha hbase hfew hline hs hplain
theorem q_new {f C : Addr} {fd : FuncData} {ps : List Str} {c : Str} {lv : Nat} {mf : MF} {dvs : List V} {dsV : List Value} (ms : List Bool) (ds : List SW.D) (M : Mk X.K C f) (F : FnOk X.prog X.w X.K X.mg X.base (L2.CX X.prog X.w) lv f fd ps (spM (mkK X.K G).b ((true :: ms) ++ ds.map fun _ => false) mf)) (hr : Room (lv + 1) X.A) (hg : Gl X x)
    (hm : X.mg x = some (.ref C)) (hG : G.g c = some C) (hb : Binds X.K fd ps dsV) (hd : Vals dvs dsV) (hD : ∀ H, RpAll (mkK X.K G) H dvs ds) (tk : Takes X W) (ha : PMA X G W (e :: es) ma)
    (hdb : (x == ("__debug__" : Str)) = false := by decide) (he : starEach (e :: es) X.env = (false, eval e X.env) :: starEach es X.env := by rfl) (hpl : (backTo pos (starEach es X.env)).any (·.1) = false := by rfl) :
    PM X G W (.Call (.Name x p) (e :: es) [] pos) (mNew c mf ms ds ma) := (pe_newS M F hr hg hm hb hd (fun σ => passAt tk σ) ha hdb he hpl).imp fun _ _ _ h => tM_new (k := mkK X.K G) hG hD h
theorem q_meth {f C : Addr} {fd : FuncData} {ps : List Str} {c : Str} {lv : Nat} {mf : MF} {dvs : List V} {dsV : List Value} {pl : Sem Bool} (ms : List Bool) (ds : List SW.D) (cl : L2.Cls X.K C) (hM : Meth X.K C m f) (F : FnOk X.prog X.w X.K X.mg X.base (L2.CX X.prog X.w) lv f fd ps (spM (mkK X.K G).b (ms ++ ds.map fun _ => false) mf)) (hr : Room lv X.A)
    (hG : G.g c = some C) (hb : Binds X.K fd ps dsV) (hd : Vals dvs dsV) (hD : ∀ H, RpAll (mkK X.K G) H dvs ds) (tk : Takes X W) (ho : PM X G W o mo) (ha : PMA X G W (e :: es) ma)
    (hst : starEach (e :: es) X.env = (false, eval e X.env) :: starEach es X.env := by rfl) (hpl : (backTo pos (starEach es X.env)).any (·.1) = false := by rfl)
    (ht : eval (.Call (.Attribute o m apos) (e :: es) [] pos) X.env = (do
      let ov ← eval o X.env
      standAt apos.atName
      let (f, first) ← holding [ov] (getMethod ov m pl)
      callWith pos f first (backTo pos (starEach (e :: es) X.env)) (backToKw pos (keywordEach [] X.env))) := by rfl) :
    PM X G W (.Call (.Attribute o m apos) (e :: es) [] pos) (mMeth c m mf ms ds mo ma) := (pe_methSD ho cl hM F hr hb hd (fun σ => passAt tk σ) ha hst hpl ht).imp fun _ _ _ h => tM_meth (k := mkK X.K G) hG hD h
theorem q_meth0 {f C : Addr} {fd : FuncData} {ps : List Str} {c : Str} {lv : Nat} {mf : MF} {dvs : List V} {dsV : List Value} {pl : Sem Bool} (ms : List Bool) (ds : List SW.D) (cl : L2.Cls X.K C) (hM : Meth X.K C m f) (F : FnOk X.prog X.w X.K X.mg X.base (L2.CX X.prog X.w) lv f fd ps (spM (mkK X.K G).b (ms ++ ds.map fun _ => false) mf)) (hr : Room lv X.A)
    (hG : G.g c = some C) (hb : Binds X.K fd ps dsV) (hd : Vals dvs dsV) (hD : ∀ H, RpAll (mkK X.K G) H dvs ds) (tk : Takes X W) (ho : PM X G W o mo)
    (ht : eval (.Call (.Attribute o m apos) [] [] pos) X.env = (do
      let ov ← eval o X.env
      standAt apos.atName
      let (f, first) ← holding [ov] (getMethod ov m pl)
      callWith pos f first (backTo pos (starEach [] X.env)) (backToKw pos (keywordEach [] X.env))) := by rfl) :
    PM X G W (.Call (.Attribute o m apos) [] [] pos) (mMeth c m mf ms ds mo mNil) := (pe_methSD0 ho cl hM F hr hb hd (fun σ => passAt tk σ) ht).imp fun _ _ _ h => tM_meth0 (k := mkK X.K G) hG hD h
end
end SW

/-! lists of one's own: an item set, names set side by side, a for over a display of one's own objects -/
namespace SW
open PySem PySem.Spec L2 PyProof.Rows

/-- values as objects: what was made stays one's own, a name's is kept from now on -/
def settle : List Vr → Env → Option (List O × Env)
  | [], env => some ([], env)
  | .ob o :: xs, env => (settle xs env).map fun p => (o :: p.1, p.2)
  | .sl i :: xs, env => match frz1 env (.sl i) with
    | some (d, e) => (settle xs e).map fun p => (.val d :: p.1, p.2)
    | none => none
section
variable {k : Kn} {W : WX} {Hk F H : Hp} {σ : L2.St} {env : Env} {Q : VK} {P : Pn} {D : Ends}
theorem settle_len : ∀ {xs : List Vr} {env e : Env} {os : List O}, settle xs env = some (os, e) → os.length = xs.length ∧ e.length = env.length
  | [], env, e, os, h => by
    cases h
    exact ⟨rfl, rfl⟩
  | .ob o :: xs, env, e, os, h => by
    obtain ⟨⟨os', e'⟩, h1, h2⟩ := Option.map_eq_some_iff.mp h
    cases h2
    obtain ⟨a, b⟩ := settle_len h1
    exact ⟨by simp [a], b⟩
  | .sl i :: xs, env, e, os, h => by
    simp only [settle] at h
    split at h
    · rename_i d e1 hd
      obtain ⟨⟨os', e'⟩, h1, h2⟩ := Option.map_eq_some_iff.mp h
      cases h2
      obtain ⟨a, b⟩ := settle_len h1
      exact ⟨by simp [a], by rw [b, ← frz1_len hd]⟩
    · cases h
theorem settle_ok : ∀ {xs : List Vr} {vs : List V} {Hk F : Hp} {env e : Env} {os : List O}, Wl k Hk F H σ env vs xs → settle xs env = some (os, e) →
    ∃ Hk', Ex Hk Hk' ∧ Wd k Hk' F H (vs.map some ++ σ) (os.map some ++ e)
  | [], [], Hk, F, env, e, os, w, h => by
    cases h
    exact ⟨Hk, Ex.refl _, w.base⟩
  | [], _ :: _, _, _, _, _, _, w, _ => by
    have := w.len
    simp at this
  | _ :: _, [], _, _, _, _, _, w, _ => by
    have := w.len
    simp at this
  | .ob o :: xs, v :: vs, Hk, F, env, e, os, w, h => by
    obtain ⟨⟨os', e'⟩, h1, h2⟩ := Option.map_eq_some_iff.mp h
    cases h2
    have w3 : Wd k Hk F H (some v :: (topV vs xs ++ σ)) (some o :: (topE xs ++ env)) := w.w
    obtain ⟨F2, w4, back⟩ := w3.aside1
    have wt : Wl k Hk F2 H σ env vs xs := ⟨by simpa using w.len, w4, fun j i v' p q => w.sl (j + 1) i v' (by simpa using p) (by simpa using q)⟩
    obtain ⟨Hk', ex, w5⟩ := settle_ok wt h1
    exact ⟨Hk', ex, back _ _ _ _ ex w5⟩
  | .sl i :: xs, v :: vs, Hk, F, env, e, os, w, h => by
    simp only [settle] at h
    split at h
    · rename_i d e1 hd
      obtain ⟨⟨os', e'⟩, h1, h2⟩ := Option.map_eq_some_iff.mp h
      cases h2
      obtain ⟨Hk1, ex1, w1, r1⟩ := w.frz1 hd
      obtain ⟨Hk2, ex2, w2⟩ := settle_ok w1 h1
      exact ⟨Hk2, ex1.trans ex2, w2.pushV (r1.mono ex2)⟩
    · cases h

/-! ### x, y = a, b -/
def setOs (js : List Nat) (os : List O) (env : Env) : Env := (js.zip os).foldl (fun e p => e.set p.1 (some p.2)) env
def mParO (js : List Nat) (ms : MA) : MS := fun env => R.sb (ms env) fun p => match settle p.1 p.2 with
  | some (os, e) => if os.length = js.length ∧ js.all (fun j => decide (j < e.length)) = true then .nx (setOs js os e) else .stuck
  | none => .stuck
def setVs (js : List Nat) (vs : List V) (σ : L2.St) : L2.St := (js.zip vs).foldl (fun e p => e.set p.1 (some p.2)) σ
theorem sets_ok : ∀ {js : List Nat} {vs : List V} {os : List O} {σ : L2.St} {env : Env}, vs.length = js.length → os.length = js.length → (∀ j ∈ js, j < σ.length) → Wd k Hk F H (vs.map some ++ σ) (os.map some ++ env) → Wd k Hk F H (setVs js vs σ) (setOs js os env)
  | [], [], [], _, _, _, _, _, w => w
  | [], _ :: _, _, _, _, h, _, _, _ => by simp at h
  | [], [], _ :: _, _, _, _, h, _, _ => by simp at h
  | _ :: _, [], _, _, _, h, _, _, _ => by simp at h
  | _ :: _, _ :: _, [], _, _, _, h, _, _ => by simp at h
  | j :: js, v :: vs, o :: os, σ, env, h1, h2, hj, w => by
    have hl : vs.length = os.length := by simp at h1 h2; omega
    have w1 : Wd k Hk F H (some v :: (vs.map some ++ σ)) (some o :: (os.map some ++ env)) := w
    have w2 := w1.store (i := (vs.map some).length + j) (by
      have := hj j (by simp)
      simp
      omega)
    rw [set_app, show (vs.map some).length = (os.map some).length from by simp [hl], set_app] at w2
    exact sets_ok (js := js) (by simpa using h1) (by simpa using h2) (fun j' hj' => by simpa using hj j' (by simp [hj'])) w2
theorem Pn.sets : ∀ {js : List Nat} {vs : List V} {σ : L2.St}, P.In σ → (∀ j ∈ js, (P.ms[j]? == some true) = false) → P.In (setVs js vs σ)
  | [], _, _, p, _ => p
  | _ :: _, [], _, p, _ => p
  | j :: js, v :: vs, σ, p, h => Pn.sets (js := js) (vs := vs) (p.set (h j (by simp))) fun j' hj => h j' (by simp [hj])
theorem tMS_parO {js : List Nat} {ms : MA} {K1 : TS} (hp : ∀ j ∈ js, (P.ms[j]? == some true) = false) (hK : ∀ D σ H, (tMA k W ms σ H fun vs H1 => vs.length = js.length ∧ D.nx (setVs js vs σ) H1) → K1 D σ H) (h : tMS k W P (mParO js ms) D σ H) : K1 D σ H := by
  refine hK D σ H ?_
  obtain ⟨Hk, F, env, w, p, h⟩ := h
  refine seqAS w p h fun xs e' vs Hk1 H1 ex1 w1 h1 => ?_
  simp only at h1
  split at h1
  · rename_i os e hs
    split at h1
    · rename_i hc
      obtain ⟨hl, hj⟩ := hc
      obtain ⟨Hk2, ex2, w2⟩ := settle_ok w1 hs
      obtain ⟨l1, l2⟩ := settle_len hs
      have el : vs.length = js.length := by have := w1.len; omega
      have hle : ∀ j ∈ js, j < σ.length := fun j hjm => by
        have h1 := of_decide_eq_true (List.all_eq_true.mp hj j hjm)
        have h2 := w1.base.len
        omega
      exact ⟨el, h1 _ Hk2 H1 ex2 (sets_ok el hl hle w2) (Pn.sets p hp)⟩
    · exact h1.elim
  · exact h1.elim

/-! ### xs[i] = e -/
def mLPut (i : Nat) (mk mv : ME) : MS := fun env => R.sb (mv env) fun p => match p.2[i]? with
  | some (some (.lst _)) => R.sb (mk p.2) fun q => match frz1 q.2 p.1 with
    | some (x, e) => match rd e q.1 with
      | some (.int j) => match e[i]? with
        | some (some (.lst ds)) => match ixN ds.length j with
          | some n => .nx (e.set i (some (.lst (ds.set n x))))
          | none => .stuck
        | _ => .stuck
      | _ => .stuck
    | none => .stuck
  | _ => .stuck
theorem RpAll.set {v : V} {d : SW.D} (hv : Rp k H v d) : ∀ {n : Nat} {xs : List V} {ds : List SW.D}, RpAll k H xs ds → RpAll k H (xs.set n v) (ds.set n d)
  | _, _, _, .nil => .nil
  | 0, _, _, .cons _ r => .cons hv r
  | n + 1, _, _, .cons h r => .cons h (RpAll.set (n := n) hv r)
theorem tMS_lput {i : Nat} {mk mv : ME} (h : tMS k W P (mLPut i mk mv) D σ H) : tAsg (tM k W mv) (gSub (tVar i) (tM k W mk) rSetL) D σ H := by
  obtain ⟨Hk, F, env, w, p, h⟩ := h
  refine seqES w p h fun x e1 v Hk1 H1 ex1 w1 h1 => ?_
  simp only at h1
  split at h1
  · rename_i ds0 hd0
    obtain ⟨u0, hu0, _⟩ := w1.base.take hd0
    refine ⟨u0, hu0, seqEW w1 p h1 fun y e2 u Hk2 H2 ex2 w2 h2 => ?_⟩
    have w2 : Wl k Hk2 F H2 σ e2 [v, u] [x, y] := w2
    simp only at h2
    split at h2
    · rename_i dx e3 hx
      obtain ⟨Hk3, ex3, w3, r3⟩ := w2.frz1 hx
      split at h2
      · rename_i j hj
        cases (w3.rdN (j := 0) rfl rfl hj).int
        split at h2
        · rename_i ds hd
          split at h2
          · rename_i n hn
            obtain ⟨u1, hu1, w5⟩ := w3.base.take hd
            rw [hu0] at hu1
            cases hu1
            obtain ⟨l, ro⟩ := w5.top
            cases ro with
            | @lst a xs _ hH rA =>
              have w6 : Wd k Hk3 F (upd H2 a (.lst (xs.set n v))) (some (.ref a) :: σ) (some (.lst (ds.set n dx)) :: e3.set i none) := w5.mut fun l2 r2 n2 h2 => by
                cases r2 with
                | lst hH2 rA2 =>
                  rw [hH] at hH2
                  cases hH2
                  exact ⟨.lst upd_same (rA2.set r3), fun b hb => upd_ne (by simpa using hb)⟩
              have hi : i < e3.length := (List.getElem?_eq_some_iff.mp hd).1
              have w7 := w6.put (i := i) (by rw [List.getElem?_set_self hi]) hu0
              rw [List.set_set] at w7
              exact ⟨a, xs, j, n, rfl, rfl, hH, by rw [rA.len]; exact hn, h2 σ Hk3 _ ex3 w7 p⟩
          · exact h2.elim
        · exact h2.elim
      · exact h2.elim
    · exact h2.elim
  · exact h1.elim

/-! ### for x in [a, b]: .. over one's own -/
def ownLoop (i : Nat) (body : MS) : List O → Env → RS
  | [], env => .nx env
  | o :: os, env => if i < env.length then (match body (env.set i (some o)) with
    | .nx e => ownLoop i body os e
    | .ct e => ownLoop i body os e
    | .bk e => .nx e
    | r => r) else .stuck
def mForOwn (i : Nat) (ms : MA) (body : MS) : MS := fun env => R.sb (ms env) fun p => match settle p.1 p.2 with
  | some (os, e) => if os.length ≤ 1000 then ownLoop i body os e else .stuck
  | none => .stuck
theorem tMS_forOwn {i : Nat} {ms : MA} {body : MS} (hi : (P.ms[i]? == some true) = false) (h : tMS k W P (mForOwn i ms body) D σ H) : tFor (iAny k.K (tLst (tMA k W ms))) (gName i) (tMS k W P body) D σ H := by
  obtain ⟨Hk, F, env, w, p, h⟩ := h
  refine seqAS w p h fun xs e' vs Hk1 H1 ex1 w1 h1 => ?_
  simp only at h1
  split at h1
  · rename_i os e hs
    split at h1
    · rename_i hl
      obtain ⟨Hk2, ex2, w2⟩ := settle_ok w1 hs
      obtain ⟨l1, l2⟩ := settle_len hs
      have el : vs.length = os.length := by have := w1.len; omega
      refine ⟨by rw [el]; exact Nat.le_trans hl (by decide), fun a ha => ⟨.l a vs, rfl, SqL.of upd_same, ?_⟩⟩
      have e3 := Ex.new (o := .lst vs) (w2.ex.free ha)
      have w3 := w2.growK (u := .lst vs) ha
      refine ⟨fun j m σ H => ∃ Hk env, m = vs.length - j ∧ j ≤ vs.length ∧ Ex (upd Hk2 a (.lst vs)) Hk ∧ Wd k Hk F H ((vs.drop j).map some ++ σ) ((os.drop j).map some ++ env) ∧ P.In σ ∧ WantS k W P Hk F D (ownLoop i body (os.drop j) env),
        ⟨vs.length, _, e, by simp, Nat.zero_le _, Ex.refl _, by simpa using w3, p, by simpa using WantS.mono h1 (ex2.trans e3)⟩, ?_⟩
      rintro j m σ H ⟨Hk, env, rfl, hj, ex4, w4, p4, hw⟩
      have hA : SqL k.K H a vs := SqL.of (w4.ex _ _ (ex4 _ _ upd_same))
      by_cases hlt : j < vs.length
      · refine .inr ⟨⟨vs, vs[j], hA, by simp⟩, fun σ H => ∃ Hk env, Ex (upd Hk2 a (.lst vs)) Hk ∧ Wd k Hk F H ((vs.drop (j + 1)).map some ++ σ) ((os.drop (j + 1)).map some ++ env) ∧ P.In σ ∧ WantS k W P Hk F D (ownLoop i body (os.drop (j + 1)) env),
          fun σ' H' ⟨Hk', env', q⟩ => ⟨vs.length - (j + 1), by omega, Hk', env', rfl, hlt, q⟩, fun x H' hy => ?_⟩
        obtain ⟨rfl, hx⟩ := hy
        have hx := hx vs hA
        have hlo : j < os.length := by omega
        have dv : vs.drop j = x :: vs.drop (j + 1) := by
          rw [List.drop_eq_getElem_cons hlt]
          congr 1
          rw [List.getElem?_eq_getElem hlt] at hx
          exact Option.some.inj hx
        have do_ : os.drop j = os[j] :: os.drop (j + 1) := List.drop_eq_getElem_cons hlo
        rw [do_] at hw
        unfold ownLoop at hw
        split at hw
        · rename_i hie
          rw [dv, do_] at w4
          have w5 : Wd k Hk F H' (some x :: ((vs.drop (j + 1)).map some ++ σ)) (some os[j] :: ((os.drop (j + 1)).map some ++ env)) := w4
          have hd1 : ((vs.drop (j + 1)).map some : L2.St).length = ((os.drop (j + 1)).map some : Env).length := by simp [el]
          have le := w5.drop.len
          have w6 := w5.store (i := ((vs.drop (j + 1)).map some : L2.St).length + i) (by
            simp only [List.length_append] at le ⊢
            omega)
          rw [set_app, hd1, set_app] at w6
          -- the rest is set aside
          have rot : Wd k Hk F H' (σ.set i (some x) ++ (vs.drop (j + 1)).map some) (env.set i (some os[j]) ++ (os.drop (j + 1)).map some) := by
            obtain ⟨fp, hsl, nd, hd⟩ := w6.sl
            obtain ⟨a1, a2, rfl, b1, b2⟩ := Sl.split hd1 hsl
            exact ⟨w6.ex, w6.fr, w6.dj, a2 ++ a1, b1.append b2, (List.perm_append_comm.nodup_iff).mp nd, fun a h => hd a (by
              rcases List.mem_append.mp h with h | h
              · exact List.mem_append_right _ h
              · exact List.mem_append_left _ h)⟩
          obtain ⟨F2, w7, back⟩ := rot.aside (by
            simp only [List.length_append, List.length_set] at le ⊢
            omega)
          have unrot : ∀ {Hk5 H5 : Hp} {σ5 : L2.St} {e5 : Env}, Ex Hk Hk5 → Wd k Hk5 F2 H5 σ5 e5 → Wd k Hk5 F H5 ((vs.drop (j + 1)).map some ++ σ5) ((os.drop (j + 1)).map some ++ e5) := fun {Hk5 H5 σ5 e5} ex w => by
            have w8 := back Hk5 H5 _ _ ex w
            obtain ⟨fp, hsl, nd, hd⟩ := w8.sl
            obtain ⟨a1, a2, rfl, b1, b2⟩ := Sl.split w.len hsl
            exact ⟨w8.ex, w8.fr, w8.dj, a2 ++ a1, b1.append b2, (List.perm_append_comm.nodup_iff).mp nd, fun a h => hd a (by
              rcases List.mem_append.mp h with h | h
              · exact List.mem_append_right _ h
              · exact List.mem_append_left _ h)⟩
          have base : ∀ {Hk5 H5 : Hp} {σ5 : L2.St} {e5 : Env}, Ex Hk Hk5 → Wd k Hk5 F2 H5 σ5 e5 → Wd k Hk5 F H5 σ5 e5 := fun ex w => Wd.dropL hd1 (unrot ex w)
          refine ⟨Hk, F2, env.set i (some os[j]), w7, p4.set hi, ?_⟩
          generalize body (env.set i (some os[j])) = r at hw
          cases r with
          | nx e2 => exact fun σ5 Hk5 H5 ex5 w5 p5 => ⟨Hk5, e2, ex4.trans ex5, unrot ex5 w5, p5, WantS.mono hw ex5⟩
          | ct e2 => exact fun σ5 Hk5 H5 ex5 w5 p5 => ⟨Hk5, e2, ex4.trans ex5, unrot ex5 w5, p5, WantS.mono hw ex5⟩
          | bk e2 => exact fun σ5 Hk5 H5 ex5 w5 p5 => hw σ5 Hk5 H5 ex5 (base ex5 w5) p5
          | rt x2 e2 =>
            intro v σ5 Hk5 H5 ex5 w5 p5
            refine hw v σ5 Hk5 H5 ex5 ⟨w5.len, ?_, w5.sl⟩ p5
            have w8 := unrot (σ5 := topV [v] [x2] ++ σ5) (e5 := topE [x2] ++ e2) ex5 w5.w
            exact Wd.dropL hd1 w8
          | exc c fs e2 => exact fun cls dd σ5 Hk5 H5 ex5 w5 p5 xc => hw cls dd σ5 Hk5 H5 ex5 (base ex5 w5) p5 xc
          | stuck => exact hw
        · exact hw.elim
      · have hj2 : j = vs.length := by omega
        subst hj2
        have d1 : vs.drop vs.length = [] := List.drop_length
        have d2 : os.drop vs.length = [] := by rw [el]; exact List.drop_length
        rw [d1, d2] at w4
        rw [d2] at hw
        exact .inl ⟨⟨vs, hA, Nat.le_refl _⟩, hw σ Hk H (Ex.refl _) w4 p4⟩
    · exact h1.elim
  · exact h1.elim
end
end SW

/-! words: own lists, methods with keywords -/
namespace SW
open PySem PySem.Spec L2 PyProof.Rows
section
variable {X : Cx} {G : Gn} {W : WX} {P : Pn} {pos p pos' apos : Pos} {a b c e o : Expr} {es : List Expr} {kws : List Keyword} {x m : Str} {me mo : ME} {ma mk : MA} {body : List Stmt} {t : MT} {mb : MS}
theorem z_parO (i j : Nat) {x y : Str} {ms : MA} {px py pt : Pos} {kt k2 : Nat} {pt2 : Pos} (hc : X.calm = true) (hN : X.N.Nodup) (hpi : (P.ms[i]? == some true) = false) (hpj : (P.ms[j]? == some true) = false) (hij : i ≠ j) (ha : PMA X G W [a, b] ms)
    (hw : swappedStores [.Tuple [.Name x px, .Name y py] kt pt] (.Tuple [a, b] k2 pt2) X.env = pure (some [x, y]) := by rfl)
    (hi : X.N[i]? = some x := by rfl) (hj : X.N[j]? = some y := by rfl) (hx : X.env.scope.names.lookup x = some .local := by rfl) (hy : X.env.scope.names.lookup y = some .local := by rfl)
    (hs : swapsWithSole [.Tuple [.Name x px, .Name y py] kt pt] (.Tuple [a, b] k2 pt2) pos.line X.env = pure false := by rfl) :
    PMS X G W P (.Assign [.Tuple [.Name x px, .Name y py] kt pt] (.Tuple [a, b] k2 pt2) pos) (mParO [i, j] ms) :=
  (ps_par hc hN hi hj hij hx hy ha hw hs).imp fun D σ H h => tMS_parO (by
    intro l hl
    simp at hl
    rcases hl with rfl | rfl
    · exact hpi
    · exact hpj) (fun D σ H q => by
      obtain ⟨Hk, F, env, w, q⟩ := q
      refine ⟨Hk, F, env, w, ?_⟩
      have mono : ∀ {r : R (List Vr × Env)} {Q Q' : List V → Hp → Prop}, WantL (mkK X.K G) W Hk F σ r Q → (∀ vs H, Q vs H → Q' vs H) → WantL (mkK X.K G) W Hk F σ r Q' := by
        intro r Q Q' h i
        cases r with
        | ok p => exact fun vs Hk' H' ex w => i _ _ (h vs Hk' H' ex w)
        | exc c fs e => exact h
        | stuck => exact h
      refine mono q fun vs H1 hq => ?_
      obtain ⟨hl, hq⟩ := hq
      match vs, hl with
      | [v, w], _ => exact ⟨v, w, rfl, hq⟩) h
theorem z_parO3 (i j l : Nat) {x y z : Str} {ms : MA} {px py pz pt : Pos} {kt k2 : Nat} {pt2 : Pos} (hc : X.calm = true) (hN : X.N.Nodup) (hpi : (P.ms[i]? == some true) = false) (hpj : (P.ms[j]? == some true) = false) (hpl : (P.ms[l]? == some true) = false) (hij : i ≠ j) (hil : i ≠ l) (hjl : j ≠ l) (ha : PMA X G W [a, b, c] ms)
    (hw : swappedStores [.Tuple [.Name x px, .Name y py, .Name z pz] kt pt] (.Tuple [a, b, c] k2 pt2) X.env = pure (some [x, y, z]) := by rfl)
    (hi : X.N[i]? = some x := by rfl) (hj : X.N[j]? = some y := by rfl) (hl : X.N[l]? = some z := by rfl) (hx : X.env.scope.names.lookup x = some .local := by rfl) (hy : X.env.scope.names.lookup y = some .local := by rfl) (hz : X.env.scope.names.lookup z = some .local := by rfl)
    (hs : swapsWithSole [.Tuple [.Name x px, .Name y py, .Name z pz] kt pt] (.Tuple [a, b, c] k2 pt2) pos.line X.env = pure false := by rfl) :
    PMS X G W P (.Assign [.Tuple [.Name x px, .Name y py, .Name z pz] kt pt] (.Tuple [a, b, c] k2 pt2) pos) (mParO [i, j, l] ms) :=
  (ps_par3 hc hN hi hj hl hij hil hjl hx hy hz ha hw hs).imp fun D σ H h => tMS_parO (by
    intro l' hl'
    simp at hl'
    rcases hl' with rfl | rfl | rfl
    · exact hpi
    · exact hpj
    · exact hpl) (fun D σ H q => by
      obtain ⟨Hk, F, env, w, q⟩ := q
      refine ⟨Hk, F, env, w, ?_⟩
      have mono : ∀ {r : R (List Vr × Env)} {Q Q' : List V → Hp → Prop}, WantL (mkK X.K G) W Hk F σ r Q → (∀ vs H, Q vs H → Q' vs H) → WantL (mkK X.K G) W Hk F σ r Q' := by
        intro r Q Q' h i
        cases r with
        | ok p => exact fun vs Hk' H' ex w => i _ _ (h vs Hk' H' ex w)
        | exc c fs e => exact h
        | stuck => exact h
      refine mono q fun vs H1 hq => ?_
      obtain ⟨hl, hq⟩ := hq
      match vs, hl with
      | [u, v, w], _ => exact ⟨u, v, w, rfl, hq⟩) h
theorem z_lput (i : Nat) {key : Expr} {mkk : ME} (hk : PM X G W key mkk) (hv : PM X G W e me) (hN : X.N[i]? = some x := by rfl) (hvx : Vis X.env.scope x := by first | exact Or.inl rfl | exact Or.inr (Or.inl rfl) | exact Or.inr (Or.inr rfl)) (hd : (x == ("__debug__" : Str)) = false := by decide)
    (hcd : (x == ("__classdict__" : Str)) = false := by decide)
    (ha : ∀ v, assign (.Subscript (.Name x p) key pos') X.env v = (do
      let ov ← holding [v] (eval (.Name x p) X.env)
      let iv ← holding [v, ov] (eval key X.env)
      standAt pos'
      holding [v, ov, iv] (setItem ov iv v)
      release [v, ov, iv] []) := by intro _; rfl)
    (hs : swapsWithSole [.Subscript (.Name x p) key pos'] e pos.line X.env = pure false := by rfl) (hw : swappedStores [.Subscript (.Name x p) key pos'] e X.env = pure none := by rfl) : PMS X G W P (.Assign [.Subscript (.Name x p) key pos'] e pos) (mLPut i mkk me) :=
  (ps_asg hv (pg_sub (pe_var hN hvx hd hcd) hk set_list ha) hs hw).imp fun _ _ _ => tMS_lput
theorem z_forOwn (i : Nat) {lpos tpos : Pos} (hpo : PassesOwn (model X.prog X.w) X.A X.env X.xe) (hc : X.calm = true) (hN : X.N.Nodup) (hp : (P.ms[i]? == some true) = false) (ha : PMA X G W es ma) (hb : PMSs X G W P body mb) (hi : X.N[i]? = some x := by rfl) (hx : Loc X.env.scope x := by first | exact Or.inl rfl | exact Or.inr rfl)
    (hf : X.fn x = true ∨ X.env.scope.names.lookup x = some .local := by first | exact .inl rfl | exact .inr rfl)
    (hs : ∀ y, foldedSetIterable (.List es lpos) X.env y = pure y := by intro _; rfl) : PMS X G W P (.For (.Name x tpos) (.List es lpos) body [] pos) (mForOwn i ma mb) :=
  (ps_for hpo hc (pi_any (pe_lst ha)) (pg_name hN hi hx hf) hb hs).imp fun _ _ _ h => tMS_forOwn (k := mkK X.K G) hp h

/-! ### methods with keywords -/
def mMethKw (c nm : Str) (m : MF) (np : Nat) (π : List Nat) (mr : ME) (ma mk : MA) : ME := fun env => R.bind (mr env) fun p => match rd p.2 p.1 with
  | some (.ins c' fs) => if c' = c ∧ fs.lookup nm = none then R.bind (ma p.2) fun q => R.bind (mk q.2) fun r => match frzs r.2 ((p.1 :: q.1) ++ r.1) with
    | some (ds, e) => if (permL π ds).length = np then callE e [] (m ((permL π ds).map .val)) else .stuck
    | none => .stuck else .stuck
  | _ => .stuck
theorem q_methK {f C : Addr} {fd : FuncData} {ps ks : List Str} {c : Str} {lv n np : Nat} {mf : MF} {π : List Nat} {pl : Sem Bool} (cl : L2.Cls X.K C) (hM : Meth X.K C m f) (F : FnOk X.prog X.w X.K X.mg X.base (L2.CX X.prog X.w) lv f fd ps (spM (mkK X.K G).b (List.replicate np false) mf)) (hr : Room lv X.A)
    (hG : G.g c = some C) (hb : KwB X.K fd ps (n + 1) ks π) (tk : Takes X W) (ho : PM X G W o mo) (ha : PMA X G W (e :: es) ma) (hkw : PMK X G W kws mk)
    (hma : ∀ env p, ma env = .ok p → p.1.length = n) (hmk : ∀ env p, mk env = .ok p → p.1.length = ks.length)
    (hall : (backToKw pos (keywordEach kws X.env)).all (·.1.isSome) = true := by rfl) (hks : (backToKw pos (keywordEach kws X.env)).filterMap (·.1) = ks := by rfl)
    (he : starEach (e :: es) X.env = (false, eval e X.env) :: starEach es X.env := by rfl) (hpl : ((backTo pos (starEach (e :: es) X.env)).any (·.1) || (backToKw pos (keywordEach kws X.env)).any (·.1.isNone)) = false := by rfl)
    (ht : eval (.Call (.Attribute o m apos) (e :: es) kws pos) X.env = (do
      let ov ← eval o X.env
      standAt apos.atName
      let (f, first) ← holding [ov] (getMethod ov m pl)
      callWith pos f first (backTo pos (starEach (e :: es) X.env)) (backToKw pos (keywordEach kws X.env))) := by rfl) :
    PM X G W (.Call (.Attribute o m apos) (e :: es) kws pos) (mMethKw c m mf np π mo ma mk) := by
  refine ⟨fun pins s σ H Q I h => ?_⟩
  obtain ⟨Hk, F0, env, w, h⟩ := h
  have hO : tM (mkK X.K G) W mo σ H (fun x H1 => ∃ a dx fs, x = .ref a ∧ H1 a = some (.ins C dx fs) ∧ fs.lookup m = none ∧
      tMA (mkK X.K G) W ma σ H1 (fun vs H2 => tMA (mkK X.K G) W mk σ H2 fun zs H3 => vs.length = n ∧ zs.length = ks.length ∧ spM (mkK X.K G).b (List.replicate np false) mf (permL π ((x :: vs) ++ zs)) H3 Q (fun cls d H => W cls d σ H))) := by
    have b := h.bad
    refine seqE (Wl.nil w) b.exc b.ns fun x e1 v Hk1 H1 m1 ex1 w1 => ?_
    unfold mMethKw at h
    rw [m1] at h
    have h1 := WantE.mono h ex1
    rw [R.bind_ok] at h1
    simp only at h1
    split at h1
    · rename_i c' fs hr
      split at h1
      · rename_i hc
        obtain ⟨rfl, hl⟩ := hc
        obtain ⟨a, C', dx, ps, rfl, g', hH, rF⟩ := RpN.ins w1.base.ex (w1.rdN (j := 0) rfl rfl hr)
        rw [show (mkK X.K G).G c' = G.g c' from rfl, hG] at g'
        cases g'
        refine ⟨a, dx, ps, rfl, hH, rF.lookup_none hl, ?_⟩
        have b := h1.bad
        refine seqA w1 b.exc b.ns fun ys e2 ws Hk2 H2 m2 ex2 w2 => ?_
        rw [m2] at h1
        have h2 := WantE.mono h1 ex2
        rw [R.bind_ok] at h2
        have b := h2.bad
        refine seqA w2 b.exc b.ns fun zs e3 us Hk3 H3 m3 ex3 w3 => ?_
        simp only at h2
        rw [m3] at h2
        have h3 := WantE.mono h2 ex3
        rw [R.bind_ok] at h3
        have l2 := w2.len
        have l3 := w3.len
        have n2 := hma _ _ m2
        have n3 := hmk _ _ m3
        simp only [List.nil_append, List.length_append, List.length_cons, List.length_nil] at l2 l3
        simp only at n2 n3
        exact ⟨by omega, by omega, kw_sp (vs := V.ref a :: ws) (xs := x :: ys) w3 h3⟩
      · exact h1.elim
    · exact h1.elim
  refine PySem.W.methodCall_KW (pl := pl) (thn (ho.run pins s σ H _ I hO) fun u s1 ⟨x, H1, I1, rx, a, dx, fs, ex, ea, l, q⟩ => ?_) ht
  subst ex
  obtain rfl : u = Value.ref a := rx
  refine getmeth_ok I1 ea cl hM l ?_
  refine PySem.W.callWith_KW (first := [.ref a]) (h₀ := X.base) I.ok.mod.kin hM.kp hall (thn (ha.run pos pins s1 σ H1 _ I1 q) fun us s2 ⟨vs, H2, I2, r, q2⟩ => ?_) hpl he
  refine thn (hkw.run pos pins s2 σ H2 _ I2 q2) fun ws s3 ⟨zs, H3, I3, rz, l1, l2, q3⟩ => ⟨I3.kIn, ?_⟩
  rw [hks]
  exact run_kw (us := .ref a :: us) (vs := .ref a :: vs) F hr hb tk I3 (.cons rfl r) rz (by simp [l1]) l2 q3
theorem q_methK0 {f C : Addr} {fd : FuncData} {ps ks : List Str} {c : Str} {lv np : Nat} {mf : MF} {π : List Nat} {pl : Sem Bool} (cl : L2.Cls X.K C) (hM : Meth X.K C m f) (F : FnOk X.prog X.w X.K X.mg X.base (L2.CX X.prog X.w) lv f fd ps (spM (mkK X.K G).b (List.replicate np false) mf)) (hr : Room lv X.A)
    (hG : G.g c = some C) (hb : KwB X.K fd ps 1 ks π) (tk : Takes X W) (ho : PM X G W o mo) (hkw : PMK X G W kws mk)
    (hmk : ∀ env p, mk env = .ok p → p.1.length = ks.length)
    (hall : (backToKw pos (keywordEach kws X.env)).all (·.1.isSome) = true := by rfl) (hks : (backToKw pos (keywordEach kws X.env)).filterMap (·.1) = ks := by rfl)
    (hpl : ((backTo pos (starEach [] X.env)).any (·.1) || (backToKw pos (keywordEach kws X.env)).any (·.1.isNone)) = false := by rfl)
    (ht : eval (.Call (.Attribute o m apos) [] kws pos) X.env = (do
      let ov ← eval o X.env
      standAt apos.atName
      let (f, first) ← holding [ov] (getMethod ov m pl)
      callWith pos f first (backTo pos (starEach [] X.env)) (backToKw pos (keywordEach kws X.env))) := by rfl) :
    PM X G W (.Call (.Attribute o m apos) [] kws pos) (mMethKw c m mf np π mo mNil mk) := by
  refine ⟨fun pins s σ H Q I h => ?_⟩
  obtain ⟨Hk, F0, env, w, h⟩ := h
  have hO : tM (mkK X.K G) W mo σ H (fun x H1 => ∃ a dx fs, x = .ref a ∧ H1 a = some (.ins C dx fs) ∧ fs.lookup m = none ∧
      tMA (mkK X.K G) W mk σ H1 fun zs H3 => zs.length = ks.length ∧ spM (mkK X.K G).b (List.replicate np false) mf (permL π ([x] ++ zs)) H3 Q (fun cls d H => W cls d σ H)) := by
    have b := h.bad
    refine seqE (Wl.nil w) b.exc b.ns fun x e1 v Hk1 H1 m1 ex1 w1 => ?_
    unfold mMethKw at h
    rw [m1] at h
    have h1 := WantE.mono h ex1
    rw [R.bind_ok] at h1
    simp only at h1
    split at h1
    · rename_i c' fs hr
      split at h1
      · rename_i hc
        obtain ⟨rfl, hl⟩ := hc
        obtain ⟨a, C', dx, ps, rfl, g', hH, rF⟩ := RpN.ins w1.base.ex (w1.rdN (j := 0) rfl rfl hr)
        rw [show (mkK X.K G).G c' = G.g c' from rfl, hG] at g'
        cases g'
        refine ⟨a, dx, ps, rfl, hH, rF.lookup_none hl, ?_⟩
        rw [show mNil e1 = .ok ([], e1) from rfl, R.bind_ok] at h1
        have b := h1.bad
        refine seqA w1 b.exc b.ns fun zs e3 us Hk3 H3 m3 ex3 w3 => ?_
        simp only at h1
        rw [m3] at h1
        have h3 := WantE.mono h1 ex3
        rw [R.bind_ok] at h3
        have l3 := w3.len
        have n3 := hmk _ _ m3
        simp only [List.nil_append, List.length_append, List.length_cons, List.length_nil] at l3
        simp only at n3
        exact ⟨by omega, kw_sp (vs := [V.ref a]) (xs := [x]) w3 h3⟩
      · exact h1.elim
    · exact h1.elim
  refine PySem.W.methodCall_KW (pl := pl) (thn (ho.run pins s σ H _ I hO) fun u s1 ⟨x, H1, I1, rx, a, dx, fs, ex, ea, l, q⟩ => ?_) ht
  subst ex
  obtain rfl : u = Value.ref a := rx
  refine getmeth_ok I1 ea cl hM l ?_
  refine PySem.W.callWith_KW0 (first := [.ref a]) (h₀ := X.base) I.ok.mod.kin hM.kp hall ?_ hpl
  refine thn (hkw.run pos pins s1 σ H1 _ I1 q) fun ws s3 ⟨zs, H3, I3, rz, l2, q3⟩ => ⟨I3.kIn, ?_⟩
  rw [hks]
  exact run_kw (us := [.ref a]) (vs := [.ref a]) F hr hb tk I3 (.cons rfl .nil) rz rfl l2 q3
end
end SW

/-! isinstance of anything by any classes -/
namespace SW
open PySem PySem.Spec L2 PyProof.Rows

inductive Tag where
  | ty (s : String)
  | own (c : Str)
  | exc (c : Str)
def tagD : SW.D → Option Tag
  | .non => some (.ty "NoneType")
  | .bl _ => some (.ty "bool")
  | .int _ => some (.ty "int")
  | .str _ => some (.ty "str")
  | .lst _ => some (.ty "list")
  | .tup _ => some (.ty "tuple")
  | .dic _ _ => some (.ty "dict")
  | .ins c _ => some (.own c)
  | .xc c => some (.exc c)
/-- isinstance(x, ..): tab tells by the kind of x -/
def mIs (tab : Tag → Option Bool) (m : ME) : ME := fun env => R.bind (m env) fun p => match ((rd p.2 p.1).bind tagD).bind tab with
  | some b => .ok (.ob (.val (.bl b)), p.2)
  | none => .stuck
/-- a table by names -/
def tabOf (t : List (String × Bool)) (o x : List (Str × Bool)) : Tag → Option Bool
  | .ty s => t.lookup s
  | .own c => o.lookup c
  | .exc c => x.lookup c
structure InsC (K : PySem.W.Frag) (C : Addr) : Prop where
  cl : L2.Cls K C
  ha : PySem.W.findIn K (.ref C) "__class__" = some (some (.builtin "object.__class__"))
  hn : PySem.W.specialIn K (.builtin "object.__class__") "__get__" = some (some (.builtin "getset_descriptor.__get__"))
  ht : PySem.W.takesIn K (.builtin "object.__class__") = some true
  hm : PySem.W.mroIn K C (.type "object") = some true
structure IsA (K : PySem.W.Frag) (g : Str → Option Addr) (f : Value → Option Bool) (tab : Tag → Option Bool) : Prop where
  ty : ∀ s b, s ∈ tys → tab (.ty s) = some b → f (.type s) = some b
  own : ∀ c b C, tab (.own c) = some b → g c = some C → InsC K C ∧ f (.ref C) = some b
  exc : ∀ c b C, tab (.exc c) = some b → g c = some C → ExcC K C ∧ f (.ref C) = some b
/-- what isinstance reads of it -/
theorem tag_of {K : Kn} {Hk H : Hp} {v : V} {d : SW.D} {t : Tag} {f : Value → Option Bool} {tab : Tag → Option Bool} {b : Bool} (hT : IsA K.K K.G f tab) (ex : Ex Hk H) (r : RpN K Hk H v d) (h : tagD d = some t) (hb : tab t = some b) :
    (∃ w, TyX K.K H v w ∧ f w = some b) ∨ ∃ a C, v = .ref a ∧ H a = some (ExV (.ref C) a) ∧ ExcC K.K C ∧ f (.ref C) = some b := by
  have base : ∀ s, tyD d = some s → tab (.ty s) = some b → ∃ w, TyX K.K H v w ∧ f w = some b := fun s h1 h2 => ⟨_, tyX ex r h1, hT.ty s b (tyD_mem h1) h2⟩
  cases d with
  | non => cases h; exact .inl (base _ rfl hb)
  | bl _ => cases h; exact .inl (base _ rfl hb)
  | int _ => cases h; exact .inl (base _ rfl hb)
  | str _ => cases h; exact .inl (base _ rfl hb)
  | lst _ => cases h; exact .inl (base _ rfl hb)
  | tup _ => cases h; exact .inl (base _ rfl hb)
  | dic _ _ => cases h; exact .inl (base _ rfl hb)
  | ins c fs =>
    cases h
    obtain ⟨a, C, dx, ps, rfl, g, hH, _⟩ := RpN.ins ex r
    obtain ⟨x1, x2⟩ := hT.own c b C hb g
    exact .inl ⟨.ref C, .base (.ins hH x1.cl x1.ha x1.hn x1.ht x1.hm), x2⟩
  | xc c =>
    cases h
    obtain ⟨a, C, rfl, g, ha⟩ := r.xc
    obtain ⟨x1, x2⟩ := hT.exc c b C hb g
    exact .inr ⟨a, C, rfl, ex _ _ ha, x1, x2⟩
def rIs1 (K : PySem.W.Frag) : List V → Hp → VK → Prop := fun xs H Q => rIsi K xs H Q ∨ rIsV K xs H Q
def rIsN (K : PySem.W.Frag) : List V → Hp → VK → Prop := fun xs H Q => rIsiT K xs H Q ∨ rIsVT K xs H Q
section
variable {k : Kn} {W : WX} {σ : L2.St} {H : Hp} {Q : VK} {tab : Tag → Option Bool} {m : ME}
theorem tM_is1 {c : V} {cv : Value} (hc : ClsV c cv) (hT : IsA k.K k.G (fun t => PySem.W.kitOne k.K t cv) tab) (h : tM k W (mIs tab m) σ H Q) : tCB (rIs1 k.K) (tCons (tM k W m) (tCons (tC c) tNil)) σ H Q := by
  obtain ⟨Hk, F, env, w, h⟩ := h
  have b := h.bad
  refine seqE (Wl.nil w) b.exc b.ns fun x e1 v Hk1 H1 m1 ex1 w1 => ?_
  unfold mIs at h
  rw [m1] at h
  have h1 := WantE.mono h ex1
  rw [R.bind_ok] at h1
  simp only at h1
  have w1 : Wl k Hk1 F H1 σ e1 [v] [x] := w1
  split at h1
  · rename_i bb hb
    obtain ⟨t, ht, hb⟩ := Option.bind_eq_some_iff.mp hb
    obtain ⟨d, hd, ht⟩ := Option.bind_eq_some_iff.mp ht
    have q := h1 _ Hk1 H1 (Ex.refl _) (Wl.val w1.base (.bl bb))
    rcases tag_of hT w1.base.ex (w1.rdN (j := 0) rfl rfl hd) ht hb with ⟨u, y1, y2⟩ | ⟨a, C, rfl, ha, y1, y2⟩
    · exact .inl ⟨v, c, u, cv, bb, rfl, hc, y1, y2, q⟩
    · exact .inr ⟨a, C, c, cv, bb, rfl, ha, y1, hc, y2, q⟩
  · exact h1.elim
theorem tM_isN {cs : List V} {us : List Value} (hl : cs.length ≤ 1000) (hc : Paired ClsV cs us) (hT : IsA k.K k.G (fun t => PySem.W.kitAny k.K t us) tab) (h : tM k W (mIs tab m) σ H Q) :
    tCB (rIsN k.K) (tCons (tM k W m) (tCons (tTup (tCs cs)) tNil)) σ H Q := by
  obtain ⟨Hk, F, env, w, h⟩ := h
  have b := h.bad
  refine seqE (Wl.nil w) b.exc b.ns fun x e1 v Hk1 H1 m1 ex1 w1 => ?_
  unfold mIs at h
  rw [m1] at h
  have h1 := WantE.mono h ex1
  rw [R.bind_ok] at h1
  simp only at h1
  have w1 : Wl k Hk1 F H1 σ e1 [v] [x] := w1
  refine ⟨Nat.le_trans hl (by decide), fun tp hp => ?_⟩
  split at h1
  · rename_i bb hb
    obtain ⟨t, ht, hb⟩ := Option.bind_eq_some_iff.mp hb
    obtain ⟨d, hd, ht⟩ := Option.bind_eq_some_iff.mp ht
    have w2 := w1.base.grow (Ex.new (o := .tup cs) hp)
    have w1' : Wl k Hk1 F (upd H1 tp (.tup cs)) σ e1 [v] [x] := ⟨w1.len, w1.w.grow (Ex.new hp), w1.sl⟩
    have q := h1 _ Hk1 _ (Ex.refl _) (Wl.val w2 (.bl bb))
    rcases tag_of hT w2.ex (w1'.rdN (j := 0) rfl rfl hd) ht hb with ⟨u, y1, y2⟩ | ⟨a, C, rfl, ha, y1, y2⟩
    · exact .inl ⟨v, tp, cs, u, us, bb, rfl, upd_same, hc, y1, y2, q⟩
    · exact .inr ⟨a, C, tp, cs, us, bb, rfl, ha, y1, upd_same, hc, y2, q⟩
  · exact h1.elim
end
section
variable {X : Cx} {G : Gn} {W : WX} {pos p p2 : Pos} {e : Expr} {es : List Expr} {m : ME} {tab : Tag → Option Bool}
theorem q_is1 {y : Str} {c : V} {cv : Value} (hg : Gl X "isinstance") (hm : X.mg "isinstance" = none) (hy : PE X (.Name y p2) (tC c)) (hc : ClsV c cv) (hT : IsA X.K G.g (fun t => PySem.W.kitOne X.K t cv) tab) (ha : PM X G W e m)
    (hs : starEach [e, .Name y p2] X.env = (false, eval e X.env) :: starEach [.Name y p2] X.env := by rfl) (hpl : (backTo pos (starEach [.Name y p2] X.env)).any (·.1) = false := by rfl) : PM X G W (.Call (.Name "isinstance" p) [e, .Name y p2] [] pos) (mIs tab m) :=
  (pe_callB (CallR.or call_isi call_isV) hg hm (by decide +kernel) (pa_cons ha (pa_cons hy pa_nil) hs) (by decide) (by decide) hs hpl).imp fun _ _ _ => tM_is1 (k := mkK X.K G) hc hT
theorem q_isN2 {cs : List V} {us : List Value} {x1} (hg : Gl X "isinstance") (hm : X.mg "isinstance" = none) (hy : PA X es (tCs cs)) (hl : cs.length ≤ 1000) (hc : Paired ClsV cs us) (hT : IsA X.K G.g (fun t => PySem.W.kitAny X.K t us) tab) (ha : PM X G W e m)
    (hs : starEach [e, .Tuple es x1 p2] X.env = (false, eval e X.env) :: starEach [.Tuple es x1 p2] X.env := by rfl) (hpl : (backTo pos (starEach [.Tuple es x1 p2] X.env)).any (·.1) = false := by rfl) : PM X G W (.Call (.Name "isinstance" p) [e, .Tuple es x1 p2] [] pos) (mIs tab m) :=
  (pe_callB (CallR.or call_isiT call_isVT) hg hm (by decide +kernel) (pa_cons ha (pa_cons (pe_tup hy) pa_nil) hs) (by decide) (by decide) hs hpl).imp fun _ _ _ => tM_isN (k := mkK X.K G) hl hc hT
end
end SW

/-! a == b by an own __eq__ -/
namespace SW
open PySem PySem.Spec L2 PyProof.Rows
def tEqOwn (C : Addr) (sp : Sp) (E : L2.St → XK) (ta tb : TE) : TE := fun σ H Q => ta σ H fun x H1 => tb σ H1 fun y H2 => ∃ a b dx dy fs gs, x = .ref a ∧ y = .ref b ∧ H2 a = some (.ins C dx fs) ∧ H2 b = some (.ins C dy gs) ∧
  sp [x, y] H2 (fun v H3 => ∃ k, v = .bl k ∧ Q (.bl k) H3) (E σ)
section
variable {X : Cx} {CX : CXT} {lv : Nat} {f C : Addr} {fd : FuncData} {ps : List Str} {sp : Sp} {E : L2.St → XK} {pos : Pos} {a b : Expr} {ta tb : TE}
theorem pe_eqOwn (F : FnOk X.prog X.w X.K X.mg X.base CX lv f fd ps sp) (hr : Room lv X.A) (hM : Meth X.K C "__eq__" f) (hb : Binds X.K fd ps []) (hx : ∀ σ, PassesAt CX X σ (E σ)) (ha : PE X a ta) (hb2 : PE X b tb) (hm : behindInMarks .Eq b = false) :
    PE X (.Compare a [.Eq] [b] pos) (tEqOwn C sp E ta tb) := by
  refine ⟨fun pins s σ H Q I h => ?_⟩
  refine wpAny_Compare1 (binT ha hb2 I (R := fun x y H2 => ∃ a b dx dy fs gs, x = .ref a ∧ y = .ref b ∧ H2 a = some (.ins C dx fs) ∧ H2 b = some (.ins C dy gs) ∧ sp [x, y] H2 (fun v H3 => ∃ k, v = .bl k ∧ Q (.bl k) H3) (E σ)) h fun v u s2 x y H2 I2 rx ry q => ?_) hm
  obtain ⟨a1, b1, dx, dy, fs, gs, rfl, rfl, h1, h2, hsp⟩ := q
  cases rx
  cases ry
  show wpAny (model X.prog X.w) X.A (richCompare .Eq (.ref a1) (.ref b1)) (EP X pins σ Q) X.xe s2
  obtain ⟨mA, J, _⟩ := ins_get I2.hok h1
  obtain ⟨mB, J', _⟩ := ins_get I2.hok h2
  obtain ⟨od, J, _⟩ := J.look
  obtain ⟨od', J', _⟩ := J'.look
  obtain ⟨m, hF⟩ := I2.fr
  refine PySem.W.cmp_K (op := .Eq) (tb := .ref C) hr.units0 hF I2.ok.mod.kin J J'.type (by simp [PySem.W.notFirst]) hM.at_ hM.fn ?_
  have hl := F.len _ _ _ _ hsp
  have r2 : Vals [V.ref a1, V.ref b1] [Value.ref a1, Value.ref b1] := .cons rfl (.cons rfl .nil)
  refine wpAny_call (codeAny_mono (F.run X.A X.stack s2 H2 ⟨[.ref a1, .ref b1], []⟩ [.ref a1, .ref b1] [.ref a1, .ref b1] _ (E σ) hr I2.env0 (by
    have := hb s2 [.ref a1, .ref b1] I2.kIn (by simpa using hl)
    simpa using this) r2 hsp) fun r s' hq => ?_)
  cases r with
  | error e => exact hx σ pins H2 s2 e s' I2 hq
  | ok fl =>
    cases fl with
    | ret w =>
      obtain ⟨z, H', I', rz, k, rfl, q⟩ := I2.after hq
      cases rz
      exact ⟨.bl k, H', I', rfl, q⟩
    | next => exact False.elim hq
    | brk => exact False.elim hq
    | cont => exact False.elim hq
end
/-! ### the mirror -/
def mEqOwn (c : Str) (m : MF) (ma mb : ME) : ME := fun env => R.bind (ma env) fun p => R.bind (mb p.2) fun q => match frzs q.2 [p.1, q.1] with
  | some ([.ins c1 fs, .ins c2 gs], e) => if c1 = c ∧ c2 = c then (match m [.val (.ins c1 fs), .val (.ins c2 gs)] with
    | .ok (.val (.bl b)) [] => .ok (.ob (.val (.bl b)), e)
    | .exc x xs [] => .exc x xs e
    | _ => .stuck) else .stuck
  | _ => .stuck
theorem tM_eqOwn {k : Kn} {W : WX} {σ : L2.St} {H : Hp} {Q : VK} {c : Str} {C : Addr} {m : MF} {ma mb : ME} (g : k.G c = some C) (h : tM k W (mEqOwn c m ma mb) σ H Q) :
    tEqOwn C (spM k.b [false, false] m) (fun σ cls d H => W cls d σ H) (tM k W ma) (tM k W mb) σ H Q := by
  obtain ⟨Hk, F, env, w, h⟩ := h
  have b := h.bad
  refine seqE (Wl.nil w) b.exc b.ns fun x e1 v Hk1 H1 m1 ex1 w1 => ?_
  unfold mEqOwn at h
  rw [m1] at h
  have h1 := WantE.mono h ex1
  rw [R.bind_ok] at h1
  have b := h1.bad
  refine seqE w1 b.exc b.ns fun y e2 u Hk2 H2 m2 ex2 w2 => ?_
  simp only at h1
  rw [m2] at h1
  have h2 := WantE.mono h1 ex2
  rw [R.bind_ok] at h2
  simp only at h2
  have w2 : Wl k Hk2 F H2 σ e2 [v, u] [x, y] := w2
  split at h2
  · rename_i c1 fs c2 gs e hz
    split at h2
    · rename_i hc
      obtain ⟨rfl, rfl⟩ := hc
      obtain ⟨Hk3, ex3, w3, r3⟩ := w2.frzs hz
      have h3 := WantE.mono h2 ex3
      have r3' := r3
      cases r3 with
      | cons ra rr =>
        cases rr with
        | cons rb rn =>
          cases rn
          cases ra with
          | @ins a C1 dx _ ps _ ga ha fa =>
            rw [g] at ga
            cases ga
            cases rb with
            | @ins b2 C2 dy _ qs _ gb hb fb =>
              rw [g] at gb
              cases gb
              refine ⟨a, b2, dx, dy, ps, qs, rfl, rfl, w3.ex _ _ ha, w3.ex _ _ hb, rfl, ?_⟩
              obtain ⟨F2, w4, back⟩ := (show Wd k Hk3 F H2 (([V.ref a, V.ref b2].map some) ++ σ) (([O.val (.ins c2 fs), O.val (.ins c2 gs)].map some) ++ e) from (w3.pushV (.ins g hb fb)).pushV (.ins g ha fa)).aside rfl
              refine ⟨Hk3, F2, [.val (.ins c2 fs), .val (.ins c2 gs)], w4.toB rfl, ?_⟩
              generalize m [.val (.ins c2 fs), .val (.ins c2 gs)] = r at h3
              cases r with
              | ok o io =>
                split at h3
                · rename_i bb heq
                  cases heq
                  intro z Hk' H' ex w'
                  have hv := w'.topV
                  cases hv
                  have wb := back Hk' H' [] [] ex w'.ofB.drop
                  exact ⟨bb, rfl, h3 _ Hk' H' ex (Wl.val wb (.bl bb))⟩
                · rename_i heq
                  cases heq
                · exact h3.elim
              | exc cx xs io =>
                split at h3
                · rename_i heq
                  cases heq
                · rename_i heq
                  cases heq
                  intro cls dd Hk' H' ex w' xc
                  obtain ⟨C', c1', c2', c3'⟩ := xc
                  have wb := back Hk' H' [] [] ex w'.ofB
                  exact h3 cls dd Hk' H' ex wb ⟨C', c1', c2', c3'.imp id fun ⟨z, d, ps, a, b, c⟩ => ⟨z, d, ps, a, b, RpF.kn (k := k.b) (k' := k) rfl c⟩⟩
                · exact h3.elim
              | stuck => exact h3.elim
    · exact h2.elim
  · exact h2.elim
section
variable {X : Cx} {G : Gn} {W : WX} {pos : Pos} {a b : Expr} {ma mb : ME}
theorem q_eqOwn {f C : Addr} {fd : FuncData} {ps : List Str} {c : Str} {lv : Nat} {m : MF} (hM : Meth X.K C "__eq__" f) (F : FnOk X.prog X.w X.K X.mg X.base (L2.CX X.prog X.w) lv f fd ps (spM (mkK X.K G).b [false, false] m)) (hr : Room lv X.A) (hG : G.g c = some C) (hb : Binds X.K fd ps []) (tk : Takes X W)
    (ha : PM X G W a ma) (hb2 : PM X G W b mb) : PM X G W (.Compare a [.Eq] [b] pos) (mEqOwn c m ma mb) :=
  (pe_eqOwn F hr hM hb (fun σ => passAt tk σ) ha hb2 (nomark _)).imp fun _ _ _ h => tM_eqOwn (k := mkK X.K G) hG h
end
end SW

/-! tables of isinstance, from facts -/
namespace SW
open PySem PySem.Spec L2 PyProof.Rows
theorem lookup_mem {α β : Type} [BEq α] [LawfulBEq α] {a : α} {b : β} : ∀ {l : List (α × β)}, l.lookup a = some b → (a, b) ∈ l
  | [], h => by simp at h
  | (x, y) :: l, h => by
    rw [List.lookup_cons] at h
    split at h
    · rename_i q
      have q : a = x := by simpa using q
      subst q
      cases h
      simp
    · exact List.mem_cons_of_mem _ (lookup_mem h)
theorem fm_nil {α : Type} {p : α → Prop} : ∀ x ∈ ([] : List α), p x := fun _ h => by simp at h
theorem fm_cons {α : Type} {p : α → Prop} {a : α} {l : List α} (h : p a) (r : ∀ x ∈ l, p x) : ∀ x ∈ a :: l, p x := List.forall_mem_cons.mpr ⟨h, r⟩
theorem IsA.of {K : PySem.W.Frag} {g : Str → Option Addr} {f : Value → Option Bool} {t : List (String × Bool)} {o x : List (Str × Bool)} (h1 : ∀ p ∈ t, f (.type p.1) = some p.2) (h2 : ∀ p ∈ o, ∃ C, g p.1 = some C ∧ InsC K C ∧ f (.ref C) = some p.2)
    (h3 : ∀ p ∈ x, ∃ C, g p.1 = some C ∧ ExcC K C ∧ f (.ref C) = some p.2) : IsA K g f (tabOf t o x) := by
  refine ⟨fun s b _ h => h1 _ (lookup_mem h), fun c b C h hg => ?_, fun c b C h hg => ?_⟩
  · obtain ⟨C', g', a, b⟩ := h2 _ (lookup_mem h)
    rw [hg] at g'
    cases g'
    exact ⟨a, b⟩
  · obtain ⟨C', g', a, b⟩ := h3 _ (lookup_mem h)
    rw [hg] at g'
    cases g'
    exact ⟨a, b⟩
/-- a built-in type is no class of one's own -/
theorem kit_tyown {K : PySem.W.Frag} {C : Addr} {s : String} {b : Bool} (hd : PySem.W.hasDictIn K C = true) (ht : PySem.W.typeIn K (.ref C) = some (.type "type")) (hs : PySem.W.subIn K (.type s) (.ref C) = some b) : PySem.W.kitOne K (.type s) (.ref C) = some b := by
  obtain ⟨cd, hc, _⟩ := PySem.W.any_some hd
  have e2 : ((PySem.W.clsIn K C).isSome && PySem.W.typeIn K (.ref C) == some (.type "type")) = true := by rw [hc, ht] <;> rfl
  unfold PySem.W.kitOne
  split
  · rename_i z
    cases z
  · unfold PySem.W.kitCls
    simp only [e2, if_true]
    exact hs
end SW

/-! bool(x), d.setdefault(k, v) with plain keys, text.upper() -/
namespace SW
open PySem PySem.Spec L2 PyProof.Rows
def fBool : List SW.D → Option O
  | [.bl b] => some (.val (.bl b))
  | [.int i] => some (.val (.bl (i != 0)))
  | [.lst ds] => some (.val (.bl (!ds.isEmpty)))
  | _ => none
def rBool (K : PySem.W.Frag) : List V → Hp → VK → Prop := fun xs H Q => ((∃ i, xs = [.int i] ∧ Q (.bl (i != 0)) H) ∨ ∃ k, xs = [.bl k] ∧ Q (.bl k) H) ∨ ∃ (a : Addr) (zs : List V), xs = [.ref a] ∧ SqL K H a zs ∧ Q (.bl (!zs.isEmpty)) H
theorem cr_bool {X : Cx} : CallR X (.type "bool") (rBool X.K) := CallR.or call_bool1 call_boolL
theorem s_bool {k : Kn} : CallS k (rBool k.K) fBool := by
  intro Hk F H σ env vs ds o Q w rs e q
  unfold fBool at e
  split at e
  · cases e
    obtain ⟨v, rfl, r⟩ := rs.one
    cases r.bl
    exact .inl (.inr ⟨_, rfl, q _ Hk H (Ex.refl _) (Wl.val w (.bl _))⟩)
  · cases e
    obtain ⟨v, rfl, r⟩ := rs.one
    cases r.int
    exact .inl (.inl ⟨_, rfl, q _ Hk H (Ex.refl _) (Wl.val w (.bl _))⟩)
  · cases e
    obtain ⟨v, rfl, r⟩ := rs.one
    obtain ⟨p, xs, rfl, h3, r1⟩ := r.lst w.ex
    have hl := r1.len
    refine .inr ⟨p, xs, rfl, SqL.of h3, ?_⟩
    rename_i ds1
    have he : xs.isEmpty = ds1.isEmpty := by
      cases xs <;> cases ds1 <;> simp at hl ⊢
    rw [he]
    exact q _ Hk H (Ex.refl _) (Wl.val w (.bl _))
  · cases e
section
variable {X : Cx} {G : Gn} {W : WX} {pos p : Pos} {e : Expr} {es : List Expr} {ma : MA}
theorem q_bool (hm : X.mg "bool" = none) (ha : PMA X G W (e :: es) ma) (hg : Gl X "bool" := by rfl)
    (he : starEach (e :: es) X.env = (false, eval e X.env) :: starEach es X.env := by rfl) (hpl : (backTo pos (starEach es X.env)).any (·.1) = false := by rfl) : PM X G W (.Call (.Name "bool" p) (e :: es) [] pos) (mCB fBool ma) :=
  (pe_callTy cr_bool hg hm (by decide +kernel) ha (by decide) (by decide) he hpl).imp fun _ _ _ h => tM_cb (k := mkK X.K G) s_bool h
end
end SW

/-! set(l) of a list of texts, with texts met again; len of it -/
namespace SW
open PySem PySem.Spec L2 PyProof.Rows
/-- how many different texts there are -/
def disR : List Str → Nat
  | [] => 0
  | x :: r => if x ∈ r then disR r else disR r + 1
theorem disR_app (a b : List Str) : disR b ≤ disR (a ++ b) := by
  induction a with
  | nil => exact Nat.le_refl _
  | cons x a ih =>
    show disR b ≤ (if x ∈ a ++ b then disR (a ++ b) else disR (a ++ b) + 1)
    split <;> omega
theorem disR_le (a : List Str) : disR a ≤ a.length := by
  induction a with
  | nil => exact Nat.le_refl _
  | cons x a ih =>
    show (if x ∈ a then disR a else disR a + 1) ≤ _
    rw [List.length_cons]
    split <;> omega
theorem take_rev {xs : List Str} {i : Nat} (h : i < xs.length) : (xs.take (i + 1)).reverse = xs.getD i Str.empty :: (xs.take i).reverse := by
  rw [List.take_add_one, List.getElem?_eq_getElem h, List.getD_eq_getElem?_getD, List.getElem?_eq_getElem h]
  simp
theorem take_dis (xs : List Str) (i : Nat) : disR (xs.take i).reverse ≤ disR xs.reverse := by
  have e : xs.reverse = (xs.drop i).reverse ++ (xs.take i).reverse := by rw [← List.reverse_append, List.take_append_drop]
  rw [e]
  exact disR_app _ _
section
variable {prog : Program} {w : World} {A : Around} {R : Result → Shared → Prop} {I : Addr} {fp wr : List Addr} {G : Array GenState → Array GenState → Prop} {n : Nat} {P : Nat → Value → Prop} {St : Nat → Shared → Prop}
/-- what is held behind i turns -/
def HeldS (prog : Program) (w : World) (h : Heap) (a : Addr) (ys : List Str) : Prop := h.SetOf (PySem.strKind prog w) a (fun k => decide (k ∈ ys)) (disR ys)
theorem HeldS.keep {h h' : Heap} {a : Addr} {ys : List Str} (x : HeldS prog w h a ys) (k : ∀ o, h.get? a = some o → h'.get? a = some o) : HeldS prog w h' a ys := by
  obtain ⟨o, es, ep, t, ho, r⟩ := x
  exact ⟨o, es, ep, t, k o ho, r⟩
theorem fill_loop (W : WalksS prog w A.in1 I fp wr G n P St) (S : Addr) (hSf : S ∉ fp) (xs : List Str) (hsz : xs.length = n) (hb : disR xs.reverse + 1 < scanBound)
    (hval : ∀ i v, P i v → ∃ t, v = .str (xs.getD i Str.empty) t) (k : Nat) : ∀ (i : Nat) (s : Shared), n - i = k → i ≤ n → St i s → HeldS prog w s.heap S (xs.take i).reverse →
    (∀ s', Moved (S :: wr) G s s' → HeldS prog w s'.heap S xs.reverse → R (.ok (.ret .none)) s') → codeAny (model prog w) A (.builtin "set.update.loop" ⟨[.ref S, .ref I], []⟩) R s := by
  have hSw : S ∉ wr := fun h => hSf (W.sub _ h)
  have wider : ∀ b ∈ wr, b ∈ S :: wr := fun b h => List.mem_cons_of_mem _ h
  induction k with
  | zero =>
    intro i s e hi st held fin
    have ei : i = n := by omega
    subst ei
    rw [List.take_of_length_le (by omega)] at held
    refine codeAny_builtin F.entry_set_update_loop ?_
    rw [Around.under_plainId F.plain_set_update_loop _]
    show wpAny _ A.in1 (pyNext (.ref I) >>= _) _ _ s
    exact wpAny_bind (W.done s _ _ st fun s' mv => wpAny_pure (fin s' (mv.mono wider) (held.keep fun o e => mv.heap S o hSw e)))
  | succ k ih =>
    intro i s e hi st held fin
    have lt : i < n := by omega
    refine codeAny_builtin F.entry_set_update_loop ?_
    rw [Around.under_plainId F.plain_set_update_loop _]
    show wpAny _ A.in1 (pyNext (.ref I) >>= _) _ _ s
    refine wpAny_bind (W.item i s _ _ lt st fun v s' hP st' mv => ?_)
    obtain ⟨t, rfl⟩ := hval i v hP
    have held' : HeldS prog w s'.heap S (xs.take i).reverse := held.keep fun o e => mv.heap S o hSw e
    refine wpAny_bind (wpAny_holding ?_)
    unfold setAdd
    refine wpAny_holding (wpAny_bind ((PySem.strKind prog w).pyHash (k := xs.getD i Str.empty) (strKind_is _ _ _ _) ?_))
    have le := take_dis xs i
    refine wpAny_setAddHashed_of (knd := PySem.strKind prog w) (s := { s' with toks := s'.toks + 1 }) (strKind_is _ _ _ _) rfl held' (by omega) fun h' same new => ?_
    have tr := take_rev (xs := xs) (i := i) (by omega)
    have next : HeldS prog w h' S (xs.take (i + 1)).reverse := by
      rw [tr]
      refine SetOf_congr new (fun k' => ?_) ?_
      · show (decide (k' ∈ (xs.take i).reverse) || decide (k' = xs.getD i Str.empty)) = decide (k' ∈ xs.getD i Str.empty :: (xs.take i).reverse)
        rw [← Bool.decide_or]
        exact decide_eq_decide.mpr (by rw [List.mem_cons]; exact Or.comm)
      · show (if decide (xs.getD i Str.empty ∈ (xs.take i).reverse) = true then disR (xs.take i).reverse else disR (xs.take i).reverse + 1) = (if xs.getD i Str.empty ∈ (xs.take i).reverse then disR (xs.take i).reverse else disR (xs.take i).reverse + 1)
        simp only [decide_eq_true_eq]
    refine wpAny_pure ⟨plainId_quiet F.plain_set_update_loop _, ih (i + 1) _ (by omega) lt (W.frame _ s' _ _ st' (Nat.le_succ _) fun b hb o e => ?_) next fun s'' mv2 held2 => ?_⟩
    · exact (same.2 b fun q => hSf (q ▸ hb)).trans e
    · refine fin s'' (Moved.trans W.gtrans ((mv.mono wider).then_heap (Nat.le_succ _) fun b o nb e => ?_) mv2) held2
      exact (same.2 b fun q => nb (q ▸ List.mem_cons_self ..)).trans e
end
end SW

set_option maxHeartbeats 6400000
/-! set(l), l a list of texts -/
namespace SW
open PySem PySem.Spec L2 PyProof.Rows
section
variable {prog : Program} {w : World} {A : Around} {E : Value → Shared → Prop} {s : Shared}
/-- a set just made -/
abbrev bare (led : Bool) : Obj := { cls := .type "set", dict := none, data := .set #[] 0 (.fresh 0 0 led) }
abbrev withBare (s : Shared) (led : Bool) : Shared := { s with heap := s.heap.push (bare led) }
/-- what is left behind: the set of the texts at the heap's end, all else as it was -/
def Made (prog : Program) (w : World) (s s' : Shared) (xs : List Str) : Prop :=
  ∃ h' tk, s' = { s with heap := h', toks := tk } ∧ HeldS prog w h' s.heap.objs.size xs.reverse ∧ ∀ b o, b < s.heap.objs.size → s.heap.get? b = some o → h'.get? b = some o
theorem bare_held (s : Shared) (led : Bool) (o : Obj) (xs : List Str) : HeldS prog w ((withBare s led).heap.push o) s.heap.objs.size (xs.take 0).reverse :=
  SetOf_congr ((setObjOf_fresh (knd := PySem.strKind prog w) led).setOf (Heap.get?_push_of_some _ (Heap.get?_push_size _ rfl)) (by decide)) (fun _ => rfl) rfl
theorem init_loop {l : Addr} {items : Array Value} {xs : List Str} {led : Bool} {A : Around} {R : Result → Shared → Prop} (hh : A.in1.handled = none) (hl : (withBare s led).heap.IsList l items) (hlt : l < s.heap.objs.size)
    (hi : StrsAre items.toList xs) (hb : disR xs.reverse + 1 < scanBound) (h : ∀ s', Made prog w s s' xs → R (.ok (.ret .none)) s') :
    codeAny (model prog w) A (.builtin "set.update.loop" ⟨[.ref s.heap.objs.size, .ref (withBare s led).heap.objs.size], []⟩) R
      { withBare s led with heap := (withBare s led).heap.push { cls := .type "list_iterator", data := .fields #[.ref l, .int 0 0] } } := by
  have size : (withBare s led).heap.objs.size = s.heap.objs.size + 1 := Heap.size_push _ _
  have far : l ≠ (withBare s led).heap.objs.size := Nat.ne_of_lt (by rw [size]; exact Nat.lt_succ_of_lt hlt)
  refine fill_loop ((Walks.list hh _ l far items).toS) s.heap.objs.size (by simp only [List.mem_cons, List.not_mem_nil, or_false, not_or]; exact ⟨Nat.ne_of_lt (by rw [size]; exact Nat.lt_succ_self _), Nat.ne_of_gt hlt⟩) xs
    (by rw [← StrsAre.len_eq hi, Array.length_toList]) hb (fun i v e => SS.strs_at hi i v (by rw [Array.getElem?_toList]; exact e)) _ 0 _ rfl (Nat.zero_le _)
    ⟨⟨_, Heap.get?_push_size _ rfl, rfl, rfl⟩, hl.push _⟩ (bare_held s led _ xs) fun s' mv held => ?_
  obtain ⟨h', g', d', tk', os'⟩ := s'
  cases (mv.gens : g' = s.gens)
  cases (mv.drawn : d' = s.drawn)
  cases (mv.os : os' = s.os)
  exact h _ ⟨h', tk', rfl, held, fun b o lt e => mv.heap b o (by simp only [List.mem_cons, List.not_mem_nil, or_false, not_or]; exact ⟨Nat.ne_of_lt lt, Nat.ne_of_lt (by rw [size]; exact Nat.lt_succ_of_lt lt)⟩) (Heap.get?_push_of_some _ (Heap.get?_push_of_some _ e))⟩
theorem set_texts {l : Addr} {items : Array Value} {xs : List Str} {Q : Value → Shared → Prop} (hh : A.handled = none) (hl : s.heap.IsList l items) (hi : StrsAre items.toList xs) (hb : disR xs.reverse + 1 < scanBound)
    (h : ∀ s', Made prog w s s' xs → Q (.ref s.heap.objs.size) s') : wpAny (model prog w) A (call (.type "set") [.ref l]) Q E s := by
  obtain ⟨c, tl, hmro⟩ := F.called_set.mro
  have hmade := F.called_set.made
  have hsub := F.called_set.sub
  have h1 := F.called_set.notType
  have h2 := F.called_set.canCreate
  have hct := F.typeCall_set_1 (.ref l)
  refine wpAny_call (codeAny_of_tree ?_)
  show wpAny _ _ (callAny (.type "set") _) _ _ _
  refine wpAny_pure ⟨Code.quiet_builtin _ (by decide +kernel), codeAny_builtin F.entry_type_call ?_⟩
  rw [Around.under_plain (weight_type_call_type "set" [.ref l] []) rfl]
  repeat (any_goals (first | assumption | wp_step))
  refine codeAny_mono (code_set_new_1 (.ref l) (E := E) (Q₁ := fun v s₁ => ∃ led : Bool, v = .ref s.heap.objs.size ∧ s₁ = withBare s led) fun led => ⟨led, rfl, rfl⟩) fun r s₁ hr => ?_
  match r, hr with
  | .error e, hr => exact hr
  | .ok (.ret v), hr =>
    obtain ⟨led, rfl, rfl⟩ := hr
    have hT : Shared.TypeIs (withBare s led) (.ref s.heap.objs.size) "set" := ⟨_, Heap.get?_push_size _ rfl, rfl⟩
    have hli := F.called_set.init.lookup
    have hbi := F.called_set.init.bind (.ref s.heap.objs.size)
    repeat (any_goals (first | assumption | wp_step))
    refine codeAny_mono (codeAny_call_builtin (R := wants (fun r s₂ => r = .none ∧ Made prog w s s₂ xs) E) F.called_set.init.plain F.entry_set_init (check_set_init_1 hT ?_)) fun r₂ s₂ hr₂ => ?_
    · have lt : l < s.heap.objs.size := by
        obtain ⟨o, ho, _⟩ := hl
        exact Heap.lt_size ho
      obtain ⟨ol, hol, hcl, nl, hdl⟩ := hl
      obtain ⟨ocls, odict, odata, oslots⟩ := ol
      simp only at hcl hdl
      subst hcl; subst hdl
      have hol' : (withBare s led).heap.get? l = some { cls := .type "list", dict := odict, data := .seq items nl, slots := oslots } := Heap.get?_push_of_some _ hol
      have hl1 : (withBare s led).heap.IsList l items := ⟨_, hol', rfl, nl, rfl⟩
      have q1 := F.sub_list_set
      have q2 := F.sub_list_frozenset
      have q3 : (Value.type "list" == Value.type "dict") = false := by decide
      unfold Builtin.«set.__init__» noKeywords Builtin.Frozenset.updateFrom
      generalize hPI : pyIter = PI
      wp_walk
      subst hPI
      refine wpAny_pyIter_list hl1 ?_
      refine wpAny_bind (wpAny_runValue ?_)
      refine init_loop (by simp [hh]) hl1 lt hi hb fun s' m => ?_
      refine wpAny_pure ?_
      show wpAny _ _ (ret Value.none) _ _ _
      exact wpAny_pure ⟨rfl, m⟩
    · match r₂, hr₂ with
      | .error e, hr₂ => exact hr₂
      | .ok (.ret v), hr₂ =>
        obtain ⟨rfl, m⟩ := hr₂
        obtain ⟨h', tk, rfl, m1, m2⟩ := m
        repeat (any_goals (first | assumption | wp_step))
        exact h _ ⟨h', tk, rfl, m1, m2⟩
end
end SW

set_option maxHeartbeats 6400000
/-! len(set(l)), l a list of texts -/
namespace SW
open PySem PySem.Spec L2 PyProof.Rows
/-- how many different ones -/
def disN : List (List Nat) → Nat
  | [] => 0
  | x :: r => if x ∈ r then disN r else disN r + 1
theorem S_eq {a b : List Nat} : SW.S a = SW.S b ↔ a = b := by
  constructor
  · intro h
    have h := congrArg (fun x : Str => x.cps.toList) h
    simpa [SW.S] using h
  · exact fun h => h ▸ rfl
theorem dis_map : ∀ ss : List (List Nat), disR (ss.map SW.S) = disN ss
  | [] => rfl
  | x :: r => by
    show (if SW.S x ∈ r.map SW.S then disR (r.map SW.S) else disR (r.map SW.S) + 1) = if x ∈ r then disN r else disN r + 1
    rw [dis_map r]
    have e : SW.S x ∈ r.map SW.S ↔ x ∈ r := by
      rw [List.mem_map]
      exact ⟨fun ⟨y, h, q⟩ => S_eq.mp q ▸ h, fun h => ⟨x, h, rfl⟩⟩
    simp only [e]
def fLenSet : SW.D → Option O
  | .lst ds => match txts ds with
    | some ss => if disN ss.reverse < 4000 then some (.val (.int (disN ss.reverse))) else none
    | none => none
  | _ => none
def rLenSet (K : PySem.W.Frag) : V → Hp → VK → Prop := fun x H Q => ∃ l, ∃ xs : List Str, x = .ref l ∧ SqL K H l (xs.map V.str) ∧ disR xs.reverse < 4000 ∧ Q (.int (disR xs.reverse)) H
theorem s_lenSet {k : Kn} : UnS k (rLenSet k.K) fLenSet := by
  intro Hk F H σ env x a o Q w ra e q
  unfold fLenSet at e
  split at e
  · split at e
    · rename_i ds ss hss
      split at e
      · rename_i hl
        cases e
        obtain ⟨p, xs, rfl, h1, r1⟩ := ra.lst w.ex
        obtain ⟨rfl, hs⟩ := strs_V r1 hss
        have en : disR (ss.map SW.S).reverse = disN ss.reverse := by rw [← List.map_reverse, dis_map]
        refine ⟨p, ss.map SW.S, rfl, SqL.of h1, by rw [en]; exact hl, ?_⟩
        rw [en]
        exact q _ Hk H (Ex.refl _) (Wl.val w (.int _))
      · cases e
    · cases e
  · cases e
section
variable {X : Cx} {a : Expr} {ta : TE} {p p2 q pos : Pos}
theorem pe_lenSetS (hc : X.calm = true) (hg : Gl X "len") (hm : X.mg "len" = none) (hg2 : Gl X "set") (hm2 : X.mg "set" = none) (ha : PE X a ta)
    (na : starEach [a] X.env = (false, eval a X.env) :: starEach [] X.env := by rfl) : PE X (.Call (.Name "len" p) [.Call (.Name "set" p2) [a] [] q] [] pos) (tUn (rLenSet X.K) ta) := by
  refine ⟨fun pins s σ H Q I h => ?_⟩
  refine Call_ (ld_blt I hg hm boot_len ?_)
  refine PyProof.Rows.callWith_builtin1 (args_cons ?_ rfl) rfl rfl
  refine Call_ (ld_blt I hg2 hm2 boot_set ?_)
  refine PyProof.Rows.callWith_type1 (args_cons (thn (ha.run pins s σ H _ I h) fun v s1 ⟨x, H1, I1, r1, ok⟩ => args_nil ?_) na) na rfl
  obtain ⟨l, xs, rfl, hq, few, q1⟩ := ok
  cases r1
  obtain ⟨its, r, pl, hz⟩ := I1.list hq
  refine set_texts (xs := xs) (I1.ok.hd hc) pl.isList (by simpa using L2.strsAre_of r) (by unfold scanBound; omega) fun s2 m => ?_
  obtain ⟨h', tk, rfl, held, same⟩ := m
  obtain ⟨o, es, ep, t, ho, hex, hd, _, _, _, hf, hn⟩ := held
  have I2 : Inv X pins σ H1 { s1 with heap := h', toks := tk } := I1.kept fun b o e => same b o (Heap.lt_size e) e
  refine args_nil ?_
  exact call_len_set ho hex hd hf (by rw [hn]; omega) ⟨.int (disR xs.reverse), H1, I2.tok _, ⟨_, by rw [hn]⟩, q1⟩
variable {G : Gn} {W : WX} {ma : ME}
theorem q_lenSet (hc : X.calm = true) (hm : X.mg "len" = none) (hm2 : X.mg "set" = none) (ha : PM X G W a ma) (hg : Gl X "len" := by rfl) (hg2 : Gl X "set" := by rfl)
    (na : starEach [a] X.env = (false, eval a X.env) :: starEach [] X.env := by rfl) : PM X G W (.Call (.Name "len" p) [.Call (.Name "set" p2) [a] [] q] [] pos) (mOp1 fLenSet ma) :=
  (pe_lenSetS hc hg hm hg2 hm2 ha na).imp fun _ _ _ => tM_op1 (k := mkK X.K G) s_lenSet
end
end SW

set_option maxHeartbeats 6400000
/-! list(text), text.upper() -/
namespace SW
open PySem PySem.Spec L2 PyProof.Rows
def fListX : List SW.D → Option O
  | [.str s] => if s.length ≤ LIM then some (.lst (s.map fun c => .str [c])) else none
  | ds => fList ds
def rListT : List V → Hp → VK → Prop := fun vs H Q => ∃ z : Str, vs = [V.str z] ∧ z.length ≤ sizeLine ∧ ∀ p, H p = none → Q (.ref p) (upd H p (.lst ((z.cps.toList.map fun c => S [c]).map V.str)))
theorem cr_listT {X : Cx} (hc : X.calm = true) : CallR X (.type "list") rListT := by
  intro pins s σ H vs us Q I r h
  obtain ⟨z, rfl, hz, q⟩ := h
  obtain ⟨u, rfl, t, rfl⟩ := vals1 r
  refine call_list_str (I.ok.hd hc) z t (fun h' tk acc c k ho it => ?_) hz
  have hlen : ((z.cps.toList.map fun c => S [c]).map V.str).length ≤ sizeLine := by
    rw [List.length_map, List.length_map]
    simpa [Str.length] using hz
  have rv : StrsAre acc.toList (z.cps.toList.map fun c => S [c]) := by
    have := strsAre_of (x := z.cps.toList) (vs := acc.toList) (n := 0) (fun j v hj => by
      obtain ⟨d, u, h1, h2⟩ := it.2 j v (by simpa using hj)
      exact ⟨d, u, by simpa using h1, h2⟩) (by simpa using it.1)
    simpa using this
  exact ⟨.ref s.heap.objs.size, _, I.laid (t' := tk) k (Nat.le_refl _) (show ObjOk X.prog X.w _ h' _ (.lst ((z.cps.toList.map fun c => S [c]).map V.str)) from ⟨hlen, acc.toList, c, vals_of_strs rv, ho⟩), rfl, q _ (I.hok.fresh (Nat.le_refl _))⟩
def rListX (K : PySem.W.Frag) : List V → Hp → VK → Prop := fun vs H Q => rListA K vs H Q ∨ rListT vs H Q
theorem cr_listX {X : Cx} (hc : X.calm = true) : CallR X (.type "list") (rListX X.K) := CallR.or (cr_list2 hc) (cr_listT hc)
theorem s_listX {k : Kn} : CallS k (rListX k.K) fListX := by
  intro Hk F H σ env vs ds o Q w rs e q
  unfold fListX at e
  split at e
  · rename_i s
    split at e
    · rename_i hl
      cases e
      obtain ⟨v, rfl, r⟩ := rs.one
      obtain ⟨rfl, hok⟩ := r.str
      refine .inr ⟨S s, rfl, by simpa [Str.length, S] using lim hl, fun p hp => ?_⟩
      rw [show ((S s).cps.toList.map fun c => S [c]) = (s.map fun c => [c]).map S by rw [S_cps, List.map_map]; rfl]
      have e2 : (s.map fun c => SW.D.str [c]) = (s.map fun c => [c]).map SW.D.str := by rw [List.map_map]; rfl
      rw [e2] at q
      refine q _ Hk _ (Ex.refl _) (Wl.newL w hp (rp_strs fun t ht => ?_))
      obtain ⟨c, hc, rfl⟩ := List.mem_map.mp ht
      exact okS_sub hok (by simpa using hc)
    · cases e
  · exact .inl (s_list w rs e q)

/-! ### text.upper() -/
def upN (c : Nat) : Nat := PyProof.Rows.up1 c
def fUpper : SW.D → Option O
  | .str s => if s.length ≤ 5592405 ∧ s.all (· < 128) = true ∧ okS (s.map upN) = true then some (.val (.str (s.map upN))) else none
  | _ => none
def rUpper : V → List V → Hp → VK → Prop := fun x xs H Q => ∃ a, x = .str a ∧ xs = [] ∧ a.length ≤ 5592405 ∧ Q (.str (Txt.upper a)) H
def rUpper1 : V → Hp → VK → Prop := fun x H Q => (∃ a, x = .str a) ∧ rUpper x [] H Q
theorem s_upper {k : Kn} : UnS k rUpper1 fUpper := by
  intro Hk F H σ env x a o Q w ra e q
  unfold fUpper at e
  split at e
  · rename_i s
    split at e
    · rename_i hl
      cases e
      obtain ⟨rfl, hok⟩ := ra.str
      refine ⟨⟨S s, rfl⟩, S s, rfl, rfl, by simpa [Str.length, S] using hl.1, ?_⟩
      rw [show Txt.upper (S s) = S (s.map upN) from SX.upper_S hl.2.1]
      exact q _ Hk H (Ex.refl _) (Wl.val w (.str _ hl.2.2))
    · cases e
  · cases e
section
variable {X : Cx} {G : Gn} {W : WX} {pos p apos : Pos} {o e : Expr} {es : List Expr} {mo : ME} {ma : MA}
theorem q_upper (ho : PM X G W o mo) (hbase : attributeBase o "upper" X.env (eval o X.env) = eval o X.env := by rfl) (hline : (apos.endLine == pos.line) = true := by rfl) :
    PM X G W (.Call (.Attribute o "upper" apos) [] [] pos) (mOp1 fUpper mo) := (pe_upper ho hbase hline).imp fun _ _ _ h => tM_op1 (k := mkK X.K G) s_upper h
theorem q_listX (hc : X.calm = true) (hm : X.mg "list" = none) (ha : PMA X G W (e :: es) ma) (hg : Gl X "list" := by rfl)
    (he : starEach (e :: es) X.env = (false, eval e X.env) :: starEach es X.env := by rfl) (hpl : (backTo pos (starEach es X.env)).any (·.1) = false := by rfl) : PM X G W (.Call (.Name "list" p) (e :: es) [] pos) (mCB fListX ma) :=
  (pe_callTy (cr_listX hc) hg hm (by decide +kernel) ha (by decide) (by decide) he hpl).imp fun _ _ _ h => tM_cb (k := mkK X.K G) s_listX h
end
end SW

set_option maxHeartbeats 6400000
/-! list(range(n)) -/
namespace SW
open PySem PySem.Spec L2 PyProof.Rows
def natsD (n : Nat) : List SW.D := (List.range n).map fun i => SW.D.int (i : Nat)
def fListRg : SW.D → Option O
  | .int n => if 0 ≤ n ∧ n ≤ 16777216 then some (.lst (natsD n.toNat)) else none
  | _ => none
def rListRg : V → Hp → VK → Prop := fun x H Q => ∃ n, x = .int n ∧ RgOk 0 n ∧ ∀ q, H q = none → Q (.ref q) (upd H q (.lst (rgV 0 n)))
theorem rp_nats {k : Kn} {H : Hp} : ∀ l : List Nat, RpAll k H (l.map fun i => V.int (i : Nat)) (l.map fun i => SW.D.int (i : Nat))
  | [] => .nil
  | x :: r => .cons (.int _) (rp_nats r)
theorem s_listRg {k : Kn} : UnS k rListRg fListRg := by
  intro Hk F H σ env x a o Q w ra e q
  unfold fListRg at e
  split at e
  · rename_i n
    split at e
    · rename_i hl
      cases e
      cases ra.int
      refine ⟨n, rfl, RgOk.of_le (by decide) hl.2 (by decide) hl.1, fun p hp => ?_⟩
      have e1 : rgV 0 n = (List.range n.toNat).map fun i => V.int (i : Nat) := by
        unfold rgV
        rw [Int.sub_zero]
        exact List.map_congr_left fun i _ => by rw [Int.zero_add]
      rw [e1]
      exact q _ Hk _ (Ex.refl _) (Wl.newL w hp (rp_nats _))
    · cases e
  · cases e
section
variable {X : Cx} {G : Gn} {W : WX} {pos p p2 q : Pos} {e : Expr} {m : ME}
theorem q_listRg (hc : X.calm = true) (hm : X.mg "list" = none) (hm2 : X.mg "range" = none) (he : PM X G W e m) (hg : Gl X "list" := by rfl) (hg2 : Gl X "range" := by rfl)
    (na : starEach [e] X.env = (false, eval e X.env) :: starEach [] X.env := by rfl) (na2 : starEach [.Call (.Name "range" p2) [e] [] q] X.env = (false, eval (.Call (.Name "range" p2) [e] [] q) X.env) :: starEach [] X.env := by rfl) :
    PM X G W (.Call (.Name "list" p) [.Call (.Name "range" p2) [e] [] q] [] pos) (mOp1 fListRg m) :=
  (pe_listRg hc hg hm (prg_1 hg2 hm2 he na) na2).imp fun _ _ _ h => by
    have h1 := tM_op1 (k := mkK X.K G) s_listRg h
    exact h1
end
end SW

set_option maxHeartbeats 6400000
/-! a def with keyword defaults, called with all of its keywords -/
namespace SW
open PySem PySem.Spec L2 PyProof.Rows
theorem fun_kwbD {K : PySem.W.Frag} {x qual : Str} {st : Stmt} {f : Addr} {fd : FuncData} {ps ks : List Str} {n : Nat} {π : List Nat} {kws : List (Str × V)} (F : FunKw K x qual st kws f fd)
    (h : ∀ (kV doc pm : Value) (an : Option Addr) (cdv ct : Value) (us ws : List Value), us.length = n → ws.length = ks.length → bindArgs (PySem.W.fnOf x qual (defArgs st) (defBody st) (defScope st) .none kV doc pm an cdv ct) ⟨us, ks.zip ws⟩ = pure (ps.zip (permL π (us ++ ws)))) : KwB K fd ps n ks π := by
  obtain ⟨oc, od, dV, kV, doc, pm, an, cdv, ct, osl, rfl, lk, hcd, hD, hK⟩ := F.ex
  rcases hD with ⟨_, rfl⟩ | ⟨e, _⟩
  · exact ⟨fun s us ws h1 h2 => .of_eq (h kV doc pm an cdv ct us ws h1 h2)⟩
  · exact absurd rfl e
end SW

/-! a law's drawing, the other way to write mixed -/
namespace SW
open PySem L2
def bMix2 : MS := (mSeq (mSet 4 (mOp2 fAdd (mOp2 fMul (mC (.int 104729)) (mVar 1)) (mOp2 fDiv (mVar 3) (mC (.int 7)))))
  (mSeq (mFor (mStCells 0) (.nm 5) (mSet 4 (mOp2 fMod (mOp2 fAdd (mOp2 fMul (mVar 4) (mC (.int 48271))) (mVar 5)) (mVar 3))))
  (mSet 2 (mOp2 fAdd (mOp2 fMul (mVar 2) (mC (.int 2147483647))) (mOp2 fMod (mOp2 fPow (mVar 4) (mC (.int 5))) (mVar 3))))))
def bMixed2 : MS :=
  mSeq (mSet 1 (mOp2 fAdd (mStG 0 true) (mC (.int 1))))
  (mSeq (mStPut 0 true (mVar 1))
  (mSeq (mSet 2 (mC (.int 0)))
  (mSeq (mFor (mItems (mLst (mCons (mC (.int 2147483629)) (mCons (mC (.int 2147483587)) (mCons (mC (.int 2147483579)) (mCons (mC (.int 2147483563)) (mCons (mC (.int 2147483549)) (mCons (mC (.int 2147483543)) (mNil))))))))) (.nm 3) bMix2)
  (mRet (mVar 2)))))
def fMixed2 : MF := mDef 6 [true] bMixed2
def bTake2 : MS :=
  mSeq (mIfS (mAnd (mBool (mOp2 fEq (mStG 0 false) (mC (.int 0)))) (mBool (mStAny 0))) (mStPut 0 false (mStPop 0)) (mIfS (mBool (mOp2 fEq (mStG 0 false) (mC (.int 0)))) (mStPut 0 false (mCall fMixed2 [true] [] (mCons (mVar 0) (mNil)))) (mNext)))
  (mSeq (mSet 2 (mOp2 fMod (mStG 0 false) (mVar 1)))
  (mSeq (mStPut 0 false (mOp2 fDiv (mStG 0 false) (mVar 1)))
  (mRet (mVar 2))))
def fTake2 : MF := mDef 3 [true, false] bTake2
def bPick2 : MS :=
  mRet (mOp2 fIx (mVar 1) (mCall fTake2 [true, false] [] (mCons (mVar 0) (mCons (mCB fLen (mCons (mVar 1) (mNil))) (mNil)))))
def fPick2 : MF := mDef 2 [true, false] bPick2
def bText2 : MS :=
  mRet (mJoin fJoin (mC (.str [])) (mComp (mRange1 (mCons (mCall fTake2 [true, false] [] (mCons (mVar 0) (mCons (mOp2 fAdd (mVar 2) (mC (.int 1))) (mNil)))) (mNil))) (.nm 3) [3] (mYes) (mCall fPick2 [true, false] [] (mCons (mVar 0) (mCons (mVar 1) (mNil))))))
def fText2 : MF := mDef 4 [true, false, false] bText2

theorem mixed_ok2 (s : Sd) (h0 : 0 ≤ s.t) (h1 : s.t < 1000000000) : ∃ z : Int, fMixed2 [stO s] = .ok (.val (.int z)) [.st s.gs s.cs s.r (s.t + 1)] := by
  obtain ⟨gs, cs, r, t⟩ := s
  simp only at h0 h1
  have inner : ∀ (z p b : Int) (v : Option O), 0 < p → p < 2 ^ 31 → b.natAbs < 2 ^ 64 → ∃ (b' : Int) (v' : Option O), b'.natAbs < 2 ^ 64 ∧ forLoop (.nm 5) (mSet 4 (mOp2 fMod (mOp2 fAdd (mOp2 fMul (mVar 4) (mC (.int 48271))) (mVar 5)) (mVar 3))) (cs.map D.int) [some (.st gs cs r (t + 1)), some (.val (.int (t + 1))), some (.val (.int z)), some (.val (.int p)), some (.val (.int b)), v] =
      .nx [some (.st gs cs r (t + 1)), some (.val (.int (t + 1))), some (.val (.int z)), some (.val (.int p)), some (.val (.int b')), v'] := by
    intro z p b v hp hp2 hb
    obtain ⟨e', h1, b', v', rfl, h2⟩ := for_fold (t := .nm 5) (body := mSet 4 (mOp2 fMod (mOp2 fAdd (mOp2 fMul (mVar 4) (mC (.int 48271))) (mVar 5)) (mVar 3))) (fun (a : Unit) (x : Int) => a) (fun _ e => ∃ (b' : Int) (v' : Option O), e = [some (.st gs cs r (t + 1)), some (.val (.int (t + 1))), some (.val (.int z)), some (.val (.int p)), some (.val (.int b')), v'] ∧ b'.natAbs < 2 ^ 64) D.int cs () _
      (fun x hx a e => by
        rintro ⟨b', v', rfl, h2⟩
        refine ⟨[some (.st gs cs r (t + 1)), some (.val (.int (t + 1))), some (.val (.int z)), some (.val (.int p)), some (.val (.int b')), some (.val (.int x))], by simp, [some (.st gs cs r (t + 1)), some (.val (.int (t + 1))), some (.val (.int z)), some (.val (.int p)), some (.val (.int ((b' * 48271 + x) % p))), some (.val (.int x))], .inl ?_, _, _, rfl, ?_⟩
        · simp [small64, hp]
        · have a1 := Int.emod_nonneg (b' * 48271 + x) (by omega : p ≠ 0)
          have a2 := Int.emod_lt_of_pos (b' * 48271 + x) hp
          omega) ⟨b, v, rfl, hb⟩
    exact ⟨b', v', h2, h1⟩
  have outer : ∃ (z : Int) (v2 v3 v4 : Option O), forLoop (.nm 3) bMix2 ([2147483629, 2147483587, 2147483579, 2147483563, 2147483549, 2147483543].map D.int) [some (.st gs cs r (t + 1)), some (.val (.int (t + 1))), some (.val (.int 0)), none, none, none] =
      .nx [some (.st gs cs r (t + 1)), some (.val (.int (t + 1))), some (.val (.int z)), v2, v3, v4] := by
    obtain ⟨e', h1, z, v2, v3, v4, rfl⟩ := for_fold (t := .nm 3) (body := bMix2) (fun (a : Unit) (x : Int) => a) (fun _ e => ∃ (z : Int) (v2 v3 v4 : Option O), e = [some (.st gs cs r (t + 1)), some (.val (.int (t + 1))), some (.val (.int z)), v2, v3, v4]) D.int [2147483629, 2147483587, 2147483579, 2147483563, 2147483549, 2147483543] () _
      (fun x hx a e => by
        rintro ⟨z, v2, v3, v4, rfl⟩
        have hp : 0 < x ∧ x < 2 ^ 31 := by
          simp at hx
          omega
        obtain ⟨b', v', h2, h3⟩ := inner z x (104729 * (t + 1) + x / 7) v4 hp.1 hp.2 (by omega)
        refine ⟨[some (.st gs cs r (t + 1)), some (.val (.int (t + 1))), some (.val (.int z)), some (.val (.int x)), v3, v4], by simp, [some (.st gs cs r (t + 1)), some (.val (.int (t + 1))), some (.val (.int (z * 2147483647 + b' ^ 5 % x))), some (.val (.int x)), some (.val (.int b')), v'], .inl ?_, _, _, _, _, rfl⟩
        simp [bMix2, small64, h3, hp.1, h2]) ⟨0, none, none, none, rfl⟩
    exact ⟨z, v2, v3, v4, h1⟩
  obtain ⟨z, v2, v3, v4, h2⟩ := outer
  refine ⟨z, ?_⟩
  unfold fMixed2
  rw [mDef_eq]
  simp only [List.map_cons, List.map_nil] at h2
  have l6 : 6 ≤ LIM := by decide
  simp [bMixed2, h2, l6]
theorem take_ok2 (s : Sd) (k : Nat) (h : s.ok (k + 1)) (n : Int) (h0 : 0 < n) (h1 : n < 1073741824) : ∃ (i : Int) (s' : Sd), fTake2 [stO s, .val (.int n)] = .ok (.val (.int i)) [stO s'] ∧ s'.ok k ∧ 0 ≤ i ∧ i < n := by
  obtain ⟨gs, cs, r, t⟩ := s
  obtain ⟨hg, ht, hk⟩ := h
  simp only at hg ht hk
  have m1 : ∀ r : Int, 0 ≤ r % n ∧ r % n < n := fun r => ⟨Int.emod_nonneg r (by omega), Int.emod_lt_of_pos r h0⟩
  unfold fTake2
  rw [mDef_eq]
  by_cases hr : r = 0
  · subst hr
    cases gs with
    | nil =>
      obtain ⟨z, hz⟩ := mixed_ok2 ⟨[], cs, 0, t⟩ ht (by show t < _; omega)
      refine ⟨z % n, ⟨[], cs, z / n, t + 1⟩, ?_, ⟨by show 0 ≤ 63; decide, by show 0 ≤ t + 1; omega, by show t + 1 + (k : Int) ≤ _; omega⟩, (m1 z).1, (m1 z).2⟩
      simp only at hz
      simp [bTake2, hz, h0, h1]
    | cons g gs =>
      simp at hg
      have l : gs.length < LIM := Nat.lt_of_lt_of_le (by omega : gs.length < 64) (by decide)
      refine ⟨g % n, ⟨gs, cs, g / n, t⟩, ?_, ⟨by show gs.length ≤ 63; omega, ht, by show t + (k : Int) ≤ _; omega⟩, (m1 g).1, (m1 g).2⟩
      simp [bTake2, h0, h1, l]
  · refine ⟨r % n, ⟨gs, cs, r / n, t⟩, ?_, ⟨hg, ht, by show t + (k : Int) ≤ _; omega⟩, (m1 r).1, (m1 r).2⟩
    simp [bTake2, h0, h1, hr]
theorem pick_str2 (s : Sd) (k : Nat) (h : s.ok (k + 1)) (a : List Nat) (ha : a ≠ []) (hl : a.length ≤ 1000) : ∃ (c : Nat) (s' : Sd), fPick2 [stO s, .val (.str a)] = .ok (.val (.str [c])) [stO s'] ∧ s'.ok k ∧ c ∈ a := by
  have l0 : 0 < a.length := List.length_pos_iff.mpr ha
  obtain ⟨i, s', h1, h2, h3, h4⟩ := take_ok2 s k h a.length (by omega) (by omega)
  obtain ⟨c, h5, h6⟩ := at_ok a i h3 h4
  refine ⟨c, s', ?_, h2, h5⟩
  have l1 : a.length ≤ LIM := le_lim (by omega)
  unfold fPick2
  rw [mDef_eq]
  simp [bPick2, l1, h1, fIx, h6]
theorem pick_lst2 (s : Sd) (k : Nat) (h : s.ok (k + 1)) (a : List D) (ha : a ≠ []) (hl : a.length ≤ 1000) : ∃ (d : D) (s' : Sd), fPick2 [stO s, .val (.lst a)] = .ok (.val d) [stO s'] ∧ s'.ok k ∧ d ∈ a := by
  have l0 : 0 < a.length := List.length_pos_iff.mpr ha
  obtain ⟨i, s', h1, h2, h3, h4⟩ := take_ok2 s k h a.length (by omega) (by omega)
  obtain ⟨c, h5, h6⟩ := at_ok a i h3 h4
  refine ⟨c, s', ?_, h2, h5⟩
  unfold fPick2
  rw [mDef_eq]
  simp [bPick2, h1, fIx, h6]
theorem text_ok2 (s : Sd) (k m : Nat) (h : s.ok (k + m + 1)) (a : List Nat) (ha : a ≠ []) (hl : a.length ≤ 1000) (hm : m ≤ 1000) :
    ∃ (w : List Nat) (s' : Sd), fText2 [stO s, .val (.str a), .val (.int m)] = .ok (.val (.str w)) [stO s'] ∧ s'.ok k ∧ w.length ≤ m ∧ ∀ c ∈ w, c ∈ a := by
  obtain ⟨i, s1, h1, h2, h3, h4⟩ := take_ok2 s (k + m) h (m + 1) (by omega) (by omega)
  obtain ⟨acc, e', h5, w, s', rfl, hw, hk, hc, v, rfl⟩ := comp_inv (t := .nm 3) (vs := [3]) (mt := mYes) (me := mCall fPick2 [true, false] [] (mCons (mVar 0) (mCons (mVar 1) (mNil)))) (fun j : Nat => D.int (j : Int))
    (fun done acc e => ∃ (w : List Nat) (s' : Sd), acc = w.map (fun c => D.str [c]) ∧ w.length = done.length ∧ s'.ok (k + (m - done.length)) ∧ (∀ c ∈ w, c ∈ a) ∧ ∃ v, e = [some (stO s'), some (.val (.str a)), some (.val (.int m)), v])
    i.toNat (le_lim (by omega)) (List.range i.toNat) [] [] [some (stO s1), some (.val (.str a)), some (.val (.int m)), none] (by simp) (Nat.le_refl _)
    (fun x hx done acc e hd => by
      rintro ⟨w, s', rfl, hw, hk, hc, v, rfl⟩
      obtain ⟨c, s2, h6, h7, h8⟩ := pick_str2 s' (k + (m - (done.length + 1))) (hk.le (by omega)) a ha hl
      refine ⟨[some (stO s'), some (.val (.str a)), some (.val (.int m)), some (.val (.int (x : Int)))], by simp [wipeE], .inr ⟨_, .ob (.val (.str [c])), [some (stO s2), some (.val (.str a)), some (.val (.int m)), some (.val (.int (x : Int)))], .str [c], [some (stO s2), some (.val (.str a)), some (.val (.int m)), some (.val (.int (x : Int)))], rfl, ?_, by simp, w ++ [c], s2, ?_, ?_, ?_, ?_, _, rfl⟩⟩
      · simp [h6]
      · simp
      · simp [hw]
      · simpa using h7
      · intro d hd
        rcases List.mem_append.mp hd with hd | hd
        · exact hc d hd
        · simp at hd
          subst hd
          exact h8)
    ⟨[], s1, rfl, rfl, by simpa using h2, by simp, none, rfl⟩
  simp only [List.nil_append, List.length_range] at hw hk
  refine ⟨w, s', ?_, hk.le (by omega), by omega, hc⟩
  have l1 : (w.map fun c => [c]).length ≤ LIM := by simp; exact le_lim (by omega)
  have l2 : ((w.map fun c => [c]).map List.length).sum + (w.map fun c => [c]).length * ([] : List Nat).length ≤ LIM := by
    have : ((w.map fun c => [c]).map List.length).sum = w.length := by
      have : ∀ w : List Nat, ((w.map fun c => [c]).map List.length).sum = w.length := fun w => by
        induction w with
        | nil => rfl
        | cons c w ih => simp at ih ⊢; omega
      exact this w
    rw [this]
    simp
    exact le_lim (by omega)
  have hr : rng 0 i.toNat = (List.range i.toNat).map fun j : Nat => D.int (j : Int) := by simp [rng]
  unfold fText2
  rw [mDef_eq]
  have b1 : -1000000 ≤ i ∧ i ≤ 1000000 := by omega
  simp only [bText2, mRet_eq, mJoin, mC_eq, bind_ok, rd_ob, frz_val, Option.map, isStr, mComp_eq, mRange1_eq, mCons_eq, mCall_eq, mVar_eq, mNil_eq, mOp2_eq]
  simp [h1, b1, hr, h5, backE, wipeE, fJoin, txts_one, join_one]
  have l3 := l2
  simp at l3
  simp [l3]
end SW

/-! rules of the newer mirrors; sorted letters -/
namespace SW
open PySem L2
@[simp] theorem settle_nil (e : Env) : settle [] e = some ([], e) := rfl
@[simp] theorem settle_ob (o : O) (xs : List Vr) (e : Env) : settle (.ob o :: xs) e = (settle xs e).map fun p => (o :: p.1, p.2) := rfl
@[simp] theorem settle_sl (i : Nat) (xs : List Vr) (env : Env) : settle (.sl i :: xs) env = match frz1 env (.sl i) with
  | some (d, e) => (settle xs e).map fun p => (.val d :: p.1, p.2)
  | none => none := rfl
@[simp] theorem mParO_eq (js : List Nat) (ms : MA) (env : Env) : mParO js ms env = R.sb (ms env) fun p => match settle p.1 p.2 with
  | some (os, e) => if os.length = js.length ∧ js.all (fun j => decide (j < e.length)) = true then .nx (setOs js os e) else .stuck
  | none => .stuck := rfl
@[simp] theorem mLPut_eq (i : Nat) (mk mv : ME) (env : Env) : mLPut i mk mv env = R.sb (mv env) fun p => match p.2[i]? with
  | some (some (.lst _)) => R.sb (mk p.2) fun q => match frz1 q.2 p.1 with
    | some (x, e) => match rd e q.1 with
      | some (.int j) => match e[i]? with
        | some (some (.lst ds)) => match ixN ds.length j with
          | some n => .nx (e.set i (some (.lst (ds.set n x))))
          | none => .stuck
        | _ => .stuck
      | _ => .stuck
    | none => .stuck
  | _ => .stuck := rfl
@[simp] theorem mAppend_eq (i : Nat) (m : ME) (env : Env) : mAppend i m env = match env[i]? with
  | some (some (.lst _)) => R.bind (m env) fun p => match frz1 p.2 p.1 with
    | some (d, e) => match e[i]? with
      | some (some (.lst ds)) => if ds.length < LIM then .ok (.ob (.val .non), e.set i (some (.lst (ds ++ [d])))) else .stuck
      | _ => .stuck
    | none => .stuck
  | _ => .stuck := rfl
@[simp] theorem mNew_eq (c : Str) (m : MF) (ms : List Bool) (ds : List D) (ma : MA) (env : Env) : mNew c m ms ds ma env = R.bind (ma env) fun p => match argsO ms p.1 p.2 with
  | some (os, js, e) => newE e js (m (.ins c [] :: (os ++ ds.map O.val)))
  | none => .stuck := rfl
@[simp] theorem newE_ok (e : Env) (js : List Nat) (c : Str) (fs : List (Str × D)) (io : List O) : newE e js (.ok (.val .non) (.ins c fs :: io)) = match putB e js io with
    | some e2 => .ok (.ob (.ins c fs), e2)
    | none => .stuck := rfl
@[simp] theorem newE_exc (e : Env) (js : List Nat) (x : Str) (xs : List (Str × D)) (o : O) (io : List O) : newE e js (.exc x xs (o :: io)) = match putB e js io with
    | some e2 => .exc x xs e2
    | none => .stuck := rfl
@[simp] theorem frz_ins (c : Str) (fs : List (Str × D)) : O.frz (.ins c fs) = some (.ins c fs) := rfl
@[simp] theorem mMeth_eq (c nm : Str) (m : MF) (ms : List Bool) (ds : List D) (mr : ME) (ma : MA) (env : Env) : mMeth c nm m ms ds mr ma env = R.bind (mr env) fun p => match rd p.2 p.1 with
  | some (.ins c' fs) => if c' = c ∧ fs.lookup nm = none then R.bind (ma p.2) fun q => match argsO ms (p.1 :: q.1) q.2 with
    | some (os, js, e) => callE e js (m (os ++ ds.map O.val))
    | none => .stuck else .stuck
  | _ => .stuck := rfl
@[simp] theorem mFldSet_eq (c : Str) (i : Nat) (f : Str) (m : ME) (env : Env) : mFldSet c i f m env = R.sb (m env) fun p => match frz1 p.2 p.1 with
  | some (d, e) => match e[i]? with
    | some (some (.ins c' fs)) => if c' = c ∧ fs.length < 1000 then .nx (e.set i (some (.ins c' (putFD f d fs)))) else .stuck
    | _ => .stuck
  | none => .stuck := rfl
@[simp] theorem mIsiT_eq (Ts : List String) (m : ME) (env : Env) : mIsiT Ts m env = R.bind (m env) fun p => match (rd p.2 p.1).bind tyD with
  | some t => .ok (.ob (.val (.bl (Ts.any fun T => isTy t T))), p.2)
  | none => .stuck := rfl
/-! ### while, by a measure -/
theorem while_inv {t : MT} {body : MS} (P : Nat → Env → Prop) (Q : Env → Prop) (N : Nat) (hs : ∀ j e, j ≤ N → P j e → (∃ e1, t e = .ok (false, e1) ∧ Q e1) ∨ ∃ e1 e2, t e = .ok (true, e1) ∧ (body e1 = .nx e2 ∨ body e1 = .ct e2) ∧ P (j + 1) e2 ∧ j < N) :
    ∀ (n j : Nat) (e : Env), N < n + j → j ≤ N → P j e → ∃ e', whileLoop t body n e = .nx e' ∧ Q e'
  | 0, j, e, h1, h2, p => by omega
  | n + 1, j, e, h1, h2, p => by
    rcases hs j e h2 p with ⟨e1, h3, q⟩ | ⟨e1, e2, h3, h4, p2, hj⟩
    · exact ⟨e1, by simp [whileLoop, h3], q⟩
    · obtain ⟨e', h5, q⟩ := while_inv P Q N hs n (j + 1) e2 (by omega) (by omega) p2
      refine ⟨e', ?_, q⟩
      unfold whileLoop
      rw [h3, sb_ok', if_pos rfl]
      rcases h4 with h4 | h4 <;> simp only [h4] <;> exact h5
/-! ### letters in order -/
theorem sort_letters (s : List Nat) : ∃ t : List Nat, t.Perm s ∧ t.Pairwise (· ≤ ·) ∧ sortL (s.map fun c => [c]) = t.map fun c => [c] := by
  have hm : ∀ x ∈ sortL (s.map fun c => [c]), ∃ c ∈ s, x = [c] := fun x hx => by
    obtain ⟨c, hc, rfl⟩ := List.mem_map.mp ((sortL_perm _).mem_iff.mp hx)
    exact ⟨c, hc, rfl⟩
  have e : ((sortL (s.map fun c => [c])).map fun x => x.headD 0).map (fun c => [c]) = sortL (s.map fun c => [c]) := by
    rw [List.map_map]
    conv => rhs; rw [← List.map_id (sortL (s.map fun c => [c]))]
    refine List.map_congr_left fun x hx => ?_
    obtain ⟨c, _, rfl⟩ := hm x hx
    rfl
  refine ⟨(sortL (s.map fun c => [c])).map fun x => x.headD 0, ?_, ?_, e.symm⟩
  · have := (sortL_perm (s.map fun c => [c])).map fun x : List Nat => x.headD 0
    rw [List.map_map] at this
    have e2 : s.map ((fun x : List Nat => x.headD 0) ∘ fun c => [c]) = s := by
      conv => rhs; rw [← List.map_id s]
      rfl
    rw [e2] at this
    exact this
  · have hs := sortL_sorted (s.map fun c => [c])
    rw [← e] at hs
    rw [List.pairwise_map] at hs
    refine hs.imp fun {a b} h => ?_
    rcases Nat.lt_or_ge b a with q | q
    · exact absurd (List.cons_lt_cons_iff.mpr (.inl q) : [b] < [a]) (by
        first
          | exact h
          | exact List.not_lt.mpr h)
    · exact q
theorem join_sorted (s : List Nat) (hl : s.length ≤ 100000) (hn : s.Nodup) : ∃ t : List Nat, t.Perm s ∧ t.Pairwise (· < ·) ∧ ∃ o, fSortedX [.str s] = some o ∧ o = .lst (t.map fun c => .str [c]) := by
  obtain ⟨t, h1, h2, h3⟩ := sort_letters s
  refine ⟨t, h1, ?_, _, ?_, rfl⟩
  · have hn2 : t.Nodup := h1.nodup_iff.mpr hn
    exact List.Pairwise.imp₂ (fun a b h q => Nat.lt_of_le_of_ne h q) h2 hn2
  · have hl' : s.length ≤ LIM := le_lim hl
    simp [fSortedX, hl', h3, List.map_map]
end SW

namespace SW
open PySem PySem.Spec L2 PyProof.Rows SWZ LamX NdefX
def gOf (mg : Str → Option Value) : Str → Option Addr := fun x => match mg x with
  | some (.ref a) => some a
  | _ => none
theorem gOf_at {mg : Str → Option Value} {x : Str} {a : Addr} (h : mg x = some (.ref a)) : gOf mg x = some a := by
  unfold gOf
  rw [h]
def subSt (s : Stmt) (j : Nat) : Stmt := match s with
  | .ClassDef _ _ _ b _ _ _ _ _ _ _ => b.getD j (.Pass ⟨0, 0, 0, 0⟩)
  | s => s
def top (i : Nat) : Stmt := PySem.Challenge.pw_swingwords_k08_words_walked.main.body.getD i (.Pass ⟨0, 0, 0, 0⟩)
abbrev s_is_number : Stmt := top 11
abbrev N_is_number : List Str := ["thing", "least", "most"]
abbrev p_is_number : List Str := ["thing", "least", "most"]
abbrev s_is_letters : Stmt := top 12
abbrev N_is_letters : List Str := ["thing", "sign", "one", "other"]
abbrev p_is_letters : List Str := ["thing"]
abbrev s_need_letters : Stmt := top 13
abbrev N_need_letters : List Str := ["thing"]
abbrev p_need_letters : List Str := ["thing"]
abbrev s_is_word_to : Stmt := top 14
abbrev N_is_word_to : List Str := ["letters", "thing", "most", "sign"]
abbrev p_is_word_to : List Str := ["letters", "thing", "most"]
abbrev s_need_word : Stmt := top 15
abbrev N_need_word : List Str := ["letters", "thing", "most"]
abbrev p_need_word : List Str := ["letters", "thing", "most"]
abbrev s_is_stand : Stmt := top 18
abbrev N_is_stand : List Str := ["thing", "many", "size", "to"]
abbrev p_is_stand : List Str := ["thing", "many", "size"]
abbrev s_zlaw_begun : Stmt := top 21
abbrev N_zlaw_begun : List Str := ["_law_script", "_law_wide", "_law_cell"]
abbrev p_zlaw_begun : List Str := ["_law_script"]
abbrev s_zlaw_mixed : Stmt := top 22
abbrev N_zlaw_mixed : List Str := ["_law_state", "_law_turn", "_law_found", "_law_prime", "_law_blend", "_law_cell"]
abbrev p_zlaw_mixed : List Str := ["_law_state"]
abbrev s_zlaw_take : Stmt := top 23
abbrev N_zlaw_take : List Str := ["_law_state", "_law_size", "_law_found"]
abbrev p_zlaw_take : List Str := ["_law_state", "_law_size"]
abbrev s_zlaw_pick : Stmt := top 24
abbrev N_zlaw_pick : List Str := ["_law_state", "_law_picks"]
abbrev p_zlaw_pick : List Str := ["_law_state", "_law_picks"]
abbrev s_zlaw_abc : Stmt := top 25
abbrev N_zlaw_abc : List Str := ["_law_state", "_law_low", "_law_high", "_law_small", "_law_found", "_law_turn", "_law_left", "_law_sign"]
abbrev p_zlaw_abc : List Str := ["_law_state", "_law_low", "_law_high"]
abbrev s_zlaw_table : Stmt := top 26
abbrev N_zlaw_table : List Str := ["_law_state", "_law_abc_here", "_law_most", "_law_many", "_law_rare", "_law_table_here", "_law_stood", "_law_near", "_law_sign"]
abbrev p_zlaw_table : List Str := ["_law_state", "_law_abc_here", "_law_most"]
abbrev s_zlaw_token : Stmt := top 27
abbrev N_zlaw_token : List Str := ["_law_state", "_law_abc_here", "_law_greatest", "_law_size", "_law_turn"]
abbrev p_zlaw_token : List Str := ["_law_state", "_law_abc_here", "_law_greatest"]
abbrev s_zlaw_behind : Stmt := top 28
abbrev N_zlaw_behind : List Str := ["_law_abc_here", "_law_table_here", "_law_stood", "_law_token_here", "_law_sign"]
abbrev p_zlaw_behind : List Str := ["_law_abc_here", "_law_table_here", "_law_stood", "_law_token_here"]
abbrev s_zlaw_said : Stmt := top 29
abbrev N_zlaw_said : List Str := ["_law_work", "_law_found", "_law_caught", "e", "_law_marks"]
abbrev p_zlaw_said : List Str := ["_law_work"]
abbrev s_zlaw_is_token : Stmt := top 30
abbrev N_zlaw_is_token : List Str := ["_law_abc_here", "_law_matter", "_law_sign"]
abbrev p_zlaw_is_token : List Str := ["_law_abc_here", "_law_matter"]
abbrev s_zlaw_is_stood : Stmt := top 31
abbrev N_zlaw_is_stood : List Str := ["_law_table_here", "_law_matter"]
abbrev p_zlaw_is_stood : List Str := ["_law_table_here", "_law_matter"]
abbrev s_Machine___init__ : Stmt := subSt (top 19) 0
abbrev N_Machine___init__ : List Str := ["self", "letters", "rows", "row"]
abbrev p_Machine___init__ : List Str := ["self", "letters", "rows"]
abbrev s_Machine___eq__ : Stmt := subSt (top 19) 6
abbrev N_Machine___eq__ : List Str := ["self", "other"]
abbrev p_Machine___eq__ : List Str := ["self", "other"]
abbrev s_Machine_behind : Stmt := subSt (top 19) 3
abbrev N_Machine_behind : List Str := ["self", "word", "stand", "letter"]
abbrev p_Machine_behind : List Str := ["self", "word", "stand"]
abbrev s_Machine_takes : Stmt := subSt (top 19) 4
abbrev N_Machine_takes : List Str := ["self", "word"]
abbrev p_Machine_takes : List Str := ["self", "word"]
abbrev s_law : Stmt := top 32
abbrev N_law : List Str := ["_law_script", "_law_state", "_law_abc_here", "_law_table_here", "_law_told", "_law_strange", "_law_turn", "_law_token_here", "_law_some", "_law_given", "_law_odd", "_law_place", "_law_good", "_law_due", "_law_both_told", "_law_found", "_law_sign"]
abbrev p_law : List Str := ["_law_script"]
def m_is_number : MS :=
  mRet (mAndV (mIsi "int" (mVar 0)) (mAndV (mOfT (mNot (mBool (mIsi "bool" (mVar 0))))) (mChain fLe fLe (mVar 1) (mVar 0) (mVar 2))))
def mf_is_number : MF := mDef 3 [false, false, false] (m_is_number)
def m_is_letters : MS :=
  mSeq (mIfS (mOr (mNot (mTru (mIsi "str" (mVar 0)))) (mNot (mBool (mChain fLe fLe (mC (.int 1)) (mCB fLen (mCons (mVar 0) (mNil))) (mC (.int 4)))))) (mRet (mC (.bl false))) (mNext))
  (mRet (mAndV (mCB fAll (mCons (mComp (mItems (mVar 0)) (.nm 1) [1] (mYes) (mOp2 (fIn false) (mVar 1) (mC (.str [97, 98, 99, 100, 101, 102, 103, 104, 105, 106, 107, 108, 109, 110, 111, 112, 113, 114, 115, 116, 117, 118, 119, 120, 121, 122])))) (mNil))) (mCB fAll (mCons (mComp (mZip (mVar 0) (mCut (mVar 0) (mPart (mC (.int 1))) (mNoPart))) (.tp [.nm 2, .nm 3]) [2, 3] (mYes) (mOp2 fLt (mVar 2) (mVar 3))) (mNil)))))
def mf_is_letters : MF := mDef 4 [false] (m_is_letters)
def m_need_letters : MS :=
  mIfS (mNot (mTru (mCall mf_is_letters [false] [] (mCons (mVar 0) (mNil))))) (mRaise "NoLetters") (mNext)
def mf_need_letters : MF := mDef 1 [false] (m_need_letters)
def m_is_word_to : MS :=
  mRet (mAndV (mIsi "str" (mVar 1)) (mAndV (mOp2 fLe (mCB fLen (mCons (mVar 1) (mNil))) (mVar 2)) (mCB fAll (mCons (mComp (mItems (mVar 1)) (.nm 3) [3] (mYes) (mOp2 (fIn false) (mVar 3) (mVar 0))) (mNil)))))
def mf_is_word_to : MF := mDef 4 [false, false, false] (m_is_word_to)
def m_need_word : MS :=
  mIfS (mNot (mTru (mCall mf_is_word_to [false, false, false] [] (mCons (mVar 0) (mCons (mVar 1) (mCons (mVar 2) (mNil))))))) (mRaise "NoWord") (mNext)
def mf_need_word : MF := mDef 3 [false, false, false] (m_need_word)
def m_is_stand : MS :=
  mSeq (mIfS (mOr (mNot (mTru (mIsi "tuple" (mVar 0)))) (mOr (mBool (mOp2 fNe (mCB fLen (mCons (mVar 0) (mNil))) (mC (.int 2)))) (mNot (mTru (mIsi "bool" (mOp2 fIx (mVar 0) (mC (.int 0)))))))) (mRet (mC (.bl false))) (mNext))
  (mSeq (mIfS (mOr (mNot (mTru (mIsi "tuple" (mOp2 fIx (mVar 0) (mC (.int 1)))))) (mBool (mOp2 fNe (mCB fLen (mCons (mOp2 fIx (mVar 0) (mC (.int 1))) (mNil))) (mVar 2)))) (mRet (mC (.bl false))) (mNext))
  (mRet (mCB fAll (mCons (mComp (mItems (mOp2 fIx (mVar 0) (mC (.int 1)))) (.nm 3) [3] (mYes) (mCall mf_is_number [false, false, false] [] (mCons (mVar 3) (mCons (mC (.int 0)) (mCons (mOp2 fSub (mVar 1) (mC (.int 1))) (mNil)))))) (mNil)))))
def mf_is_stand : MF := mDef 4 [false, false, false] (m_is_stand)
def m_zlaw_begun : MS :=
  mSeq (mSet 1 (mComp (mScrItems 0) (.nm 2) [2] (mBool (mOp2 fGe (mVar 2) (mOp2 fPow (mC (.int 10)) (mC (.int 18))))) (mOp2 fSub (mVar 2) (mOp2 fPow (mC (.int 10)) (mC (.int 18))))))
  (mRet (mStDisp [(mC (.str [103, 114, 101, 97, 116]), mVar 1), (mC (.str [99, 101, 108, 108, 115]), mScrList 0), (mC (.str [114, 101, 115, 116]), mC (.int 0)), (mC (.str [116, 117, 114, 110]), mC (.int 0))]))
def mf_zlaw_begun : MF := mDef 3 [true] (m_zlaw_begun)
def m_zlaw_mixed : MS :=
  mSeq (mSet 1 (mOp2 fAdd (mStG 0 true) (mC (.int 1))))
  (mSeq (mStPut 0 true (mVar 1))
  (mSeq (mSet 2 (mC (.int 0)))
  (mSeq (mFor (mItems (mLst (mCons (mC (.int 2147483629)) (mCons (mC (.int 2147483587)) (mCons (mC (.int 2147483579)) (mCons (mC (.int 2147483563)) (mCons (mC (.int 2147483549)) (mCons (mC (.int 2147483543)) (mNil))))))))) (.nm 3) (mSeq (mSet 4 (mOp2 fAdd (mOp2 fMul (mC (.int 104729)) (mVar 1)) (mOp2 fDiv (mVar 3) (mC (.int 7)))))
  (mSeq (mFor (mStCells 0) (.nm 5) (mSet 4 (mOp2 fMod (mOp2 fAdd (mOp2 fMul (mVar 4) (mC (.int 48271))) (mVar 5)) (mVar 3))))
  (mSet 2 (mOp2 fAdd (mOp2 fMul (mVar 2) (mC (.int 2147483647))) (mOp2 fMod (mOp2 fPow (mVar 4) (mC (.int 5))) (mVar 3)))))))
  (mRet (mVar 2)))))
def mf_zlaw_mixed : MF := mDef 6 [true] (m_zlaw_mixed)
def m_zlaw_take : MS :=
  mSeq (mIfS (mAnd (mBool (mOp2 fEq (mStG 0 false) (mC (.int 0)))) (mBool (mStAny 0))) (mStPut 0 false (mStPop 0)) (mIfS (mBool (mOp2 fEq (mStG 0 false) (mC (.int 0)))) (mStPut 0 false (mCall mf_zlaw_mixed [true] [] (mCons (mVar 0) (mNil)))) (mNext)))
  (mSeq (mSet 2 (mOp2 fMod (mStG 0 false) (mVar 1)))
  (mSeq (mStPut 0 false (mOp2 fDiv (mStG 0 false) (mVar 1)))
  (mRet (mVar 2))))
def mf_zlaw_take : MF := mDef 3 [true, false] (m_zlaw_take)
def m_zlaw_pick : MS :=
  mRet (mOp2 fIx (mVar 1) (mCall mf_zlaw_take [true, false] [] (mCons (mVar 0) (mCons (mCB fLen (mCons (mVar 1) (mNil))) (mNil)))))
def mf_zlaw_pick : MF := mDef 2 [true, false] (m_zlaw_pick)
def m_zlaw_abc : MS :=
  mSeq (mAsg (.tp [.nm 3, .nm 4]) (mTup (mCons (mC (.str [97, 98, 99, 100, 101, 102, 103, 104, 105, 106, 107, 108, 109, 110, 111, 112, 113, 114, 115, 116, 117, 118, 119, 120, 121, 122])) (mCons (mC (.str [])) (mNil)))))
  (mSeq (mFor (mRange1 (mCons (mOp2 fAdd (mVar 1) (mCall mf_zlaw_take [true, false] [] (mCons (mVar 0) (mCons (mOp2 fAdd (mOp2 fSub (mVar 2) (mVar 1)) (mC (.int 1))) (mNil))))) (mNil))) (.nm 5) (mSeq (mSet 6 (mComp (mItems (mVar 3)) (.nm 7) [7] (mBool (mOp2 (fIn true) (mVar 7) (mVar 4))) (mVar 7)))
  (mSet 4 (mOp2 fAdd (mVar 4) (mCall mf_zlaw_pick [true, false] [] (mCons (mVar 0) (mCons (mVar 6) (mNil))))))))
  (mRet (mJoin fJoin (mC (.str [])) (mCB fSortedX (mCons (mVar 4) (mNil))))))
def mf_zlaw_abc : MF := mDef 8 [true, false, false] (m_zlaw_abc)
def m_zlaw_table : MS :=
  mSeq (mAsg (.tp [.nm 3, .nm 4]) (mTup (mCons (mOp2 fAdd (mC (.int 1)) (mCall mf_zlaw_take [true, false] [] (mCons (mVar 0) (mCons (mVar 2) (mNil))))) (mCons (mOp2 fAdd (mC (.int 1)) (mCall mf_zlaw_take [true, false] [] (mCons (mVar 0) (mCons (mC (.int 4)) (mNil))))) (mNil)))))
  (mSeq (mSet 5 (mLst (mNil)))
  (mSeq (mFor (mRange1 (mCons (mVar 3) (mNil))) (.nm 6) (mSeq (mSet 7 (mComp (mItems (mVar 1)) (.nm 8) [8] (mYes) (mCall mf_zlaw_pick [true, false] [] (mCons (mVar 0) (mCons (mLst (mCons (mCall mf_zlaw_take [true, false] [] (mCons (mVar 0) (mCons (mVar 3) (mNil)))) (mCons (mCB fMin (mCons (mOp2 fAdd (mVar 6) (mC (.int 1))) (mCons (mOp2 fSub (mVar 3) (mC (.int 1))) (mNil)))) (mCons (mVar 6) (mNil))))) (mNil))))))
  (mExpr (mAppend 5 (mTup (mCons (mOp2 fEq (mCall mf_zlaw_take [true, false] [] (mCons (mVar 0) (mCons (mOp2 fAdd (mVar 4) (mC (.int 1))) (mNil)))) (mC (.int 0))) (mCons (mCB fTuple (mCons (mVar 7) mNil)) (mNil))))))))
  (mRet (mVar 5))))
def mf_zlaw_table : MF := mDef 9 [true, false, false] (m_zlaw_table)
def m_zlaw_token : MS :=
  mSeq (mSet 3 (mCall mf_zlaw_take [true, false] [] (mCons (mVar 0) (mCons (mOp2 fAdd (mVar 2) (mC (.int 1))) (mNil)))))
  (mRet (mJoin fJoin (mC (.str [])) (mComp (mRange1 (mCons (mVar 3) (mNil))) (.nm 4) [4] (mYes) (mCall mf_zlaw_pick [true, false] [] (mCons (mVar 0) (mCons (mVar 1) (mNil)))))))
def mf_zlaw_token : MF := mDef 5 [true, false, false] (m_zlaw_token)
def m_zlaw_behind : MS :=
  mSeq (mFor (mItems (mVar 3)) (.nm 4) (mSet 2 (mOp2 fIx (mOp2 fIx (mOp2 fIx (mVar 1) (mVar 2)) (mC (.int 1))) (mBM "str" fSIndex (mVar 0) (mCons (mVar 4) (mNil))))))
  (mRet (mVar 2))
def mf_zlaw_behind : MF := mDef 5 [false, false, false, false] (m_zlaw_behind)
abbrev ar_zlaw_said : Nat → Nat := fun n => [0].getD n 0
def m_zlaw_said (c : Nat → MF) : MS :=
  mSeq (mAsg (.tp [.nm 1, .nm 2]) (mTup (mCons (mC .non) (mCons (mC .non) (mNil)))))
  (mSeq (mTryKeep (fun c => ([("NoLetters", true), ("NoWord", true), ("NoMachine", true), ("NoNumber", true)] : List (Str × Bool)).lookup c) 3 2 (mSet 1 (mClo 0 0 [] (c 0) mNil)))
  (mSeq (mIfS (mBool (mOp2 fIsN (mVar 2) (mC .non))) (mRet (mTup (mCons (mC (.str [116, 111, 108, 100])) (mCons (mVar 1) (mNil))))) (mNext))
  (mSeq (mSet 4 (mLst (mCons (mIsx [("NoLetters", false), ("NoWord", true), ("NoMachine", false), ("NoNumber", false)] (mVar 2)) (mCons (mIsx [("NoLetters", false), ("NoWord", false), ("NoMachine", false), ("NoNumber", true)] (mVar 2)) (mNil)))))
  (mSeq (mExpr (mAppend 4 (mIsx [("NoLetters", true), ("NoWord", false), ("NoMachine", true), ("NoNumber", false)] (mVar 2))))
  (mSeq (mIfS (mOr (mBool (mOp2 fNe (mBM "list" fCount (mVar 4) (mCons (mC (.bl true)) (mNil))) (mC (.int 1)))) (mNot (mTru (mIsx [("NoLetters", true), ("NoWord", true), ("NoMachine", true), ("NoNumber", true)] (mVar 2))))) (mRet (mC (.str [111, 116, 104, 101, 114]))) (mNext))
  (mRet (mOp2 fIx (mLst (mCons (mC (.str [119, 111, 114, 100])) (mCons (mC (.str [110, 117, 109, 98, 101, 114])) (mCons (mC (.str [111, 116, 104, 101, 114])) (mNil))))) (mBM "list" fIndex (mVar 4) (mCons (mC (.bl true)) (mNil))))))))))
def mf_zlaw_said (c : Nat → MF) : MF := mDef 5 [false] (m_zlaw_said c)
def m_zlaw_is_token : MS :=
  mSeq (mIfS (mOr (mNot (mTru (mIsi "str" (mVar 1)))) (mBool (mOp2 fGt (mCB fLen (mCons (mVar 1) (mNil))) (mC (.int 20000))))) (mRet (mC (.bl false))) (mNext))
  (mRet (mOp2 fEq (mCB fLen (mCons (mComp (mItems (mVar 0)) (.nm 2) [2] (mBool (mOp2 (fIn false) (mVar 2) (mVar 1))) (mVar 2)) (mNil))) (mOp1 fLenSet (mCB fListX (mCons (mVar 1) (mNil))))))
def mf_zlaw_is_token : MF := mDef 3 [false, false] (m_zlaw_is_token)
def m_zlaw_is_stood : MS :=
  mRet (mAndV (mIsi "int" (mVar 1)) (mAndV (mOfT (mNot (mBool (mIsi "bool" (mVar 1))))) (mChain fLe fLt (mC (.int 0)) (mVar 1) (mCB fLen (mCons (mVar 0) (mNil))))))
def mf_zlaw_is_stood : MF := mDef 2 [false, false] (m_zlaw_is_stood)
def m_Machine___init__ : MS :=
  mSeq (mExpr (mCall mf_need_letters [false] [] (mCons (mVar 1) (mNil))))
  (mSeq (mIfS (mOr (mNot (mTru (mIsiT ["list", "tuple"] (mVar 2)))) (mNot (mBool (mChain fLe fLe (mC (.int 1)) (mCB fLen (mCons (mVar 2) (mNil))) (mC (.int 60)))))) (mRaise "NoMachine") (mNext))
  (mSeq (mIfS (mNot (mTru (mCB fAll (mCons (mComp (mItems (mVar 2)) (.nm 3) [3] (mYes) (mCall mf_is_stand [false, false, false] [] (mCons (mVar 3) (mCons (mCB fLen (mCons (mVar 2) (mNil))) (mCons (mCB fLen (mCons (mVar 1) (mNil))) (mNil)))))) (mNil))))) (mRaise "NoMachine") (mNext))
  (mSeq (mFldSet "Machine" 0 "letters_told" (mVar 1))
  (mFldSet "Machine" 0 "stand_rows" (mCB fList (mCons (mVar 2) (mNil)))))))
def mf_Machine___init__ : MF := mDef 4 [true, false, false] (m_Machine___init__)
def m_Machine___eq__ : MS :=
  mSeq (mIfS (mNot (mTru (mIs (tabOf [("NoneType", false), ("bool", false), ("int", false), ("str", false), ("list", false), ("tuple", false), ("dict", false)] [("Machine", true)] []) (mVar 1)))) (mRet (mC (.bl false))) (mNext))
  (mRet (mAndV (mOp2 fEq (mOp1 (fFld "Machine" "letters_told") (mVar 0)) (mOp1 (fFld "Machine" "letters_told") (mVar 1))) (mOp2 fEq (mOp1 (fFld "Machine" "stand_rows") (mVar 0)) (mOp1 (fFld "Machine" "stand_rows") (mVar 1)))))
def mf_Machine___eq__ : MF := mDef 2 [false, false] (m_Machine___eq__)
def m_Machine_behind : MS :=
  mSeq (mExpr (mCall mf_need_word [false, false] [.int 20000] (mCons (mOp1 (fFld "Machine" "letters_told") (mVar 0)) (mCons (mVar 1) (mNil)))))
  (mSeq (mIfS (mNot (mTru (mCall mf_is_number [false, false, false] [] (mCons (mVar 2) (mCons (mC (.int 0)) (mCons (mOp2 fSub (mCB fLen (mCons (mOp1 (fFld "Machine" "stand_rows") (mVar 0)) (mNil))) (mC (.int 1))) (mNil))))))) (mRaise "NoNumber") (mNext))
  (mSeq (mFor (mItems (mVar 1)) (.nm 3) (mSet 2 (mOp2 fIx (mOp2 fIx (mOp2 fIx (mOp1 (fFld "Machine" "stand_rows") (mVar 0)) (mVar 2)) (mC (.int 1))) (mBM "str" fSIndex (mOp1 (fFld "Machine" "letters_told") (mVar 0)) (mCons (mVar 3) (mNil))))))
  (mRet (mVar 2))))
def mf_Machine_behind : MF := mDef 4 [false, false, false] (m_Machine_behind)
def m_Machine_takes : MS :=
  mRet (mOp2 fIx (mOp2 fIx (mOp1 (fFld "Machine" "stand_rows") (mVar 0)) (mMeth "Machine" "behind" mf_Machine_behind [false, false] [.int 0] (mVar 0) (mCons (mVar 1) (mNil)))) (mC (.int 0)))
def mf_Machine_takes : MF := mDef 2 [false, false] (m_Machine_takes)
abbrev lam_law_0 : LamD := { N := ["_law_given", "_law_told", "_law_place"], ps := [], fr := ["_law_given", "_law_told", "_law_place"], js := [9, 4, 11], me := mMethKw "Machine" "behind" mf_Machine_behind 3 [0, 1, 2] (mVar 1) (mCons (mVar 0) (mNil)) (mCons (mVar 2) (mNil)), lv := 5 }
abbrev lam_law_1 : LamD := { N := ["_law_told", "_law_place", "_law_given"], ps := [], fr := ["_law_told", "_law_place", "_law_given"], js := [4, 11, 9], me := mMethKw "Machine" "behind" mf_Machine_behind 3 [0, 2, 1] (mVar 0) mNil (mCons (mVar 1) (mCons (mVar 2) (mNil))), lv := 5 }
abbrev lam_law_2 : LamD := { N := ["_law_given", "_law_told"], ps := [], fr := ["_law_given", "_law_told"], js := [9, 4], me := mMeth "Machine" "behind" mf_Machine_behind [false, false] [.int 0] (mVar 1) (mCons (mVar 0) (mNil)), lv := 5 }
abbrev lam_law_3 : LamD := { N := ["_law_given", "_law_told"], ps := [], fr := ["_law_given", "_law_told"], js := [9, 4], me := mMeth "Machine" "takes" mf_Machine_takes [false, false] [] (mVar 1) (mCons (mVar 0) (mNil)), lv := 6 }
abbrev lam_law_4 : LamD := { N := ["_law_told", "_law_given"], ps := [], fr := ["_law_told", "_law_given"], js := [4, 9], me := mMethKw "Machine" "takes" mf_Machine_takes 2 [0, 1] (mVar 0) mNil (mCons (mVar 1) (mNil)), lv := 6 }
abbrev lams_law : List LamD := [lam_law_0, lam_law_1, lam_law_2, lam_law_3, lam_law_4]
def m_law : MS :=
  mSeq (mSet 1 (mCall mf_zlaw_begun [true] [] (mCons (mVar 0) (mNil))))
  (mSeq (mSet 2 (mCall mf_zlaw_abc [true, false, false] [] (mCons (mVar 1) (mCons (mC (.int 1)) (mCons (mC (.int 4)) (mNil))))))
  (mSeq (mSet 3 (mCall mf_zlaw_table [true, false, false] [] (mCons (mVar 1) (mCons (mVar 2) (mCons (mC (.int 8)) (mNil))))))
  (mSeq (mSet 4 (mNew "Machine" mf_Machine___init__ [false, false] [] (mCons (mVar 2) (mCons (mVar 3) (mNil)))))
  (mSeq (mSet 5 (mOp2 fIx (mComp (mItems (mC (.str [120, 121, 122, 119, 118]))) (.nm 16) [16] (mBool (mOp2 (fIn true) (mVar 16) (mVar 2))) (mVar 16)) (mC (.int 0))))
  (mSeq (mFor (mRange1 (mCons (mC (.int 12)) (mNil))) (.nm 6) (mSeq (mSet 7 (mCall mf_zlaw_token [true, false, false] [] (mCons (mVar 1) (mCons (mVar 2) (mCons (mC (.int 12)) (mNil))))))
  (mSeq (mSet 8 (mLst (mCons (mVar 7) (mCons (mVar 7) (mCons (mVar 7) (mCons (mOp2 fAdd (mVar 7) (mVar 5)) (mCons (mOp2 fAdd (mVar 5) (mVar 7)) (mCons (mC .non) (mCons (mC (.int 7)) (mCons (mLst (mCons (mVar 7) (mNil))) (mCons (mTup (mNil)) (mNil))))))))))))
  (mSeq (mSet 8 (mOp2 fAdd (mVar 8) (mLst (mCons (mOp2 fAdd (mOp1 fUpper (mVar 7)) (mC (.str [65]))) (mCons (mC (.str [32])) (mNil))))))
  (mSeq (mIfS (mAnd (mBool (mOp2 fEq (mVar 6) (mC (.int 0)))) (mBool (mOp2 fEq (mCall mf_zlaw_take [true, false] [] (mCons (mVar 1) (mCons (mC (.int 8)) (mNil)))) (mC (.int 0))))) (mSet 8 (mLst (mCons (mOp2 fMul (mOp2 fIx (mVar 2) (mC (.int 0))) (mC (.int 20000))) (mCons (mOp2 fMul (mOp2 fIx (mVar 2) (mOp1 fNeg (mC (.int 1)))) (mC (.int 20001))) (mNil))))) (mNext))
  (mSeq (mSet 9 (mCall mf_zlaw_pick [true, false] [] (mCons (mVar 1) (mCons (mVar 8) (mNil)))))
  (mSeq (mSet 10 (mLst (mCons (mOp1 fNeg (mC (.int 1))) (mCons (mCB fLen (mCons (mVar 3) (mNil))) (mCons (mC (.bl true)) (mCons (mC .non) (mCons (mC (.str [48])) (mCons (mTup (mNil)) (mCons (mOp2 fPow (mC (.int 10)) (mC (.int 20))) (mCons (mC (.bl false)) (mNil)))))))))))
  (mSeq (mSet 11 (mCall mf_zlaw_pick [true, false] [] (mCons (mVar 1) (mCons (mOp2 fAdd (mOp2 fMul (mOp1 fListRg (mCB fLen (mCons (mVar 3) (mNil)))) (mC (.int 3))) (mVar 10)) (mNil)))))
  (mSeq (mSet 12 (mCall mf_zlaw_is_token [false, false] [] (mCons (mVar 2) (mCons (mVar 9) (mNil)))))
  (mSeq (mSet 13 (mIf (mNot (mTru (mVar 12))) (mC (.str [119, 111, 114, 100])) (mC (.str [110, 117, 109, 98, 101, 114]))))
  (mSeq (mIfS (mAnd (mTru (mVar 12)) (mTru (mCall mf_zlaw_is_stood [false, false] [] (mCons (mVar 3) (mCons (mVar 11) (mNil)))))) (mSet 13 (mTup (mCons (mC (.str [116, 111, 108, 100])) (mCons (mCall mf_zlaw_behind [false, false, false, false] [] (mCons (mVar 2) (mCons (mVar 3) (mCons (mVar 11) (mCons (mVar 9) (mNil)))))) (mNil))))) (mNext))
  (mSeq (mIfS (mBool (mOp2 fNe (mCallC mf_zlaw_said (closL lams_law [some 0]) [some 0] [false] [] (mCons (mLam 0 [9, 4, 11]) (mNil))) (mVar 13))) (mRet (mC (.bl false))) (mNext))
  (mSeq (mIfS (mBool (mOp2 fNe (mCallC mf_zlaw_said (closL lams_law [some 1]) [some 1] [false] [] (mCons (mLam 1 [4, 11, 9]) (mNil))) (mVar 13))) (mRet (mC (.bl false))) (mNext))
  (mSeq (mSet 13 (mIf (mTru (mVar 12)) (mTup (mCons (mC (.str [116, 111, 108, 100])) (mCons (mCall mf_zlaw_behind [false, false, false, false] [] (mCons (mVar 2) (mCons (mVar 3) (mCons (mC (.int 0)) (mCons (mVar 9) (mNil)))))) (mNil)))) (mC (.str [119, 111, 114, 100]))))
  (mSeq (mIfS (mBool (mOp2 fNe (mCallC mf_zlaw_said (closL lams_law [some 2]) [some 2] [false] [] (mCons (mLam 2 [9, 4]) (mNil))) (mVar 13))) (mRet (mC (.bl false))) (mNext))
  (mSeq (mSet 13 (mIf (mTru (mVar 12)) (mTup (mCons (mC (.str [116, 111, 108, 100])) (mCons (mOp2 fIx (mOp2 fIx (mVar 3) (mOp2 fIx (mVar 13) (mC (.int 1)))) (mC (.int 0))) (mNil)))) (mC (.str [119, 111, 114, 100]))))
  (mSeq (mSet 14 (mLst (mCons (mCallC mf_zlaw_said (closL lams_law [some 3]) [some 3] [false] [] (mCons (mLam 3 [9, 4]) (mNil))) (mNil))))
  (mSeq (mExpr (mAppend 14 (mCallC mf_zlaw_said (closL lams_law [some 4]) [some 4] [false] [] (mCons (mLam 4 [4, 9]) (mNil)))))
  (mFor (mItems (mVar 14)) (.nm 15) (mIfS (mOr (mBool (mOp2 fNe (mVar 15) (mVar 13))) (mBool (mOp2 fNe (mIsi "tuple" (mVar 15)) (mIsi "bool" (mOp2 fIx (mVar 15) (mC (.int 1))))))) (mRet (mC (.bl false))) (mNext)))))))))))))))))))))
  (mRet (mEqOwn "Machine" mf_Machine___eq__ (mVar 4) (mNew "Machine" mf_Machine___init__ [false, false] [] (mCons (mVar 2) (mCons (mVar 3) (mNil)))))))))))
def mf_law : MF := mDef 17 [true] (m_law)
def nmAll (l c : Nat) : Str := (([((157, 21), "law.<locals>.<lambda>"), ((159, 21), "law.<locals>.<lambda>"), ((162, 21), "law.<locals>.<lambda>"), ((165, 36), "law.<locals>.<lambda>"), ((166, 40), "law.<locals>.<lambda>")] : List ((Nat × Nat) × Str)).lookup (l, c)).getD ""
structure Txt (K : PySem.W.Frag) (mg : Str → Option Value) (A : Nat → Addr) (FD : Nat → FuncData) (CA : Nat → Addr) : Prop where
  n_ValueError : mg "ValueError" = none
  n_all : mg "all" = none
  n_bool : mg "bool" = none
  n_int : mg "int" = none
  n_isinstance : mg "isinstance" = none
  n_len : mg "len" = none
  n_list : mg "list" = none
  n_min : mg "min" = none
  n_range : mg "range" = none
  n_set : mg "set" = none
  n_sorted : mg "sorted" = none
  n_str : mg "str" = none
  n_tuple : mg "tuple" = none
  n_zip : mg "zip" = none
  c_SMALL : ∃ t, mg "SMALL" = some (.str (S [97, 98, 99, 100, 101, 102, 103, 104, 105, 106, 107, 108, 109, 110, 111, 112, 113, 114, 115, 116, 117, 118, 119, 120, 121, 122]) t)
  c_MOST_LETTERS : ∃ t, mg "MOST_LETTERS" = some (.int 4 t)
  c_MOST_IN_WORD : ∃ t, mg "MOST_IN_WORD" = some (.int 20000 t)
  c_MOST_STANDS : ∃ t, mg "MOST_STANDS" = some (.int 60 t)
  g_SwingError : mg "SwingError" = some (.ref (A 1))
  x_SwingError : PySem.W.excIn K (A 1) [.type "ValueError", .type "Exception", .type "BaseException", .type "object"] "ValueError.__new__" = true
  k_SwingError : PySem.W.keepIn K (.ref (A 1)) = true
  y_SwingError : PySem.W.subIn K (.ref (A 1)) (.type "BaseException") = some true
  t_SwingError : PySem.W.typeIn K (.ref (A 1)) = some (.type "type")
  g_NoLetters : mg "NoLetters" = some (.ref (A 2))
  x_NoLetters : PySem.W.excIn K (A 2) [.type "ValueError", .type "Exception", .type "BaseException", .type "object"] "ValueError.__new__" = true
  k_NoLetters : PySem.W.keepIn K (.ref (A 2)) = true
  y_NoLetters : PySem.W.subIn K (.ref (A 2)) (.type "BaseException") = some true
  t_NoLetters : PySem.W.typeIn K (.ref (A 2)) = some (.type "type")
  g_NoWord : mg "NoWord" = some (.ref (A 3))
  x_NoWord : PySem.W.excIn K (A 3) [.type "ValueError", .type "Exception", .type "BaseException", .type "object"] "ValueError.__new__" = true
  k_NoWord : PySem.W.keepIn K (.ref (A 3)) = true
  y_NoWord : PySem.W.subIn K (.ref (A 3)) (.type "BaseException") = some true
  t_NoWord : PySem.W.typeIn K (.ref (A 3)) = some (.type "type")
  g_NoNumber : mg "NoNumber" = some (.ref (A 4))
  x_NoNumber : PySem.W.excIn K (A 4) [.type "ValueError", .type "Exception", .type "BaseException", .type "object"] "ValueError.__new__" = true
  k_NoNumber : PySem.W.keepIn K (.ref (A 4)) = true
  y_NoNumber : PySem.W.subIn K (.ref (A 4)) (.type "BaseException") = some true
  t_NoNumber : PySem.W.typeIn K (.ref (A 4)) = some (.type "type")
  g_NoMachine : mg "NoMachine" = some (.ref (A 5))
  x_NoMachine : PySem.W.excIn K (A 5) [.type "ValueError", .type "Exception", .type "BaseException", .type "object"] "ValueError.__new__" = true
  k_NoMachine : PySem.W.keepIn K (.ref (A 5)) = true
  y_NoMachine : PySem.W.subIn K (.ref (A 5)) (.type "BaseException") = some true
  t_NoMachine : PySem.W.typeIn K (.ref (A 5)) = some (.type "type")
  g_TooGreat : mg "TooGreat" = some (.ref (A 6))
  x_TooGreat : PySem.W.excIn K (A 6) [.type "ValueError", .type "Exception", .type "BaseException", .type "object"] "ValueError.__new__" = true
  k_TooGreat : PySem.W.keepIn K (.ref (A 6)) = true
  y_TooGreat : PySem.W.subIn K (.ref (A 6)) (.type "BaseException") = some true
  t_TooGreat : PySem.W.typeIn K (.ref (A 6)) = some (.type "type")
  g_Machine : mg "Machine" = some (.ref (A 19))
  cl_Machine : L2.Cls K (A 19)
  mk_Machine : Mk K (A 19) (A 33)
  na_Machine_letters_told : NoAttr K (A 19) "letters_told"
  na_Machine_stand_rows : NoAttr K (A 19) "stand_rows"
  in_Machine : InsC K (A 19)
  j_NoneType_Machine : PySem.W.kitOne K (.type "NoneType") (.ref (A 19)) = some false
  j_bool_Machine : PySem.W.kitOne K (.type "bool") (.ref (A 19)) = some false
  j_int_Machine : PySem.W.kitOne K (.type "int") (.ref (A 19)) = some false
  j_str_Machine : PySem.W.kitOne K (.type "str") (.ref (A 19)) = some false
  j_list_Machine : PySem.W.kitOne K (.type "list") (.ref (A 19)) = some false
  j_tuple_Machine : PySem.W.kitOne K (.type "tuple") (.ref (A 19)) = some false
  j_dict_Machine : PySem.W.kitOne K (.type "dict") (.ref (A 19)) = some false
  jo_Machine_Machine : PySem.W.kitOne K (.ref (A 19)) (.ref (A 19)) = some true
  e_NoLetters : ExcC K (A 2)
  e_NoWord : ExcC K (A 3)
  e_NoMachine : ExcC K (A 5)
  e_NoNumber : ExcC K (A 4)
  i_NoLetters_NoWord : PySem.W.kitOne K (.ref (A 2)) (.ref (A 3)) = some false
  i_NoWord_NoWord : PySem.W.kitOne K (.ref (A 3)) (.ref (A 3)) = some true
  i_NoMachine_NoWord : PySem.W.kitOne K (.ref (A 5)) (.ref (A 3)) = some false
  i_NoNumber_NoWord : PySem.W.kitOne K (.ref (A 4)) (.ref (A 3)) = some false
  i_NoLetters_NoNumber : PySem.W.kitOne K (.ref (A 2)) (.ref (A 4)) = some false
  i_NoWord_NoNumber : PySem.W.kitOne K (.ref (A 3)) (.ref (A 4)) = some false
  i_NoMachine_NoNumber : PySem.W.kitOne K (.ref (A 5)) (.ref (A 4)) = some false
  i_NoNumber_NoNumber : PySem.W.kitOne K (.ref (A 4)) (.ref (A 4)) = some true
  i_NoLetters_NoLetters : PySem.W.kitOne K (.ref (A 2)) (.ref (A 2)) = some true
  i_NoWord_NoLetters : PySem.W.kitOne K (.ref (A 3)) (.ref (A 2)) = some false
  i_NoMachine_NoLetters : PySem.W.kitOne K (.ref (A 5)) (.ref (A 2)) = some false
  i_NoNumber_NoLetters : PySem.W.kitOne K (.ref (A 4)) (.ref (A 2)) = some false
  i_NoLetters_NoMachine : PySem.W.kitOne K (.ref (A 2)) (.ref (A 5)) = some false
  i_NoWord_NoMachine : PySem.W.kitOne K (.ref (A 3)) (.ref (A 5)) = some false
  i_NoMachine_NoMachine : PySem.W.kitOne K (.ref (A 5)) (.ref (A 5)) = some true
  i_NoNumber_NoMachine : PySem.W.kitOne K (.ref (A 4)) (.ref (A 5)) = some false
  i_NoLetters_TooGreat : PySem.W.kitOne K (.ref (A 2)) (.ref (A 6)) = some false
  i_NoWord_TooGreat : PySem.W.kitOne K (.ref (A 3)) (.ref (A 6)) = some false
  i_NoMachine_TooGreat : PySem.W.kitOne K (.ref (A 5)) (.ref (A 6)) = some false
  i_NoNumber_TooGreat : PySem.W.kitOne K (.ref (A 4)) (.ref (A 6)) = some false
  i_NoLetters_ValueError : PySem.W.kitOne K (.ref (A 2)) (.type "ValueError") = some true
  i_NoWord_ValueError : PySem.W.kitOne K (.ref (A 3)) (.type "ValueError") = some true
  i_NoMachine_ValueError : PySem.W.kitOne K (.ref (A 5)) (.type "ValueError") = some true
  i_NoNumber_ValueError : PySem.W.kitOne K (.ref (A 4)) (.type "ValueError") = some true
  m_NoLetters_SwingError : PySem.W.exmOne K (.ref (A 2)) (.ref (A 1)) = some true
  m_NoWord_SwingError : PySem.W.exmOne K (.ref (A 3)) (.ref (A 1)) = some true
  m_NoMachine_SwingError : PySem.W.exmOne K (.ref (A 5)) (.ref (A 1)) = some true
  m_NoNumber_SwingError : PySem.W.exmOne K (.ref (A 4)) (.ref (A 1)) = some true
  g_is_number : mg "is_number" = some (.ref (A 11))
  f_is_number : Fun K "is_number" "is_number" s_is_number (A 11) (FD 11)
  b_is_number : Binds K (FD 11) p_is_number []
  g_is_letters : mg "is_letters" = some (.ref (A 12))
  f_is_letters : Fun K "is_letters" "is_letters" s_is_letters (A 12) (FD 12)
  b_is_letters : Binds K (FD 12) p_is_letters []
  g_need_letters : mg "need_letters" = some (.ref (A 13))
  f_need_letters : Fun K "need_letters" "need_letters" s_need_letters (A 13) (FD 13)
  b_need_letters : Binds K (FD 13) p_need_letters []
  g_is_word_to : mg "is_word_to" = some (.ref (A 14))
  f_is_word_to : Fun K "is_word_to" "is_word_to" s_is_word_to (A 14) (FD 14)
  b_is_word_to : Binds K (FD 14) p_is_word_to []
  g_need_word : mg "need_word" = some (.ref (A 15))
  f_need_word : FunKw K "need_word" "need_word" s_need_word [("most", .int 20000)] (A 15) (FD 15)
  b_need_word : ∃ ds, Vals [V.int 20000] ds ∧ Binds K (FD 15) p_need_word ds
  g_is_stand : mg "is_stand" = some (.ref (A 18))
  f_is_stand : Fun K "is_stand" "is_stand" s_is_stand (A 18) (FD 18)
  b_is_stand : Binds K (FD 18) p_is_stand []
  g_zlaw_begun : mg "_law_begun" = some (.ref (A 21))
  f_zlaw_begun : Fun K "_law_begun" "_law_begun" s_zlaw_begun (A 21) (FD 21)
  b_zlaw_begun : Binds K (FD 21) p_zlaw_begun []
  g_zlaw_mixed : mg "_law_mixed" = some (.ref (A 22))
  f_zlaw_mixed : Fun K "_law_mixed" "_law_mixed" s_zlaw_mixed (A 22) (FD 22)
  b_zlaw_mixed : Binds K (FD 22) p_zlaw_mixed []
  g_zlaw_take : mg "_law_take" = some (.ref (A 23))
  f_zlaw_take : Fun K "_law_take" "_law_take" s_zlaw_take (A 23) (FD 23)
  b_zlaw_take : Binds K (FD 23) p_zlaw_take []
  g_zlaw_pick : mg "_law_pick" = some (.ref (A 24))
  f_zlaw_pick : Fun K "_law_pick" "_law_pick" s_zlaw_pick (A 24) (FD 24)
  b_zlaw_pick : Binds K (FD 24) p_zlaw_pick []
  g_zlaw_abc : mg "_law_abc" = some (.ref (A 25))
  f_zlaw_abc : Fun K "_law_abc" "_law_abc" s_zlaw_abc (A 25) (FD 25)
  b_zlaw_abc : Binds K (FD 25) p_zlaw_abc []
  g_zlaw_table : mg "_law_table" = some (.ref (A 26))
  f_zlaw_table : Fun K "_law_table" "_law_table" s_zlaw_table (A 26) (FD 26)
  b_zlaw_table : Binds K (FD 26) p_zlaw_table []
  g_zlaw_token : mg "_law_token" = some (.ref (A 27))
  f_zlaw_token : Fun K "_law_token" "_law_token" s_zlaw_token (A 27) (FD 27)
  b_zlaw_token : Binds K (FD 27) p_zlaw_token []
  g_zlaw_behind : mg "_law_behind" = some (.ref (A 28))
  f_zlaw_behind : Fun K "_law_behind" "_law_behind" s_zlaw_behind (A 28) (FD 28)
  b_zlaw_behind : Binds K (FD 28) p_zlaw_behind []
  g_zlaw_said : mg "_law_said" = some (.ref (A 29))
  f_zlaw_said : Fun K "_law_said" "_law_said" s_zlaw_said (A 29) (FD 29)
  b_zlaw_said : Binds K (FD 29) p_zlaw_said []
  g_zlaw_is_token : mg "_law_is_token" = some (.ref (A 30))
  f_zlaw_is_token : Fun K "_law_is_token" "_law_is_token" s_zlaw_is_token (A 30) (FD 30)
  b_zlaw_is_token : Binds K (FD 30) p_zlaw_is_token []
  g_zlaw_is_stood : mg "_law_is_stood" = some (.ref (A 31))
  f_zlaw_is_stood : Fun K "_law_is_stood" "_law_is_stood" s_zlaw_is_stood (A 31) (FD 31)
  b_zlaw_is_stood : Binds K (FD 31) p_zlaw_is_stood []
  me_Machine___init__ : Meth K (A 19) "__init__" (A 33)
  f_Machine___init__ : Fun K "__init__" "Machine.__init__" s_Machine___init__ (A 33) (FD 33)
  b_Machine___init__ : Binds K (FD 33) p_Machine___init__ []
  me_Machine___eq__ : Meth K (A 19) "__eq__" (A 36)
  f_Machine___eq__ : Fun K "__eq__" "Machine.__eq__" s_Machine___eq__ (A 36) (FD 36)
  b_Machine___eq__ : Binds K (FD 36) p_Machine___eq__ []
  me_Machine_behind : Meth K (A 19) "behind" (A 34)
  f_Machine_behind : FunKw K "behind" "Machine.behind" s_Machine_behind [("stand", .int 0)] (A 34) (FD 34)
  b_Machine_behind : ∃ ds, Vals [V.int 0] ds ∧ Binds K (FD 34) p_Machine_behind ds
  me_Machine_takes : Meth K (A 19) "takes" (A 35)
  f_Machine_takes : Fun K "takes" "Machine.takes" s_Machine_takes (A 35) (FD 35)
  b_Machine_takes : Binds K (FD 35) p_Machine_takes []
  g_law : mg "law" = some (.ref (A 32))
  f_law : Fun K "law" "law" s_law (A 32) (FD 32)
  b_law : Binds K (FD 32) p_law []
  z_law : FunC K "law" "law" s_law (A 32) (FD 32) (CA 32)
  k_Machine_behind_2_stand : KwB K (FD 34) p_Machine_behind 2 ["stand"] [0, 1, 2]
  k_Machine_behind_1_stand_word : KwB K (FD 34) p_Machine_behind 1 ["stand", "word"] [0, 2, 1]
  k_Machine_takes_1_word : KwB K (FD 35) p_Machine_takes 1 ["word"] [0, 1]
abbrev TT (PA : Nat → Addr) : List NdefX.NTab := [(PA 32, nmAll)]
structure Tbs (mg : Str → Option Value) (base : Heap) (CA PA : Nat → Addr) : Prop where
  t_law : LamX.TabB base mg (CA 32) (PA 32)
  m_law : (PA 32, nmAll) ∈ TT PA
  u : ∀ {P : Addr}, ∀ p ∈ TT PA, p.1 = P → p.2 = nmAll
section
variable {P : Program} {w : World} {K : PySem.W.Frag} {mg : Str → Option Value} {base : Heap} {A : Nat → Addr} {FD : Nat → FuncData} {CA PA : Nat → Addr} {B : Hp}
theorem sc_is_number : FnScope N_is_number p_is_number (defScope s_is_number) := ⟨rfl, rfl, rfl, by decide +kernel, rfl, by decide +kernel, by decide +kernel⟩
theorem ok_is_number (T : Txt K mg A FD CA) (U : Tbs mg base CA PA) : FnOk P w K mg base (L2.CX P w) 2 (A 11) (FD 11) p_is_number (spM ⟨K, gOf mg, B, (TT PA), noL⟩ [false, false, false] mf_is_number) := by
  refine T.f_is_number.okX sc_is_number (fun vs H Q E h => h.1) (fun cdv A1 outer s H vs Q E hr h => ⟨tMS ⟨K, gOf mg, B, (TT PA), noL⟩ (fun cls d _ H => E cls d H) ⟨[false, false, false], vs⟩ m_is_number, ?_, def_ok (k := ⟨K, gOf mg, B, (TT PA), noL⟩) (N := N_is_number) h⟩)
  exact (show PMSs (cxOf (L2.CX P w) P w K mg base N_is_number "is_number" (defScope s_is_number) (A 11) cdv A1 outer s H E) ⟨gOf mg, B, (TT PA), noL⟩ (fun cls d _ H => E cls d H) ⟨[false, false, false], vs⟩ (defBody s_is_number) m_is_number from (z_one (z_ret (q_and (q_isi (by decide) rfl rfl T.n_isinstance (by first | rfl | decide +kernel) rfl T.n_int (by first | rfl | decide +kernel) (q_var 0)) (q_and (q_not (q_isi (by decide) rfl rfl T.n_isinstance (by first | rfl | decide +kernel) rfl T.n_bool (by first | rfl | decide +kernel) (q_var 0))) (q_one (q_lele (q_var 1) (q_var 0) (q_var 2))))))))
theorem sc_is_letters : FnScope N_is_letters p_is_letters (defScope s_is_letters) := ⟨rfl, rfl, rfl, by decide +kernel, rfl, by decide +kernel, by decide +kernel⟩
theorem ok_is_letters (T : Txt K mg A FD CA) (U : Tbs mg base CA PA) : FnOk P w K mg base (L2.CX P w) 2 (A 12) (FD 12) p_is_letters (spM ⟨K, gOf mg, B, (TT PA), noL⟩ [false] mf_is_letters) := by
  refine T.f_is_letters.okX sc_is_letters (fun vs H Q E h => h.1) (fun cdv A1 outer s H vs Q E hr h => ⟨tMS ⟨K, gOf mg, B, (TT PA), noL⟩ (fun cls d _ H => E cls d H) ⟨[false], vs⟩ m_is_letters, ?_, def_ok (k := ⟨K, gOf mg, B, (TT PA), noL⟩) (N := N_is_letters) h⟩)
  exact (show PMSs (cxOf (L2.CX P w) P w K mg base N_is_letters "is_letters" (defScope s_is_letters) (A 12) cdv A1 outer s H E) ⟨gOf mg, B, (TT PA), noL⟩ (fun cls d _ H => E cls d H) ⟨[false], vs⟩ (defBody s_is_letters) m_is_letters from (z_cons (z_if (PW.pt (w_or (t_not (t_tru (q_isi (by decide) rfl rfl T.n_isinstance (by first | rfl | decide +kernel) rfl T.n_str (by first | rfl | decide +kernel) (q_var 0)))) (w_or1 (t_not (t_lele q_int (q_cb cr_len2 s_len rfl T.n_len (by first | rfl | decide +kernel) (a_cons (q_var 0) a_nil)) (q_gint rfl T.c_MOST_LETTERS.choose_spec)))))) (z_one (z_ret q_bl)) z_nil)
    (z_one (z_ret (q_and (q_cb (cr_all rfl) s_all rfl T.n_all (by first | rfl | decide +kernel) (a_cons (q_lc [("sign", 1)] rfl sc_is_letters.nd (blkOk_by (N := N_is_letters) (sc := defScope s_is_letters) (by decide +kernel)) (by decide) (i_any (q_var 0)) (fun _ _ _ _ _ => (g_nm 1 sc_is_letters.nd)) (fun _ _ _ _ _ => ts_nil) (fun _ _ _ _ _ => (q_in (hu_of hr) (q_var 1) (q_gstr [97, 98, 99, 100, 101, 102, 103, 104, 105, 106, 107, 108, 109, 110, 111, 112, 113, 114, 115, 116, 117, 118, 119, 120, 121, 122] rfl T.c_SMALL.choose_spec)))) a_nil)) (q_one (q_cb (cr_all rfl) s_all rfl T.n_all (by first | rfl | decide +kernel) (a_cons (q_lc [("one", 2), ("other", 3)] rfl sc_is_letters.nd (blkOk_by (N := N_is_letters) (sc := defScope s_is_letters) (by decide +kernel)) (by decide) (i_zip rfl T.n_zip (q_var 0) (q_cut (q_var 0) (q_part q_int) q_no)) (fun _ _ _ _ _ => (g_tp rfl (gs_cons (g_nm 2 sc_is_letters.nd) (gs_cons (g_nm 3 sc_is_letters.nd) gs_nil)))) (fun _ _ _ _ _ => ts_nil) (fun _ _ _ _ _ => (q_lt  (q_var 2) (q_var 3)))) a_nil))))))))
theorem sc_need_letters : FnScope N_need_letters p_need_letters (defScope s_need_letters) := ⟨rfl, rfl, rfl, by decide +kernel, rfl, by decide +kernel, by decide +kernel⟩
theorem ok_need_letters (T : Txt K mg A FD CA) (U : Tbs mg base CA PA) : FnOk P w K mg base (L2.CX P w) 3 (A 13) (FD 13) p_need_letters (spM ⟨K, gOf mg, B, (TT PA), noL⟩ [false] mf_need_letters) := by
  refine T.f_need_letters.okX sc_need_letters (fun vs H Q E h => h.1) (fun cdv A1 outer s H vs Q E hr h => ⟨tMS ⟨K, gOf mg, B, (TT PA), noL⟩ (fun cls d _ H => E cls d H) ⟨[false], vs⟩ m_need_letters, ?_, def_ok (k := ⟨K, gOf mg, B, (TT PA), noL⟩) (N := N_need_letters) h⟩)
  exact (show PMSs (cxOf (L2.CX P w) P w K mg base N_need_letters "need_letters" (defScope s_need_letters) (A 13) cdv A1 outer s H E) ⟨gOf mg, B, (TT PA), noL⟩ (fun cls d _ H => E cls d H) ⟨[false], vs⟩ (defBody s_need_letters) m_need_letters from (z_one (z_if (t_not (t_tru (q_call [false] [] (ok_is_letters T U) (hr.mono (by decide)) rfl T.g_is_letters T.f_is_letters.kp T.b_is_letters .nil (fun _ => .nil) (takes_of rfl rfl rfl rfl) (a_cons (q_var 0) a_nil)))) (z_one (z_raise rfl (takes_of rfl rfl rfl rfl) PySem.F.excBase_ValueError T.x_NoLetters T.g_NoLetters T.k_NoLetters (raises_own T.y_NoLetters T.t_NoLetters) rfl (gOf_at T.g_NoLetters))) z_nil)))
theorem sc_is_word_to : FnScope N_is_word_to p_is_word_to (defScope s_is_word_to) := ⟨rfl, rfl, rfl, by decide +kernel, rfl, by decide +kernel, by decide +kernel⟩
theorem ok_is_word_to (T : Txt K mg A FD CA) (U : Tbs mg base CA PA) : FnOk P w K mg base (L2.CX P w) 2 (A 14) (FD 14) p_is_word_to (spM ⟨K, gOf mg, B, (TT PA), noL⟩ [false, false, false] mf_is_word_to) := by
  refine T.f_is_word_to.okX sc_is_word_to (fun vs H Q E h => h.1) (fun cdv A1 outer s H vs Q E hr h => ⟨tMS ⟨K, gOf mg, B, (TT PA), noL⟩ (fun cls d _ H => E cls d H) ⟨[false, false, false], vs⟩ m_is_word_to, ?_, def_ok (k := ⟨K, gOf mg, B, (TT PA), noL⟩) (N := N_is_word_to) h⟩)
  exact (show PMSs (cxOf (L2.CX P w) P w K mg base N_is_word_to "is_word_to" (defScope s_is_word_to) (A 14) cdv A1 outer s H E) ⟨gOf mg, B, (TT PA), noL⟩ (fun cls d _ H => E cls d H) ⟨[false, false, false], vs⟩ (defBody s_is_word_to) m_is_word_to from (z_one (z_ret (q_and (q_isi (by decide) rfl rfl T.n_isinstance (by first | rfl | decide +kernel) rfl T.n_str (by first | rfl | decide +kernel) (q_var 1)) (q_and (q_le  (q_cb cr_len2 s_len rfl T.n_len (by first | rfl | decide +kernel) (a_cons (q_var 1) a_nil)) (q_var 2)) (q_one (q_cb (cr_all rfl) s_all rfl T.n_all (by first | rfl | decide +kernel) (a_cons (q_lc [("sign", 3)] rfl sc_is_word_to.nd (blkOk_by (N := N_is_word_to) (sc := defScope s_is_word_to) (by decide +kernel)) (by decide) (i_any (q_var 1)) (fun _ _ _ _ _ => (g_nm 3 sc_is_word_to.nd)) (fun _ _ _ _ _ => ts_nil) (fun _ _ _ _ _ => (q_in (hu_of hr) (q_var 3) (q_var 0)))) a_nil))))))))
theorem sc_need_word : FnScope N_need_word p_need_word (defScope s_need_word) := ⟨rfl, rfl, rfl, by decide +kernel, rfl, by decide +kernel, by decide +kernel⟩
theorem ok_need_word (T : Txt K mg A FD CA) (U : Tbs mg base CA PA) : FnOk P w K mg base (L2.CX P w) 3 (A 15) (FD 15) p_need_word (spM ⟨K, gOf mg, B, (TT PA), noL⟩ [false, false, false] mf_need_word) := by
  refine T.f_need_word.okX sc_need_word (fun vs H Q E h => h.1) (fun cdv A1 outer s H vs Q E hr h => ⟨tMS ⟨K, gOf mg, B, (TT PA), noL⟩ (fun cls d _ H => E cls d H) ⟨[false, false, false], vs⟩ m_need_word, ?_, def_ok (k := ⟨K, gOf mg, B, (TT PA), noL⟩) (N := N_need_word) h⟩)
  exact (show PMSs (cxOf (L2.CX P w) P w K mg base N_need_word "need_word" (defScope s_need_word) (A 15) cdv A1 outer s H E) ⟨gOf mg, B, (TT PA), noL⟩ (fun cls d _ H => E cls d H) ⟨[false, false, false], vs⟩ (defBody s_need_word) m_need_word from (z_one (z_if (t_not (t_tru (q_call [false, false, false] [] (ok_is_word_to T U) (hr.mono (by decide)) rfl T.g_is_word_to T.f_is_word_to.kp T.b_is_word_to .nil (fun _ => .nil) (takes_of rfl rfl rfl rfl) (a_cons (q_var 0) (a_cons (q_var 1) (a_cons (q_var 2) a_nil)))))) (z_one (z_raise rfl (takes_of rfl rfl rfl rfl) PySem.F.excBase_ValueError T.x_NoWord T.g_NoWord T.k_NoWord (raises_own T.y_NoWord T.t_NoWord) rfl (gOf_at T.g_NoWord))) z_nil)))
theorem sc_is_stand : FnScope N_is_stand p_is_stand (defScope s_is_stand) := ⟨rfl, rfl, rfl, by decide +kernel, rfl, by decide +kernel, by decide +kernel⟩
theorem ok_is_stand (T : Txt K mg A FD CA) (U : Tbs mg base CA PA) : FnOk P w K mg base (L2.CX P w) 3 (A 18) (FD 18) p_is_stand (spM ⟨K, gOf mg, B, (TT PA), noL⟩ [false, false, false] mf_is_stand) := by
  refine T.f_is_stand.okX sc_is_stand (fun vs H Q E h => h.1) (fun cdv A1 outer s H vs Q E hr h => ⟨tMS ⟨K, gOf mg, B, (TT PA), noL⟩ (fun cls d _ H => E cls d H) ⟨[false, false, false], vs⟩ m_is_stand, ?_, def_ok (k := ⟨K, gOf mg, B, (TT PA), noL⟩) (N := N_is_stand) h⟩)
  exact (show PMSs (cxOf (L2.CX P w) P w K mg base N_is_stand "is_stand" (defScope s_is_stand) (A 18) cdv A1 outer s H E) ⟨gOf mg, B, (TT PA), noL⟩ (fun cls d _ H => E cls d H) ⟨[false, false, false], vs⟩ (defBody s_is_stand) m_is_stand from (z_cons (z_if (PW.pt (w_or (t_not (t_tru (q_isi (by decide) rfl rfl T.n_isinstance (by first | rfl | decide +kernel) rfl T.n_tuple (by first | rfl | decide +kernel) (q_var 0)))) (w_or (t_ne hr.units (q_cb cr_len2 s_len rfl T.n_len (by first | rfl | decide +kernel) (a_cons (q_var 0) a_nil)) q_int) (w_or1 (t_not (t_tru (q_isi (by decide) rfl rfl T.n_isinstance (by first | rfl | decide +kernel) rfl T.n_bool (by first | rfl | decide +kernel) (q_ix (hu_of hr) (q_var 0) q_int)))))))) (z_one (z_ret q_bl)) z_nil)
    (z_cons (z_if (PW.pt (w_or (t_not (t_tru (q_isi (by decide) rfl rfl T.n_isinstance (by first | rfl | decide +kernel) rfl T.n_tuple (by first | rfl | decide +kernel) (q_ix (hu_of hr) (q_var 0) q_int)))) (w_or1 (t_ne hr.units (q_cb cr_len2 s_len rfl T.n_len (by first | rfl | decide +kernel) (a_cons (q_ix (hu_of hr) (q_var 0) q_int) a_nil)) (q_var 2))))) (z_one (z_ret q_bl)) z_nil)
    (z_one (z_ret (q_cb (cr_all rfl) s_all rfl T.n_all (by first | rfl | decide +kernel) (a_cons (q_lc [("to", 3)] rfl sc_is_stand.nd (blkOk_by (N := N_is_stand) (sc := defScope s_is_stand) (by decide +kernel)) (by decide) (i_any (q_ix (hu_of hr) (q_var 0) q_int)) (fun _ _ _ _ _ => (g_nm 3 sc_is_stand.nd)) (fun _ _ _ _ _ => ts_nil) (fun _ _ _ _ _ => (q_call [false, false, false] [] (ok_is_number T U) (hr.mono (by decide)) rfl T.g_is_number T.f_is_number.kp T.b_is_number .nil (fun _ => .nil) L2.takes0 (a_cons (q_var 3) (a_cons q_int (a_cons (q_sub (q_var 1) q_int) a_nil)))))) a_nil)))))))
theorem sc_zlaw_begun : FnScope N_zlaw_begun p_zlaw_begun (defScope s_zlaw_begun) := ⟨rfl, rfl, rfl, by decide +kernel, rfl, by decide +kernel, by decide +kernel⟩
theorem ok_zlaw_begun (T : Txt K mg A FD CA) (U : Tbs mg base CA PA) : FnOk P w K mg base (L2.CX P w) 2 (A 21) (FD 21) p_zlaw_begun (spM ⟨K, gOf mg, B, (TT PA), noL⟩ [true] mf_zlaw_begun) := by
  refine T.f_zlaw_begun.okX sc_zlaw_begun (fun vs H Q E h => h.1) (fun cdv A1 outer s H vs Q E hr h => ⟨tMS ⟨K, gOf mg, B, (TT PA), noL⟩ (fun cls d _ H => E cls d H) ⟨[true], vs⟩ m_zlaw_begun, ?_, def_ok (k := ⟨K, gOf mg, B, (TT PA), noL⟩) (N := N_zlaw_begun) h⟩)
  exact (show PMSs (cxOf (L2.CX P w) P w K mg base N_zlaw_begun "_law_begun" (defScope s_zlaw_begun) (A 21) cdv A1 outer s H E) ⟨gOf mg, B, (TT PA), noL⟩ (fun cls d _ H => E cls d H) ⟨[true], vs⟩ (defBody s_zlaw_begun) m_zlaw_begun from (z_cons (z_setLc 1 [("_law_cell", 2)] rfl sc_zlaw_begun.nd rfl (blkOk_by (N := N_zlaw_begun) (sc := defScope s_zlaw_begun) (by decide +kernel)) (by decide) (sw_true rfl rfl rfl (by decide +kernel)) (i_scr 0) (fun _ _ _ _ _ => (g_nm 2 sc_zlaw_begun.nd)) (fun _ _ _ _ _ => (ts_one (t_ge  (q_var 2) (q_pow q_int q_int)))) (fun _ _ _ _ _ => (q_sub (q_var 2) (q_pow q_int q_int))))
    (z_one (z_ret (q_stDisp (pp_cons (q_str [103, 114, 101, 97, 116]) (q_var 1) (pp_cons (q_str [99, 101, 108, 108, 115]) (q_scrList 0 rfl T.n_list (by first | rfl | decide +kernel) rfl (st_var 0)) (pp_cons (q_str [114, 101, 115, 116]) q_int (pp_cons (q_str [116, 117, 114, 110]) q_int pp_nil)))))))))
theorem sc_zlaw_mixed : FnScope N_zlaw_mixed p_zlaw_mixed (defScope s_zlaw_mixed) := ⟨rfl, rfl, rfl, by decide +kernel, rfl, by decide +kernel, by decide +kernel⟩
theorem ok_zlaw_mixed (T : Txt K mg A FD CA) (U : Tbs mg base CA PA) : FnOk P w K mg base (L2.CX P w) 2 (A 22) (FD 22) p_zlaw_mixed (spM ⟨K, gOf mg, B, (TT PA), noL⟩ [true] mf_zlaw_mixed) := by
  refine T.f_zlaw_mixed.okX sc_zlaw_mixed (fun vs H Q E h => h.1) (fun cdv A1 outer s H vs Q E hr h => ⟨tMS ⟨K, gOf mg, B, (TT PA), noL⟩ (fun cls d _ H => E cls d H) ⟨[true], vs⟩ m_zlaw_mixed, ?_, def_ok (k := ⟨K, gOf mg, B, (TT PA), noL⟩) (N := N_zlaw_mixed) h⟩)
  exact (show PMSs (cxOf (L2.CX P w) P w K mg base N_zlaw_mixed "_law_mixed" (defScope s_zlaw_mixed) (A 22) cdv A1 outer s H E) ⟨gOf mg, B, (TT PA), noL⟩ (fun cls d _ H => E cls d H) ⟨[true], vs⟩ (defBody s_zlaw_mixed) m_zlaw_mixed from (z_cons (z_set 1 sc_zlaw_mixed.nd rfl (q_add (q_turn 0 (hu_of hr) (st_var 0)) q_int))
    (z_cons (z_turn 0 rfl (hu_of hr) (st_var 0) (q_var 1))
    (z_cons (z_set 2 sc_zlaw_mixed.nd rfl q_int)
    (z_cons (z_for (passes_of rfl) rfl rfl (i_any (q_lst (a_cons q_int (a_cons q_int (a_cons q_int (a_cons q_int (a_cons q_int (a_cons q_int a_nil)))))))) (g_nm 3 sc_zlaw_mixed.nd) (z_cons (z_set 4 sc_zlaw_mixed.nd rfl (q_add (q_mul q_int (q_var 1)) (q_div (q_var 3) q_int)))
    (z_cons (z_for (passes_of rfl) rfl rfl (i_cells 0 (hu_of hr) (st_var 0)) (g_nm 5 sc_zlaw_mixed.nd) (z_one (z_set 4 sc_zlaw_mixed.nd rfl (q_mod (q_add (q_mul (q_var 4) q_int) (q_var 5)) (q_var 3)))))
    (z_one (z_set 2 sc_zlaw_mixed.nd rfl (q_add (q_mul (q_var 2) q_int) (q_mod (q_pow (q_var 4) q_int) (q_var 3))))))))
    (z_one (z_ret (q_var 2))))))))
theorem sc_zlaw_take : FnScope N_zlaw_take p_zlaw_take (defScope s_zlaw_take) := ⟨rfl, rfl, rfl, by decide +kernel, rfl, by decide +kernel, by decide +kernel⟩
theorem ok_zlaw_take (T : Txt K mg A FD CA) (U : Tbs mg base CA PA) : FnOk P w K mg base (L2.CX P w) 3 (A 23) (FD 23) p_zlaw_take (spM ⟨K, gOf mg, B, (TT PA), noL⟩ [true, false] mf_zlaw_take) := by
  refine T.f_zlaw_take.okX sc_zlaw_take (fun vs H Q E h => h.1) (fun cdv A1 outer s H vs Q E hr h => ⟨tMS ⟨K, gOf mg, B, (TT PA), noL⟩ (fun cls d _ H => E cls d H) ⟨[true, false], vs⟩ m_zlaw_take, ?_, def_ok (k := ⟨K, gOf mg, B, (TT PA), noL⟩) (N := N_zlaw_take) h⟩)
  exact (show PMSs (cxOf (L2.CX P w) P w K mg base N_zlaw_take "_law_take" (defScope s_zlaw_take) (A 23) cdv A1 outer s H E) ⟨gOf mg, B, (TT PA), noL⟩ (fun cls d _ H => E cls d H) ⟨[true, false], vs⟩ (defBody s_zlaw_take) m_zlaw_take from (z_cons (z_if (PW.pt (w_and (t_eq hr.units (q_rest 0 (hu_of hr) (st_var 0)) q_int) (w_and1 (t_stAny 0 (hu_of hr) hr.units (st_var 0))))) (z_one (z_rest 0 rfl (hu_of hr) (st_var 0) (q_stPop 0 (hu_of hr) (st_var 0)))) (z_one (z_if (t_eq hr.units (q_rest 0 (hu_of hr) (st_var 0)) q_int) (z_one (z_rest 0 rfl (hu_of hr) (st_var 0) (q_call [true] [] (ok_zlaw_mixed T U) (hr.mono (by decide)) rfl T.g_zlaw_mixed T.f_zlaw_mixed.kp T.b_zlaw_mixed .nil (fun _ => .nil) (takes_of rfl rfl rfl rfl) (a_cons (q_var 0) a_nil)))) z_nil)))
    (z_cons (z_set 2 sc_zlaw_take.nd rfl (q_mod (q_rest 0 (hu_of hr) (st_var 0)) (q_var 1)))
    (z_cons (z_rest 0 rfl (hu_of hr) (st_var 0) (q_div (q_rest 0 (hu_of hr) (st_var 0)) (q_var 1)))
    (z_one (z_ret (q_var 2)))))))
theorem sc_zlaw_pick : FnScope N_zlaw_pick p_zlaw_pick (defScope s_zlaw_pick) := ⟨rfl, rfl, rfl, by decide +kernel, rfl, by decide +kernel, by decide +kernel⟩
theorem ok_zlaw_pick (T : Txt K mg A FD CA) (U : Tbs mg base CA PA) : FnOk P w K mg base (L2.CX P w) 4 (A 24) (FD 24) p_zlaw_pick (spM ⟨K, gOf mg, B, (TT PA), noL⟩ [true, false] mf_zlaw_pick) := by
  refine T.f_zlaw_pick.okX sc_zlaw_pick (fun vs H Q E h => h.1) (fun cdv A1 outer s H vs Q E hr h => ⟨tMS ⟨K, gOf mg, B, (TT PA), noL⟩ (fun cls d _ H => E cls d H) ⟨[true, false], vs⟩ m_zlaw_pick, ?_, def_ok (k := ⟨K, gOf mg, B, (TT PA), noL⟩) (N := N_zlaw_pick) h⟩)
  exact (show PMSs (cxOf (L2.CX P w) P w K mg base N_zlaw_pick "_law_pick" (defScope s_zlaw_pick) (A 24) cdv A1 outer s H E) ⟨gOf mg, B, (TT PA), noL⟩ (fun cls d _ H => E cls d H) ⟨[true, false], vs⟩ (defBody s_zlaw_pick) m_zlaw_pick from (z_one (z_ret (q_ix (hu_of hr) (q_var 1) (q_call [true, false] [] (ok_zlaw_take T U) (hr.mono (by decide)) rfl T.g_zlaw_take T.f_zlaw_take.kp T.b_zlaw_take .nil (fun _ => .nil) (takes_of rfl rfl rfl rfl) (a_cons (q_var 0) (a_cons (q_cb cr_len2 s_len rfl T.n_len (by first | rfl | decide +kernel) (a_cons (q_var 1) a_nil)) a_nil)))))))
theorem sc_zlaw_abc : FnScope N_zlaw_abc p_zlaw_abc (defScope s_zlaw_abc) := ⟨rfl, rfl, rfl, by decide +kernel, rfl, by decide +kernel, by decide +kernel⟩
theorem ok_zlaw_abc (T : Txt K mg A FD CA) (U : Tbs mg base CA PA) : FnOk P w K mg base (L2.CX P w) 5 (A 25) (FD 25) p_zlaw_abc (spM ⟨K, gOf mg, B, (TT PA), noL⟩ [true, false, false] mf_zlaw_abc) := by
  refine T.f_zlaw_abc.okX sc_zlaw_abc (fun vs H Q E h => h.1) (fun cdv A1 outer s H vs Q E hr h => ⟨tMS ⟨K, gOf mg, B, (TT PA), noL⟩ (fun cls d _ H => E cls d H) ⟨[true, false, false], vs⟩ m_zlaw_abc, ?_, def_ok (k := ⟨K, gOf mg, B, (TT PA), noL⟩) (N := N_zlaw_abc) h⟩)
  exact (show PMSs (cxOf (L2.CX P w) P w K mg base N_zlaw_abc "_law_abc" (defScope s_zlaw_abc) (A 25) cdv A1 outer s H E) ⟨gOf mg, B, (TT PA), noL⟩ (fun cls d _ H => E cls d H) ⟨[true, false, false], vs⟩ (defBody s_zlaw_abc) m_zlaw_abc from (z_cons (z_asg rfl (q_tup (a_cons (q_str [97, 98, 99, 100, 101, 102, 103, 104, 105, 106, 107, 108, 109, 110, 111, 112, 113, 114, 115, 116, 117, 118, 119, 120, 121, 122]) (a_cons (q_str []) a_nil))) (g_tp rfl (gs_cons (g_nm 3 sc_zlaw_abc.nd) (gs_cons (g_nm 4 sc_zlaw_abc.nd) gs_nil))))
    (z_cons (z_for (passes_of rfl) rfl rfl (i_rng1 rfl T.n_range (a_cons (q_add (q_var 1) (q_call [true, false] [] (ok_zlaw_take T U) (hr.mono (by decide)) rfl T.g_zlaw_take T.f_zlaw_take.kp T.b_zlaw_take .nil (fun _ => .nil) (takes_of rfl rfl rfl rfl) (a_cons (q_var 0) (a_cons (q_add (q_sub (q_var 2) (q_var 1)) q_int) a_nil)))) a_nil)) (g_nm 5 sc_zlaw_abc.nd) (z_cons (z_setLc 6 [("_law_sign", 7)] rfl sc_zlaw_abc.nd rfl (blkOk_by (N := N_zlaw_abc) (sc := defScope s_zlaw_abc) (by decide +kernel)) (by decide) (sw_true rfl rfl rfl (by decide +kernel)) (i_any (q_var 3)) (fun _ _ _ _ _ => (g_nm 7 sc_zlaw_abc.nd)) (fun _ _ _ _ _ => (ts_one (t_notin (hu_of hr) (q_var 7) (q_var 4)))) (fun _ _ _ _ _ => (q_var 7)))
    (z_one (z_set 4 sc_zlaw_abc.nd rfl (q_add (q_var 4) (q_call [true, false] [] (ok_zlaw_pick T U) (hr.mono (by decide)) rfl T.g_zlaw_pick T.f_zlaw_pick.kp T.b_zlaw_pick .nil (fun _ => .nil) (takes_of rfl rfl rfl rfl) (a_cons (q_var 0) (a_cons (q_var 6) a_nil))))))))
    (z_one (z_ret (q_join (q_str []) (q_cb (cr_sortedX rfl) s_sortedX rfl T.n_sorted (by first | rfl | decide +kernel) (a_cons (q_var 4) a_nil))))))))
theorem sc_zlaw_table : FnScope N_zlaw_table p_zlaw_table (defScope s_zlaw_table) := ⟨rfl, rfl, rfl, by decide +kernel, rfl, by decide +kernel, by decide +kernel⟩
theorem ok_zlaw_table (T : Txt K mg A FD CA) (U : Tbs mg base CA PA) : FnOk P w K mg base (L2.CX P w) 5 (A 26) (FD 26) p_zlaw_table (spM ⟨K, gOf mg, B, (TT PA), noL⟩ [true, false, false] mf_zlaw_table) := by
  refine T.f_zlaw_table.okX sc_zlaw_table (fun vs H Q E h => h.1) (fun cdv A1 outer s H vs Q E hr h => ⟨tMS ⟨K, gOf mg, B, (TT PA), noL⟩ (fun cls d _ H => E cls d H) ⟨[true, false, false], vs⟩ m_zlaw_table, ?_, def_ok (k := ⟨K, gOf mg, B, (TT PA), noL⟩) (N := N_zlaw_table) h⟩)
  exact (show PMSs (cxOf (L2.CX P w) P w K mg base N_zlaw_table "_law_table" (defScope s_zlaw_table) (A 26) cdv A1 outer s H E) ⟨gOf mg, B, (TT PA), noL⟩ (fun cls d _ H => E cls d H) ⟨[true, false, false], vs⟩ (defBody s_zlaw_table) m_zlaw_table from (z_cons (z_asg rfl (q_tup (a_cons (q_add q_int (q_call [true, false] [] (ok_zlaw_take T U) (hr.mono (by decide)) rfl T.g_zlaw_take T.f_zlaw_take.kp T.b_zlaw_take .nil (fun _ => .nil) (takes_of rfl rfl rfl rfl) (a_cons (q_var 0) (a_cons (q_var 2) a_nil)))) (a_cons (q_add q_int (q_call [true, false] [] (ok_zlaw_take T U) (hr.mono (by decide)) rfl T.g_zlaw_take T.f_zlaw_take.kp T.b_zlaw_take .nil (fun _ => .nil) (takes_of rfl rfl rfl rfl) (a_cons (q_var 0) (a_cons q_int a_nil)))) a_nil))) (g_tp rfl (gs_cons (g_nm 3 sc_zlaw_table.nd) (gs_cons (g_nm 4 sc_zlaw_table.nd) gs_nil))))
    (z_cons (z_set 5 sc_zlaw_table.nd rfl (q_lst a_nil))
    (z_cons (z_for (passes_of rfl) rfl rfl (i_rng1 rfl T.n_range (a_cons (q_var 3) a_nil)) (g_nm 6 sc_zlaw_table.nd) (z_cons (z_setLc 7 [("_law_sign", 8)] rfl sc_zlaw_table.nd rfl (blkOk_by (N := N_zlaw_table) (sc := defScope s_zlaw_table) (by decide +kernel)) (by decide) (sw_true rfl rfl rfl (by decide +kernel)) (i_any (q_var 1)) (fun _ _ _ _ _ => (g_nm 8 sc_zlaw_table.nd)) (fun _ _ _ _ _ => ts_nil) (fun _ _ _ _ _ => (q_call [true, false] [] (ok_zlaw_pick T U) (hr.mono (by decide)) rfl T.g_zlaw_pick T.f_zlaw_pick.kp T.b_zlaw_pick .nil (fun _ => .nil) L2.takes0 (a_cons (q_var 0) (a_cons (q_lst (a_cons (q_call [true, false] [] (ok_zlaw_take T U) (hr.mono (by decide)) rfl T.g_zlaw_take T.f_zlaw_take.kp T.b_zlaw_take .nil (fun _ => .nil) L2.takes0 (a_cons (q_var 0) (a_cons (q_var 3) a_nil))) (a_cons (q_cb (call_min2 rfl) s_min rfl T.n_min (by first | rfl | decide +kernel) (a_cons (q_add (q_var 6) q_int) (a_cons (q_sub (q_var 3) q_int) a_nil))) (a_cons (q_var 6) a_nil)))) a_nil)))))
    (z_one (z_expr (q_append 5 (ha := (q_tup (a_cons (q_eq hr.units (q_call [true, false] [] (ok_zlaw_take T U) (hr.mono (by decide)) rfl T.g_zlaw_take T.f_zlaw_take.kp T.b_zlaw_take .nil (fun _ => .nil) (takes_of rfl rfl rfl rfl) (a_cons (q_var 0) (a_cons (q_add (q_var 4) q_int) a_nil))) q_int) (a_cons (q_tuple rfl T.n_tuple (q_var 7)) a_nil)))))))))
    (z_one (z_ret (q_var 5)))))))
theorem sc_zlaw_token : FnScope N_zlaw_token p_zlaw_token (defScope s_zlaw_token) := ⟨rfl, rfl, rfl, by decide +kernel, rfl, by decide +kernel, by decide +kernel⟩
theorem ok_zlaw_token (T : Txt K mg A FD CA) (U : Tbs mg base CA PA) : FnOk P w K mg base (L2.CX P w) 5 (A 27) (FD 27) p_zlaw_token (spM ⟨K, gOf mg, B, (TT PA), noL⟩ [true, false, false] mf_zlaw_token) := by
  refine T.f_zlaw_token.okX sc_zlaw_token (fun vs H Q E h => h.1) (fun cdv A1 outer s H vs Q E hr h => ⟨tMS ⟨K, gOf mg, B, (TT PA), noL⟩ (fun cls d _ H => E cls d H) ⟨[true, false, false], vs⟩ m_zlaw_token, ?_, def_ok (k := ⟨K, gOf mg, B, (TT PA), noL⟩) (N := N_zlaw_token) h⟩)
  exact (show PMSs (cxOf (L2.CX P w) P w K mg base N_zlaw_token "_law_token" (defScope s_zlaw_token) (A 27) cdv A1 outer s H E) ⟨gOf mg, B, (TT PA), noL⟩ (fun cls d _ H => E cls d H) ⟨[true, false, false], vs⟩ (defBody s_zlaw_token) m_zlaw_token from (z_cons (z_set 3 sc_zlaw_token.nd rfl (q_call [true, false] [] (ok_zlaw_take T U) (hr.mono (by decide)) rfl T.g_zlaw_take T.f_zlaw_take.kp T.b_zlaw_take .nil (fun _ => .nil) (takes_of rfl rfl rfl rfl) (a_cons (q_var 0) (a_cons (q_add (q_var 2) q_int) a_nil))))
    (z_one (z_ret (q_join (q_str []) (q_lc [("_law_turn", 4)] rfl sc_zlaw_token.nd (blkOk_by (N := N_zlaw_token) (sc := defScope s_zlaw_token) (by decide +kernel)) (by decide) (i_rng1 rfl T.n_range (a_cons (q_var 3) a_nil)) (fun _ _ _ _ _ => (g_nm 4 sc_zlaw_token.nd)) (fun _ _ _ _ _ => ts_nil) (fun _ _ _ _ _ => (q_call [true, false] [] (ok_zlaw_pick T U) (hr.mono (by decide)) rfl T.g_zlaw_pick T.f_zlaw_pick.kp T.b_zlaw_pick .nil (fun _ => .nil) L2.takes0 (a_cons (q_var 0) (a_cons (q_var 1) a_nil))))))))))
theorem sc_zlaw_behind : FnScope N_zlaw_behind p_zlaw_behind (defScope s_zlaw_behind) := ⟨rfl, rfl, rfl, by decide +kernel, rfl, by decide +kernel, by decide +kernel⟩
theorem ok_zlaw_behind (T : Txt K mg A FD CA) (U : Tbs mg base CA PA) : FnOk P w K mg base (L2.CX P w) 2 (A 28) (FD 28) p_zlaw_behind (spM ⟨K, gOf mg, B, (TT PA), noL⟩ [false, false, false, false] mf_zlaw_behind) := by
  refine T.f_zlaw_behind.okX sc_zlaw_behind (fun vs H Q E h => h.1) (fun cdv A1 outer s H vs Q E hr h => ⟨tMS ⟨K, gOf mg, B, (TT PA), noL⟩ (fun cls d _ H => E cls d H) ⟨[false, false, false, false], vs⟩ m_zlaw_behind, ?_, def_ok (k := ⟨K, gOf mg, B, (TT PA), noL⟩) (N := N_zlaw_behind) h⟩)
  exact (show PMSs (cxOf (L2.CX P w) P w K mg base N_zlaw_behind "_law_behind" (defScope s_zlaw_behind) (A 28) cdv A1 outer s H E) ⟨gOf mg, B, (TT PA), noL⟩ (fun cls d _ H => E cls d H) ⟨[false, false, false, false], vs⟩ (defBody s_zlaw_behind) m_zlaw_behind from (z_cons (z_for (passes_of rfl) rfl rfl (i_any (q_var 3)) (g_nm 4 sc_zlaw_behind.nd) (z_one (z_set 2 sc_zlaw_behind.nd rfl (q_ix (hu_of hr) (q_ix (hu_of hr) (q_ix (hu_of hr) (q_var 1) (q_var 2)) q_int) (q_sindex (q_var 0) (a_cons (q_var 4) a_nil))))))
    (z_one (z_ret (q_var 2)))))
theorem sc_zlaw_said : FnScope N_zlaw_said p_zlaw_said (defScope s_zlaw_said) := ⟨rfl, rfl, rfl, by decide +kernel, rfl, by decide +kernel, by decide +kernel⟩
theorem okC_zlaw_said (lc : Nat) (c : Nat → MF) (T : Txt K mg A FD CA) (U : Tbs mg base CA PA) : FnOkC P w K mg base (lc + 1 + 1) (A 29) (FD 29) p_zlaw_said (gOf mg) (TT PA) [false] (mf_zlaw_said c) (fun n => some (List.replicate (ar_zlaw_said n) false, c n)) lc := by
  refine fun_okC T.f_zlaw_said sc_zlaw_said (fun cdv A1 outer s H vs Q E B L hr hL h => ⟨tMS ⟨K, gOf mg, B, (TT PA), L⟩ (fun cls d _ H => E cls d H) ⟨[false], vs⟩ (m_zlaw_said c), ?_, def_ok0 (k0 := ⟨K, gOf mg, B, (TT PA), L⟩) (N := N_zlaw_said) rfl rfl rfl rfl (fun _ _ _ z => z) (fun _ z => z) h⟩)
  exact (show PMSs (cxOf (L2.CX P w) P w K mg base N_zlaw_said "_law_said" (defScope s_zlaw_said) (A 29) cdv A1 outer s H E) ⟨gOf mg, B, (TT PA), L⟩ (fun cls d _ H => E cls d H) ⟨[false], vs⟩ (defBody s_zlaw_said) (m_zlaw_said c) from (z_cons (z_asg rfl (q_tup (a_cons q_non (a_cons q_non a_nil))) (g_tp rfl (gs_cons (g_nm 1 sc_zlaw_said.nd) (gs_cons (g_nm 2 sc_zlaw_said.nd) gs_nil))))
    (z_cons (z_tryKeep [("NoLetters", true), ("NoWord", true), ("NoMachine", true), ("NoNumber", true)] 3 2 (ExT.cons (gOf_at T.g_NoLetters) T.m_NoLetters_SwingError (ExT.cons (gOf_at T.g_NoWord) T.m_NoWord_SwingError (ExT.cons (gOf_at T.g_NoMachine) T.m_NoMachine_SwingError (ExT.cons (gOf_at T.g_NoNumber) T.m_NoNumber_SwingError ExT.nil)))) sc_zlaw_said.nd rfl rfl ⟨rfl, by decide, .inl T.g_SwingError⟩ (takes_of rfl rfl rfl rfl) (fun W pn xe tk po => (z_one (z_set 1 sc_zlaw_said.nd rfl (q_clo0 (j := 0) (i := 0) (m := c 0) (fun f Hk h => by obtain ⟨_, e, l⟩ := hL _ f Hk h; cases e; exact l) (hr.mono (by omega)) tk)))))
    (z_cons (z_if (t_isN (q_var 2) q_non) (z_one (z_ret (q_tup (a_cons (q_str [116, 111, 108, 100]) (a_cons (q_var 1) a_nil))))) z_nil)
    (z_cons (z_set 4 sc_zlaw_said.nd rfl (q_lst (a_cons (q_isx rfl rfl T.n_isinstance (by first | rfl | decide +kernel) (ExcO.cls rfl T.g_NoWord) (ClsV.own _) (IsT.cons (gOf_at T.g_NoLetters) T.e_NoLetters T.i_NoLetters_NoWord (IsT.cons (gOf_at T.g_NoWord) T.e_NoWord T.i_NoWord_NoWord (IsT.cons (gOf_at T.g_NoMachine) T.e_NoMachine T.i_NoMachine_NoWord (IsT.cons (gOf_at T.g_NoNumber) T.e_NoNumber T.i_NoNumber_NoWord IsT.nil)))) (q_var 2)) (a_cons (q_isx rfl rfl T.n_isinstance (by first | rfl | decide +kernel) (ExcO.cls rfl T.g_NoNumber) (ClsV.own _) (IsT.cons (gOf_at T.g_NoLetters) T.e_NoLetters T.i_NoLetters_NoNumber (IsT.cons (gOf_at T.g_NoWord) T.e_NoWord T.i_NoWord_NoNumber (IsT.cons (gOf_at T.g_NoMachine) T.e_NoMachine T.i_NoMachine_NoNumber (IsT.cons (gOf_at T.g_NoNumber) T.e_NoNumber T.i_NoNumber_NoNumber IsT.nil)))) (q_var 2)) a_nil))))
    (z_cons (z_expr (q_append 4 (ha := (q_isxT rfl rfl T.n_isinstance (by first | rfl | decide +kernel) (pa_csc (ExcO.cls rfl T.g_NoLetters) (pa_csc (ExcO.cls rfl T.g_NoMachine) (pa_csc (ExcO.cls rfl T.g_TooGreat) pa_cs0))) (Nat.le_of_ble_eq_true rfl) (Paired.cons (ClsV.own _) (Paired.cons (ClsV.own _) (Paired.cons (ClsV.own _) Paired.nil))) (IsT.cons (gOf_at T.g_NoLetters) T.e_NoLetters (any_cons T.i_NoLetters_NoLetters (any_cons T.i_NoLetters_NoMachine (any_cons T.i_NoLetters_TooGreat any_nil))) (IsT.cons (gOf_at T.g_NoWord) T.e_NoWord (any_cons T.i_NoWord_NoLetters (any_cons T.i_NoWord_NoMachine (any_cons T.i_NoWord_TooGreat any_nil))) (IsT.cons (gOf_at T.g_NoMachine) T.e_NoMachine (any_cons T.i_NoMachine_NoLetters (any_cons T.i_NoMachine_NoMachine (any_cons T.i_NoMachine_TooGreat any_nil))) (IsT.cons (gOf_at T.g_NoNumber) T.e_NoNumber (any_cons T.i_NoNumber_NoLetters (any_cons T.i_NoNumber_NoMachine (any_cons T.i_NoNumber_TooGreat any_nil))) IsT.nil)))) (q_var 2)))))
    (z_cons (z_if (PW.pt (w_or (t_ne hr.units (q_count (u65 hr) (q_var 4) (a_cons q_bl a_nil)) q_int) (w_or1 (t_not (t_tru (q_isx rfl rfl T.n_isinstance (by first | rfl | decide +kernel) (pe_bltn (v := .ty "ValueError") rfl T.n_ValueError (by first | rfl | decide +kernel) rfl) (ClsV.ty _) (IsT.cons (gOf_at T.g_NoLetters) T.e_NoLetters T.i_NoLetters_ValueError (IsT.cons (gOf_at T.g_NoWord) T.e_NoWord T.i_NoWord_ValueError (IsT.cons (gOf_at T.g_NoMachine) T.e_NoMachine T.i_NoMachine_ValueError (IsT.cons (gOf_at T.g_NoNumber) T.e_NoNumber T.i_NoNumber_ValueError IsT.nil)))) (q_var 2))))))) (z_one (z_ret (q_str [111, 116, 104, 101, 114]))) z_nil)
    (z_one (z_ret (q_ix (hu_of hr) (q_lst (a_cons (q_str [119, 111, 114, 100]) (a_cons (q_str [110, 117, 109, 98, 101, 114]) (a_cons (q_str [111, 116, 104, 101, 114]) a_nil)))) (q_index (u65 hr) (q_var 4) (a_cons q_bl a_nil))))))))))))
theorem sc_zlaw_is_token : FnScope N_zlaw_is_token p_zlaw_is_token (defScope s_zlaw_is_token) := ⟨rfl, rfl, rfl, by decide +kernel, rfl, by decide +kernel, by decide +kernel⟩
theorem ok_zlaw_is_token (T : Txt K mg A FD CA) (U : Tbs mg base CA PA) : FnOk P w K mg base (L2.CX P w) 2 (A 30) (FD 30) p_zlaw_is_token (spM ⟨K, gOf mg, B, (TT PA), noL⟩ [false, false] mf_zlaw_is_token) := by
  refine T.f_zlaw_is_token.okX sc_zlaw_is_token (fun vs H Q E h => h.1) (fun cdv A1 outer s H vs Q E hr h => ⟨tMS ⟨K, gOf mg, B, (TT PA), noL⟩ (fun cls d _ H => E cls d H) ⟨[false, false], vs⟩ m_zlaw_is_token, ?_, def_ok (k := ⟨K, gOf mg, B, (TT PA), noL⟩) (N := N_zlaw_is_token) h⟩)
  exact (show PMSs (cxOf (L2.CX P w) P w K mg base N_zlaw_is_token "_law_is_token" (defScope s_zlaw_is_token) (A 30) cdv A1 outer s H E) ⟨gOf mg, B, (TT PA), noL⟩ (fun cls d _ H => E cls d H) ⟨[false, false], vs⟩ (defBody s_zlaw_is_token) m_zlaw_is_token from (z_cons (z_if (PW.pt (w_or (t_not (t_tru (q_isi (by decide) rfl rfl T.n_isinstance (by first | rfl | decide +kernel) rfl T.n_str (by first | rfl | decide +kernel) (q_var 1)))) (w_or1 (t_gt  (q_cb cr_len2 s_len rfl T.n_len (by first | rfl | decide +kernel) (a_cons (q_var 1) a_nil)) q_int)))) (z_one (z_ret q_bl)) z_nil)
    (z_one (z_ret (q_eq hr.units (q_cb cr_len2 s_len rfl T.n_len (by first | rfl | decide +kernel) (a_cons (q_lc [("_law_sign", 2)] rfl sc_zlaw_is_token.nd (blkOk_by (N := N_zlaw_is_token) (sc := defScope s_zlaw_is_token) (by decide +kernel)) (by decide) (i_any (q_var 0)) (fun _ _ _ _ _ => (g_nm 2 sc_zlaw_is_token.nd)) (fun _ _ _ _ _ => (ts_one (t_in (hu_of hr) (q_var 2) (q_var 1)))) (fun _ _ _ _ _ => (q_var 2))) a_nil)) (q_lenSet rfl T.n_len T.n_set (q_listX rfl T.n_list (a_cons (q_var 1) a_nil))))))))
theorem sc_zlaw_is_stood : FnScope N_zlaw_is_stood p_zlaw_is_stood (defScope s_zlaw_is_stood) := ⟨rfl, rfl, rfl, by decide +kernel, rfl, by decide +kernel, by decide +kernel⟩
theorem ok_zlaw_is_stood (T : Txt K mg A FD CA) (U : Tbs mg base CA PA) : FnOk P w K mg base (L2.CX P w) 2 (A 31) (FD 31) p_zlaw_is_stood (spM ⟨K, gOf mg, B, (TT PA), noL⟩ [false, false] mf_zlaw_is_stood) := by
  refine T.f_zlaw_is_stood.okX sc_zlaw_is_stood (fun vs H Q E h => h.1) (fun cdv A1 outer s H vs Q E hr h => ⟨tMS ⟨K, gOf mg, B, (TT PA), noL⟩ (fun cls d _ H => E cls d H) ⟨[false, false], vs⟩ m_zlaw_is_stood, ?_, def_ok (k := ⟨K, gOf mg, B, (TT PA), noL⟩) (N := N_zlaw_is_stood) h⟩)
  exact (show PMSs (cxOf (L2.CX P w) P w K mg base N_zlaw_is_stood "_law_is_stood" (defScope s_zlaw_is_stood) (A 31) cdv A1 outer s H E) ⟨gOf mg, B, (TT PA), noL⟩ (fun cls d _ H => E cls d H) ⟨[false, false], vs⟩ (defBody s_zlaw_is_stood) m_zlaw_is_stood from (z_one (z_ret (q_and (q_isi (by decide) rfl rfl T.n_isinstance (by first | rfl | decide +kernel) rfl T.n_int (by first | rfl | decide +kernel) (q_var 1)) (q_and (q_not (q_isi (by decide) rfl rfl T.n_isinstance (by first | rfl | decide +kernel) rfl T.n_bool (by first | rfl | decide +kernel) (q_var 1))) (q_one (q_lelt q_int (q_var 1) (q_cb cr_len2 s_len rfl T.n_len (by first | rfl | decide +kernel) (a_cons (q_var 0) a_nil)))))))))
theorem sc_Machine___init__ : FnScope N_Machine___init__ p_Machine___init__ (defScope s_Machine___init__) := ⟨rfl, rfl, rfl, by decide +kernel, rfl, by decide +kernel, by decide +kernel⟩
theorem ok_Machine___init__ (T : Txt K mg A FD CA) (U : Tbs mg base CA PA) : FnOk P w K mg base (L2.CX P w) 4 (A 33) (FD 33) p_Machine___init__ (spM ⟨K, gOf mg, B, (TT PA), noL⟩ [true, false, false] mf_Machine___init__) := by
  refine T.f_Machine___init__.okX sc_Machine___init__ (fun vs H Q E h => h.1) (fun cdv A1 outer s H vs Q E hr h => ⟨tMS ⟨K, gOf mg, B, (TT PA), noL⟩ (fun cls d _ H => E cls d H) ⟨[true, false, false], vs⟩ m_Machine___init__, ?_, def_ok (k := ⟨K, gOf mg, B, (TT PA), noL⟩) (N := N_Machine___init__) h⟩)
  exact (show PMSs (cxOf (L2.CX P w) P w K mg base N_Machine___init__ "Machine.__init__" (defScope s_Machine___init__) (A 33) cdv A1 outer s H E) ⟨gOf mg, B, (TT PA), noL⟩ (fun cls d _ H => E cls d H) ⟨[true, false, false], vs⟩ (defBody s_Machine___init__) m_Machine___init__ from (z_cons (z_expr (q_call [false] [] (ok_need_letters T U) (hr.mono (by decide)) rfl T.g_need_letters T.f_need_letters.kp T.b_need_letters .nil (fun _ => .nil) (takes_of rfl rfl rfl rfl) (a_cons (q_var 1) a_nil)))
    (z_cons (z_if (PW.pt (w_or (t_not (t_tru (q_isiT (Ts := ["list", "tuple"]) rfl T.n_isinstance (pa_csc (pe_bltn (v := .ty "list") rfl T.n_list (by first | rfl | decide +kernel) rfl) (pa_csc (pe_bltn (v := .ty "tuple") rfl T.n_tuple (by first | rfl | decide +kernel) rfl) pa_cs0)) (by decide) (by decide) (q_var 2)))) (w_or1 (t_not (t_lele q_int (q_cb cr_len2 s_len rfl T.n_len (by first | rfl | decide +kernel) (a_cons (q_var 2) a_nil)) (q_gint rfl T.c_MOST_STANDS.choose_spec)))))) (z_one (z_raise rfl (takes_of rfl rfl rfl rfl) PySem.F.excBase_ValueError T.x_NoMachine T.g_NoMachine T.k_NoMachine (raises_own T.y_NoMachine T.t_NoMachine) rfl (gOf_at T.g_NoMachine))) z_nil)
    (z_cons (z_if (t_not (t_tru (q_cb (cr_all rfl) s_all rfl T.n_all (by first | rfl | decide +kernel) (a_cons (q_lc [("row", 3)] rfl sc_Machine___init__.nd (blkOk_by (N := N_Machine___init__) (sc := defScope s_Machine___init__) (by decide +kernel)) (by decide) (i_any (q_var 2)) (fun _ _ _ _ _ => (g_nm 3 sc_Machine___init__.nd)) (fun _ _ _ _ _ => ts_nil) (fun _ _ _ _ _ => (q_call [false, false, false] [] (ok_is_stand T U) (hr.mono (by decide)) rfl T.g_is_stand T.f_is_stand.kp T.b_is_stand .nil (fun _ => .nil) L2.takes0 (a_cons (q_var 3) (a_cons (q_cb cr_len2 s_len rfl T.n_len (by first | rfl | decide +kernel) (a_cons (q_var 2) a_nil)) (a_cons (q_cb cr_len2 s_len rfl T.n_len (by first | rfl | decide +kernel) (a_cons (q_var 1) a_nil)) a_nil)))))) a_nil)))) (z_one (z_raise rfl (takes_of rfl rfl rfl rfl) PySem.F.excBase_ValueError T.x_NoMachine T.g_NoMachine T.k_NoMachine (raises_own T.y_NoMachine T.t_NoMachine) rfl (gOf_at T.g_NoMachine))) z_nil)
    (z_cons (z_fld (c := "Machine") 0 (gOf_at T.g_Machine) T.cl_Machine T.na_Machine_letters_told (q_var 1))
    (z_one (z_fld (c := "Machine") 0 (gOf_at T.g_Machine) T.cl_Machine T.na_Machine_stand_rows (q_ct (cr_list2 rfl) s_list rfl T.n_list (by first | rfl | decide +kernel) (a_cons (q_var 2) a_nil)))))))))
theorem sc_Machine___eq__ : FnScope N_Machine___eq__ p_Machine___eq__ (defScope s_Machine___eq__) := ⟨rfl, rfl, rfl, by decide +kernel, rfl, by decide +kernel, by decide +kernel⟩
theorem ok_Machine___eq__ (T : Txt K mg A FD CA) (U : Tbs mg base CA PA) : FnOk P w K mg base (L2.CX P w) 2 (A 36) (FD 36) p_Machine___eq__ (spM ⟨K, gOf mg, B, (TT PA), noL⟩ [false, false] mf_Machine___eq__) := by
  refine T.f_Machine___eq__.okX sc_Machine___eq__ (fun vs H Q E h => h.1) (fun cdv A1 outer s H vs Q E hr h => ⟨tMS ⟨K, gOf mg, B, (TT PA), noL⟩ (fun cls d _ H => E cls d H) ⟨[false, false], vs⟩ m_Machine___eq__, ?_, def_ok (k := ⟨K, gOf mg, B, (TT PA), noL⟩) (N := N_Machine___eq__) h⟩)
  exact (show PMSs (cxOf (L2.CX P w) P w K mg base N_Machine___eq__ "Machine.__eq__" (defScope s_Machine___eq__) (A 36) cdv A1 outer s H E) ⟨gOf mg, B, (TT PA), noL⟩ (fun cls d _ H => E cls d H) ⟨[false, false], vs⟩ (defBody s_Machine___eq__) m_Machine___eq__ from (z_cons (z_if (t_not (t_tru (q_is1 rfl T.n_isinstance (ExcO.cls rfl T.g_Machine) (ClsV.own _) (IsA.of (fm_cons T.j_NoneType_Machine (fm_cons T.j_bool_Machine (fm_cons T.j_int_Machine (fm_cons T.j_str_Machine (fm_cons T.j_list_Machine (fm_cons T.j_tuple_Machine (fm_cons T.j_dict_Machine fm_nil))))))) (fm_cons ⟨_, gOf_at T.g_Machine, T.in_Machine, T.jo_Machine_Machine⟩ fm_nil) fm_nil) (q_var 1)))) (z_one (z_ret q_bl)) z_nil)
    (z_one (z_ret (q_and (q_eq hr.units (q_fld (c := "Machine") (gOf_at T.g_Machine) T.cl_Machine T.na_Machine_letters_told (q_var 0)) (q_fld (c := "Machine") (gOf_at T.g_Machine) T.cl_Machine T.na_Machine_letters_told (q_var 1))) (q_one (q_eq hr.units (q_fld (c := "Machine") (gOf_at T.g_Machine) T.cl_Machine T.na_Machine_stand_rows (q_var 0)) (q_fld (c := "Machine") (gOf_at T.g_Machine) T.cl_Machine T.na_Machine_stand_rows (q_var 1)))))))))
theorem sc_Machine_behind : FnScope N_Machine_behind p_Machine_behind (defScope s_Machine_behind) := ⟨rfl, rfl, rfl, by decide +kernel, rfl, by decide +kernel, by decide +kernel⟩
theorem ok_Machine_behind (T : Txt K mg A FD CA) (U : Tbs mg base CA PA) : FnOk P w K mg base (L2.CX P w) 4 (A 34) (FD 34) p_Machine_behind (spM ⟨K, gOf mg, B, (TT PA), noL⟩ [false, false, false] mf_Machine_behind) := by
  refine T.f_Machine_behind.okX sc_Machine_behind (fun vs H Q E h => h.1) (fun cdv A1 outer s H vs Q E hr h => ⟨tMS ⟨K, gOf mg, B, (TT PA), noL⟩ (fun cls d _ H => E cls d H) ⟨[false, false, false], vs⟩ m_Machine_behind, ?_, def_ok (k := ⟨K, gOf mg, B, (TT PA), noL⟩) (N := N_Machine_behind) h⟩)
  exact (show PMSs (cxOf (L2.CX P w) P w K mg base N_Machine_behind "Machine.behind" (defScope s_Machine_behind) (A 34) cdv A1 outer s H E) ⟨gOf mg, B, (TT PA), noL⟩ (fun cls d _ H => E cls d H) ⟨[false, false, false], vs⟩ (defBody s_Machine_behind) m_Machine_behind from (z_cons (z_expr (q_call [false, false] [.int 20000] (ok_need_word T U) (hr.mono (by decide)) rfl T.g_need_word T.f_need_word.kp T.b_need_word.choose_spec.2 T.b_need_word.choose_spec.1 (fun _ => (.cons (.int _) .nil)) (takes_of rfl rfl rfl rfl) (a_cons (q_fld (c := "Machine") (gOf_at T.g_Machine) T.cl_Machine T.na_Machine_letters_told (q_var 0)) (a_cons (q_var 1) a_nil))))
    (z_cons (z_if (t_not (t_tru (q_call [false, false, false] [] (ok_is_number T U) (hr.mono (by decide)) rfl T.g_is_number T.f_is_number.kp T.b_is_number .nil (fun _ => .nil) (takes_of rfl rfl rfl rfl) (a_cons (q_var 2) (a_cons q_int (a_cons (q_sub (q_cb cr_len2 s_len rfl T.n_len (by first | rfl | decide +kernel) (a_cons (q_fld (c := "Machine") (gOf_at T.g_Machine) T.cl_Machine T.na_Machine_stand_rows (q_var 0)) a_nil)) q_int) a_nil)))))) (z_one (z_raise rfl (takes_of rfl rfl rfl rfl) PySem.F.excBase_ValueError T.x_NoNumber T.g_NoNumber T.k_NoNumber (raises_own T.y_NoNumber T.t_NoNumber) rfl (gOf_at T.g_NoNumber))) z_nil)
    (z_cons (z_for (passes_of rfl) rfl rfl (i_any (q_var 1)) (g_nm 3 sc_Machine_behind.nd) (z_one (z_set 2 sc_Machine_behind.nd rfl (q_ix (hu_of hr) (q_ix (hu_of hr) (q_ix (hu_of hr) (q_fld (c := "Machine") (gOf_at T.g_Machine) T.cl_Machine T.na_Machine_stand_rows (q_var 0)) (q_var 2)) q_int) (q_sindex (q_fld (c := "Machine") (gOf_at T.g_Machine) T.cl_Machine T.na_Machine_letters_told (q_var 0)) (a_cons (q_var 3) a_nil))))))
    (z_one (z_ret (q_var 2)))))))
theorem sc_Machine_takes : FnScope N_Machine_takes p_Machine_takes (defScope s_Machine_takes) := ⟨rfl, rfl, rfl, by decide +kernel, rfl, by decide +kernel, by decide +kernel⟩
theorem ok_Machine_takes (T : Txt K mg A FD CA) (U : Tbs mg base CA PA) : FnOk P w K mg base (L2.CX P w) 5 (A 35) (FD 35) p_Machine_takes (spM ⟨K, gOf mg, B, (TT PA), noL⟩ [false, false] mf_Machine_takes) := by
  refine T.f_Machine_takes.okX sc_Machine_takes (fun vs H Q E h => h.1) (fun cdv A1 outer s H vs Q E hr h => ⟨tMS ⟨K, gOf mg, B, (TT PA), noL⟩ (fun cls d _ H => E cls d H) ⟨[false, false], vs⟩ m_Machine_takes, ?_, def_ok (k := ⟨K, gOf mg, B, (TT PA), noL⟩) (N := N_Machine_takes) h⟩)
  exact (show PMSs (cxOf (L2.CX P w) P w K mg base N_Machine_takes "Machine.takes" (defScope s_Machine_takes) (A 35) cdv A1 outer s H E) ⟨gOf mg, B, (TT PA), noL⟩ (fun cls d _ H => E cls d H) ⟨[false, false], vs⟩ (defBody s_Machine_takes) m_Machine_takes from (z_one (z_ret (q_ix (hu_of hr) (q_ix (hu_of hr) (q_fld (c := "Machine") (gOf_at T.g_Machine) T.cl_Machine T.na_Machine_stand_rows (q_var 0)) (q_meth [false, false] [.int 0] T.cl_Machine T.me_Machine_behind (ok_Machine_behind T U) (hr.mono (by decide)) (gOf_at T.g_Machine) T.b_Machine_behind.choose_spec.2 T.b_Machine_behind.choose_spec.1 (fun _ => (.cons (.int _) .nil)) (takes_of rfl rfl rfl rfl) (q_var 0) (a_cons (q_var 1) a_nil))) q_int))))
theorem sc_law : FnScope N_law p_law (defScope s_law) := ⟨rfl, rfl, rfl, by decide +kernel, rfl, by decide +kernel, by decide +kernel⟩
theorem ok_law (T : Txt K mg A FD CA) (U : Tbs mg base CA PA) : FnOk P w K mg base (L2.CX P w) 10 (A 32) (FD 32) p_law (spM ⟨K, gOf mg, B, (TT PA), noL⟩ [true] mf_law) := by
  refine T.z_law.okX sc_law (fun vs H Q E h => h.1) (fun A1 outer s H vs Q E hr h => ⟨tMS ⟨K, gOf mg, B, (TT PA), lamL (cxOf (L2.CX P w) P w K mg base N_law "law" (defScope s_law) (A 32) (.ref (CA 32)) A1 outer s H E) (gOf mg) (TT PA) lams_law⟩ (fun cls d _ H => E cls d H) ⟨[true], vs⟩ m_law, ?_, def_ok (k := ⟨K, gOf mg, B, (TT PA), lamL (cxOf (L2.CX P w) P w K mg base N_law "law" (defScope s_law) (A 32) (.ref (CA 32)) A1 outer s H E) (gOf mg) (TT PA) lams_law⟩) (N := N_law) h⟩)
  exact (show PMSs (cxOf (L2.CX P w) P w K mg base N_law "law" (defScope s_law) (A 32) (.ref (CA 32)) A1 outer s H E) ⟨gOf mg, B, (TT PA), lamL (cxOf (L2.CX P w) P w K mg base N_law "law" (defScope s_law) (A 32) (.ref (CA 32)) A1 outer s H E) (gOf mg) (TT PA) lams_law⟩ (fun cls d _ H => E cls d H) ⟨[true], vs⟩ (defBody s_law) m_law from (z_cons (z_set 1 sc_law.nd rfl (q_call [true] [] (ok_zlaw_begun T U) (hr.mono (by decide)) rfl T.g_zlaw_begun T.f_zlaw_begun.kp T.b_zlaw_begun .nil (fun _ => .nil) (takes_of rfl rfl rfl rfl) (a_cons (q_var 0) a_nil)))
    (z_cons (z_set 2 sc_law.nd rfl (q_call [true, false, false] [] (ok_zlaw_abc T U) (hr.mono (by decide)) rfl T.g_zlaw_abc T.f_zlaw_abc.kp T.b_zlaw_abc .nil (fun _ => .nil) (takes_of rfl rfl rfl rfl) (a_cons (q_var 1) (a_cons q_int (a_cons q_int a_nil)))))
    (z_cons (z_set 3 sc_law.nd rfl (q_call [true, false, false] [] (ok_zlaw_table T U) (hr.mono (by decide)) rfl T.g_zlaw_table T.f_zlaw_table.kp T.b_zlaw_table .nil (fun _ => .nil) (takes_of rfl rfl rfl rfl) (a_cons (q_var 1) (a_cons (q_var 2) (a_cons q_int a_nil)))))
    (z_cons (z_set 4 sc_law.nd rfl (q_new [false, false] [] T.mk_Machine (ok_Machine___init__ T U) (hr.mono (by decide)) rfl T.g_Machine (gOf_at T.g_Machine) T.b_Machine___init__ .nil (fun _ => .nil) (takes_of rfl rfl rfl rfl) (a_cons (q_var 2) (a_cons (q_var 3) a_nil))))
    (z_cons (z_set 5 sc_law.nd rfl (q_ix (hu_of hr) (q_lc [("_law_sign", 16)] rfl sc_law.nd (blkOk_by (N := N_law) (sc := defScope s_law) (by decide +kernel)) (by decide) (i_any (q_str [120, 121, 122, 119, 118])) (fun _ _ _ _ _ => (g_nm 16 sc_law.nd)) (fun _ _ _ _ _ => (ts_one (t_notin (hu_of hr) (q_var 16) (q_var 2)))) (fun _ _ _ _ _ => (q_var 16))) q_int))
    (z_cons (z_for (passes_of rfl) rfl rfl (i_rng1 rfl T.n_range (a_cons q_int a_nil)) (g_nm 6 sc_law.nd) (z_cons (z_set 7 sc_law.nd rfl (q_call [true, false, false] [] (ok_zlaw_token T U) (hr.mono (by decide)) rfl T.g_zlaw_token T.f_zlaw_token.kp T.b_zlaw_token .nil (fun _ => .nil) (takes_of rfl rfl rfl rfl) (a_cons (q_var 1) (a_cons (q_var 2) (a_cons q_int a_nil)))))
    (z_cons (z_set 8 sc_law.nd rfl (q_lst (a_cons (q_var 7) (a_cons (q_var 7) (a_cons (q_var 7) (a_cons (q_add (q_var 7) (q_var 5)) (a_cons (q_add (q_var 5) (q_var 7)) (a_cons q_non (a_cons q_int (a_cons (q_lst (a_cons (q_var 7) a_nil)) (a_cons (q_tup a_nil) a_nil)))))))))))
    (z_cons (z_set 8 sc_law.nd rfl (q_add (q_var 8) (q_lst (a_cons (q_add (q_upper (q_var 7)) (q_str [65])) (a_cons (q_str [32]) a_nil)))))
    (z_cons (z_if (PW.pt (w_and (t_eq hr.units (q_var 6) q_int) (w_and1 (t_eq hr.units (q_call [true, false] [] (ok_zlaw_take T U) (hr.mono (by decide)) rfl T.g_zlaw_take T.f_zlaw_take.kp T.b_zlaw_take .nil (fun _ => .nil) (takes_of rfl rfl rfl rfl) (a_cons (q_var 1) (a_cons q_int a_nil))) q_int)))) (z_one (z_set 8 sc_law.nd rfl (q_lst (a_cons (q_mul (q_ix (hu_of hr) (q_var 2) q_int) q_int) (a_cons (q_mul (q_ix (hu_of hr) (q_var 2) (q_neg q_int)) q_int) a_nil))))) z_nil)
    (z_cons (z_set 9 sc_law.nd rfl (q_call [true, false] [] (ok_zlaw_pick T U) (hr.mono (by decide)) rfl T.g_zlaw_pick T.f_zlaw_pick.kp T.b_zlaw_pick .nil (fun _ => .nil) (takes_of rfl rfl rfl rfl) (a_cons (q_var 1) (a_cons (q_var 8) a_nil))))
    (z_cons (z_set 10 sc_law.nd rfl (q_lst (a_cons (q_neg q_int) (a_cons (q_cb cr_len2 s_len rfl T.n_len (by first | rfl | decide +kernel) (a_cons (q_var 3) a_nil)) (a_cons q_bl (a_cons q_non (a_cons (q_str [48]) (a_cons (q_tup a_nil) (a_cons (q_pow q_int q_int) (a_cons q_bl a_nil))))))))))
    (z_cons (z_set 11 sc_law.nd rfl (q_call [true, false] [] (ok_zlaw_pick T U) (hr.mono (by decide)) rfl T.g_zlaw_pick T.f_zlaw_pick.kp T.b_zlaw_pick .nil (fun _ => .nil) (takes_of rfl rfl rfl rfl) (a_cons (q_var 1) (a_cons (q_add (q_mul (q_listRg rfl T.n_list T.n_range (q_cb cr_len2 s_len rfl T.n_len (by first | rfl | decide +kernel) (a_cons (q_var 3) a_nil))) q_int) (q_var 10)) a_nil))))
    (z_cons (z_set 12 sc_law.nd rfl (q_call [false, false] [] (ok_zlaw_is_token T U) (hr.mono (by decide)) rfl T.g_zlaw_is_token T.f_zlaw_is_token.kp T.b_zlaw_is_token .nil (fun _ => .nil) (takes_of rfl rfl rfl rfl) (a_cons (q_var 2) (a_cons (q_var 9) a_nil))))
    (z_cons (z_set 13 sc_law.nd rfl (q_ifx (t_not (t_tru (q_var 12))) (q_str [119, 111, 114, 100]) (q_str [110, 117, 109, 98, 101, 114])))
    (z_cons (z_if (PW.pt (w_and (t_tru (q_var 12)) (w_and1 (t_tru (q_call [false, false] [] (ok_zlaw_is_stood T U) (hr.mono (by decide)) rfl T.g_zlaw_is_stood T.f_zlaw_is_stood.kp T.b_zlaw_is_stood .nil (fun _ => .nil) (takes_of rfl rfl rfl rfl) (a_cons (q_var 3) (a_cons (q_var 11) a_nil))))))) (z_one (z_set 13 sc_law.nd rfl (q_tup (a_cons (q_str [116, 111, 108, 100]) (a_cons (q_call [false, false, false, false] [] (ok_zlaw_behind T U) (hr.mono (by decide)) rfl T.g_zlaw_behind T.f_zlaw_behind.kp T.b_zlaw_behind .nil (fun _ => .nil) (takes_of rfl rfl rfl rfl) (a_cons (q_var 2) (a_cons (q_var 3) (a_cons (q_var 11) (a_cons (q_var 9) a_nil))))) a_nil))))) z_nil)
    (z_cons (z_if (t_ne hr.units (q_callC (lc := 6) (ar := ar_zlaw_said) (clos := closL lams_law [some 0]) [false] [] (fun c => okC_zlaw_said 6 c T U) (live_lamL rfl (har_by (by rfl))) (hr.mono (by decide)) rfl T.g_zlaw_said T.f_zlaw_said.kp T.b_zlaw_said rfl .nil (fun _ _ => .nil) (takes_of rfl rfl rfl rfl) (a_cons (q_lamD (nm := nmAll) lam_law_0 0 rfl rfl U.t_law rfl U.m_law U.u (nscope_by (by decide +kernel)) (fun _ _ _ _ _ us hl => match us, hl with | [], _ => rfl) (fun f B c1 A outer s H E hr => (q_methK (np := 3) T.cl_Machine T.me_Machine_behind (ok_Machine_behind T U) (hr.mono (by decide)) (gOf_at T.g_Machine) T.k_Machine_behind_2_stand (takes_of rfl rfl rfl rfl) (q_var 1) (a_cons (q_var 0) a_nil) (k_cons (q_var 2) k_nil) (mCons_len mNil_len) (mCons_len mNil_len))) (show ndefB (defScope s_law) _ _ = true from by decide +kernel) rfl (show nmAll 157 21 = ("law.<locals>." : Str) ++ ("<lambda>" : Str) from by decide +kernel) rfl) a_nil)) (q_var 13)) (z_one (z_ret q_bl)) z_nil)
    (z_cons (z_if (t_ne hr.units (q_callC (lc := 6) (ar := ar_zlaw_said) (clos := closL lams_law [some 1]) [false] [] (fun c => okC_zlaw_said 6 c T U) (live_lamL rfl (har_by (by rfl))) (hr.mono (by decide)) rfl T.g_zlaw_said T.f_zlaw_said.kp T.b_zlaw_said rfl .nil (fun _ _ => .nil) (takes_of rfl rfl rfl rfl) (a_cons (q_lamD (nm := nmAll) lam_law_1 1 rfl rfl U.t_law rfl U.m_law U.u (nscope_by (by decide +kernel)) (fun _ _ _ _ _ us hl => match us, hl with | [], _ => rfl) (fun f B c1 A outer s H E hr => (q_methK0 (np := 3) T.cl_Machine T.me_Machine_behind (ok_Machine_behind T U) (hr.mono (by decide)) (gOf_at T.g_Machine) T.k_Machine_behind_1_stand_word (takes_of rfl rfl rfl rfl) (q_var 0) (k_cons (q_var 1) (k_cons (q_var 2) k_nil)) (mCons_len (mCons_len mNil_len)))) (show ndefB (defScope s_law) _ _ = true from by decide +kernel) rfl (show nmAll 159 21 = ("law.<locals>." : Str) ++ ("<lambda>" : Str) from by decide +kernel) rfl) a_nil)) (q_var 13)) (z_one (z_ret q_bl)) z_nil)
    (z_cons (z_set 13 sc_law.nd rfl (q_ifx (t_tru (q_var 12)) (q_tup (a_cons (q_str [116, 111, 108, 100]) (a_cons (q_call [false, false, false, false] [] (ok_zlaw_behind T U) (hr.mono (by decide)) rfl T.g_zlaw_behind T.f_zlaw_behind.kp T.b_zlaw_behind .nil (fun _ => .nil) (takes_of rfl rfl rfl rfl) (a_cons (q_var 2) (a_cons (q_var 3) (a_cons q_int (a_cons (q_var 9) a_nil))))) a_nil))) (q_str [119, 111, 114, 100])))
    (z_cons (z_if (t_ne hr.units (q_callC (lc := 6) (ar := ar_zlaw_said) (clos := closL lams_law [some 2]) [false] [] (fun c => okC_zlaw_said 6 c T U) (live_lamL rfl (har_by (by rfl))) (hr.mono (by decide)) rfl T.g_zlaw_said T.f_zlaw_said.kp T.b_zlaw_said rfl .nil (fun _ _ => .nil) (takes_of rfl rfl rfl rfl) (a_cons (q_lamD (nm := nmAll) lam_law_2 2 rfl rfl U.t_law rfl U.m_law U.u (nscope_by (by decide +kernel)) (fun _ _ _ _ _ us hl => match us, hl with | [], _ => rfl) (fun f B c1 A outer s H E hr => (q_meth [false, false] [.int 0] T.cl_Machine T.me_Machine_behind (ok_Machine_behind T U) (hr.mono (by decide)) (gOf_at T.g_Machine) T.b_Machine_behind.choose_spec.2 T.b_Machine_behind.choose_spec.1 (fun _ => (.cons (.int _) .nil)) (takes_of rfl rfl rfl rfl) (q_var 1) (a_cons (q_var 0) a_nil))) (show ndefB (defScope s_law) _ _ = true from by decide +kernel) rfl (show nmAll 162 21 = ("law.<locals>." : Str) ++ ("<lambda>" : Str) from by decide +kernel) rfl) a_nil)) (q_var 13)) (z_one (z_ret q_bl)) z_nil)
    (z_cons (z_set 13 sc_law.nd rfl (q_ifx (t_tru (q_var 12)) (q_tup (a_cons (q_str [116, 111, 108, 100]) (a_cons (q_ix (hu_of hr) (q_ix (hu_of hr) (q_var 3) (q_ix (hu_of hr) (q_var 13) q_int)) q_int) a_nil))) (q_str [119, 111, 114, 100])))
    (z_cons (z_set 14 sc_law.nd rfl (q_lst (a_cons (q_callC (lc := 7) (ar := ar_zlaw_said) (clos := closL lams_law [some 3]) [false] [] (fun c => okC_zlaw_said 7 c T U) (live_lamL rfl (har_by (by rfl))) (hr.mono (by decide)) rfl T.g_zlaw_said T.f_zlaw_said.kp T.b_zlaw_said rfl .nil (fun _ _ => .nil) (takes_of rfl rfl rfl rfl) (a_cons (q_lamD (nm := nmAll) lam_law_3 3 rfl rfl U.t_law rfl U.m_law U.u (nscope_by (by decide +kernel)) (fun _ _ _ _ _ us hl => match us, hl with | [], _ => rfl) (fun f B c1 A outer s H E hr => (q_meth [false, false] [] T.cl_Machine T.me_Machine_takes (ok_Machine_takes T U) (hr.mono (by decide)) (gOf_at T.g_Machine) T.b_Machine_takes .nil (fun _ => .nil) (takes_of rfl rfl rfl rfl) (q_var 1) (a_cons (q_var 0) a_nil))) (show ndefB (defScope s_law) _ _ = true from by decide +kernel) rfl (show nmAll 165 36 = ("law.<locals>." : Str) ++ ("<lambda>" : Str) from by decide +kernel) rfl) a_nil)) a_nil)))
    (z_cons (z_expr (q_append 14 (ha := (q_callC (lc := 7) (ar := ar_zlaw_said) (clos := closL lams_law [some 4]) [false] [] (fun c => okC_zlaw_said 7 c T U) (live_lamL rfl (har_by (by rfl))) (hr.mono (by decide)) rfl T.g_zlaw_said T.f_zlaw_said.kp T.b_zlaw_said rfl .nil (fun _ _ => .nil) (takes_of rfl rfl rfl rfl) (a_cons (q_lamD (nm := nmAll) lam_law_4 4 rfl rfl U.t_law rfl U.m_law U.u (nscope_by (by decide +kernel)) (fun _ _ _ _ _ us hl => match us, hl with | [], _ => rfl) (fun f B c1 A outer s H E hr => (q_methK0 (np := 2) T.cl_Machine T.me_Machine_takes (ok_Machine_takes T U) (hr.mono (by decide)) (gOf_at T.g_Machine) T.k_Machine_takes_1_word (takes_of rfl rfl rfl rfl) (q_var 0) (k_cons (q_var 1) k_nil) (mCons_len mNil_len))) (show ndefB (defScope s_law) _ _ = true from by decide +kernel) rfl (show nmAll 166 40 = ("law.<locals>." : Str) ++ ("<lambda>" : Str) from by decide +kernel) rfl) a_nil)))))
    (z_one (z_for (passes_of rfl) rfl rfl (i_any (q_var 14)) (g_nm 15 sc_law.nd) (z_one (z_if (PW.pt (w_or (t_ne hr.units (q_var 15) (q_var 13)) (w_or1 (t_ne hr.units (q_isi (by decide) rfl rfl T.n_isinstance (by first | rfl | decide +kernel) rfl T.n_tuple (by first | rfl | decide +kernel) (q_var 15)) (q_isi (by decide) rfl rfl T.n_isinstance (by first | rfl | decide +kernel) rfl T.n_bool (by first | rfl | decide +kernel) (q_ix (hu_of hr) (q_var 15) q_int)))))) (z_one (z_ret q_bl)) z_nil))))))))))))))))))))))
    (z_one (z_ret (q_eqOwn T.me_Machine___eq__ (ok_Machine___eq__ T U) (hr.mono (by decide)) (gOf_at T.g_Machine) T.b_Machine___eq__ (takes_of rfl rfl rfl rfl) (q_var 4) (q_new [false, false] [] T.mk_Machine (ok_Machine___init__ T U) (hr.mono (by decide)) rfl T.g_Machine (gOf_at T.g_Machine) T.b_Machine___init__ .nil (fun _ => .nil) (takes_of rfl rfl rfl rfl) (a_cons (q_var 2) (a_cons (q_var 3) a_nil)))))))))))))
end
end SW

namespace SW
open PySem L2
theorem link_take : mf_zlaw_take = fTake2 := rfl
theorem link_pick : mf_zlaw_pick = fPick2 := rfl
theorem link_begun : mf_zlaw_begun = fBegun := rfl
def SMALL : List Nat := [97, 98, 99, 100, 101, 102, 103, 104, 105, 106, 107, 108, 109, 110, 111, 112, 113, 114, 115, 116, 117, 118, 119, 120, 121, 122]
/-- letters in order -/
structure Abc (a : List Nat) : Prop where
  lt : a.Pairwise (· < ·)
  sm : ∀ c ∈ a, c ∈ SMALL
  le : a.length ≤ 4
  pos : 1 ≤ a.length
theorem Abc.ne {a : List Nat} (h : Abc a) : a ≠ [] := by
  intro e
  have := h.pos
  rw [e] at this
  simp at this
theorem nodup_len {l m : List Nat} (hn : l.Nodup) (h : ∀ x ∈ l, x ∈ m) : l.length ≤ m.length := nodup_le hn h
theorem small_len : SMALL.length = 26 := rfl
theorem small_nd : SMALL.Nodup := by decide
def bAbc : MS := mSeq (mSet 6 (mComp (mItems (mVar 3)) (.nm 7) [7] (mBool (mOp2 (fIn true) (mVar 7) (mVar 4))) (mVar 7)))
  (mSet 4 (mOp2 fAdd (mVar 4) (mCall mf_zlaw_pick [true, false] [] (mCons (mVar 0) (mCons (mVar 6) (mNil))))))
theorem abc_step (s : Sd) (k : Nat) (h : s.ok (k + 1)) (lo hi : Int) (f : List Nat) (hf : f.length < 26) (hn : f.Nodup) (hs : ∀ c ∈ f, c ∈ SMALL) (v5 v6 : Option O) (v7 : Option O) (h7 : v7 = none) :
    ∃ (c : Nat) (s' : Sd) (v6' : Option O), bAbc [some (stO s), some (.val (.int lo)), some (.val (.int hi)), some (.val (.str SMALL)), some (.val (.str f)), v5, v6, v7] =
      .nx [some (stO s'), some (.val (.int lo)), some (.val (.int hi)), some (.val (.str SMALL)), some (.val (.str (f ++ [c]))), v5, v6', v7] ∧ s'.ok k ∧ c ∈ SMALL ∧ c ∉ f := by
  subst h7
  have hcm : mComp (mItems (mVar 3)) (.nm 7) [7] (mBool (mOp2 (fIn true) (mVar 7) (mVar 4))) (mVar 7) [some (stO s), some (.val (.int lo)), some (.val (.int hi)), some (.val (.str SMALL)), some (.val (.str f)), v5, v6, none] =
      .ok (.ob (.lst ((SMALL.filter fun c => !decide (c ∈ f)).map fun c => .str [c])), [some (stO s), some (.val (.int lo)), some (.val (.int hi)), some (.val (.str SMALL)), some (.val (.str f)), v5, v6, none]) :=
    comp_filt 7 (fun c => .str [c]) (fun c => .str [c]) (fun c => !decide (c ∈ f)) SMALL (by simp) (.inl rfl) (by decide) (fun c _ => by simp [fIn]) (fun c _ _ => by simp)
  have hne : (SMALL.filter fun c => !decide (c ∈ f)) ≠ [] := fun e => by
    have h2 : ∀ x ∈ SMALL, x ∈ f := fun x hx => by
      have := (List.filter_eq_nil_iff.mp e) x hx
      simpa using this
    have := nodup_len small_nd h2
    rw [small_len] at this
    omega
  have hll : ((SMALL.filter fun c => !decide (c ∈ f)).map fun c => D.str [c]).length ≤ 1000 := by
    rw [List.length_map]
    exact Nat.le_trans (List.length_filter_le _ _) (by decide)
  obtain ⟨d, s', h1, h2, h3⟩ := pick_lst2 s k h ((SMALL.filter fun c => !decide (c ∈ f)).map fun c => .str [c]) (by simpa using hne) hll
  obtain ⟨c, hc, rfl⟩ := List.mem_map.mp h3
  obtain ⟨c1, c2⟩ := List.mem_filter.mp hc
  have lf : f.length + 1 ≤ LIM := le_lim (by omega)
  refine ⟨c, s', some (.val (.lst ((SMALL.filter fun c => !decide (c ∈ f)).map fun c => .str [c]))), ?_, h2, c1, by simpa using c2⟩
  refine seq_nx ((set_ok hcm (by simp)).trans rfl) ?_
  have h1' : fPick2 [.st s.gs s.cs s.r s.t, .val (.lst ((SMALL.filter fun c => !decide (c ∈ f)).map fun c => .str [c]))] = .ok (.val (.str [c])) [.st s'.gs s'.cs s'.r s'.t] := h1
  rw [link_pick]
  simp [h1', lf]
theorem abc_ok (s : Sd) (k : Nat) (h : s.ok (k + 5)) (lo hi : Nat) (h1 : 1 ≤ lo) (h2 : lo ≤ hi) (h3 : hi ≤ 4) : ∃ (a : List Nat) (s' : Sd), mf_zlaw_abc [stO s, .val (.int lo), .val (.int hi)] = .ok (.val (.str a)) [stO s'] ∧ s'.ok k ∧ Abc a ∧ lo ≤ a.length ∧ a.length ≤ hi := by
  obtain ⟨i, s1, t1, k1, i0, i1⟩ := take_ok2 s (k + 4) h ((hi : Int) - lo + 1) (by omega) (by omega)
  obtain ⟨n, hn⟩ : ∃ n : Nat, (lo : Int) + i = n := ⟨((lo : Int) + i).toNat, by omega⟩
  have n1 : lo ≤ n := by omega
  have n2 : n ≤ hi := by omega
  obtain ⟨e', h4, s2, f, v5, v6, rfl, k2, hf, hnd, hsm⟩ := for_inv (t := .nm 5) (body := bAbc) (fun j e => ∃ (s : Sd) (f : List Nat) (v5 v6 : Option O), e = [some (stO s), some (.val (.int lo)), some (.val (.int hi)), some (.val (.str SMALL)), some (.val (.str f)), v5, v6, none] ∧ s.ok (k + (4 - j)) ∧ f.length = j ∧ f.Nodup ∧ ∀ c ∈ f, c ∈ SMALL)
    ((List.range n).map fun j : Nat => D.int (j : Int)) 0 [some (stO s1), some (.val (.int lo)), some (.val (.int hi)), some (.val (.str SMALL)), some (.val (.str [])), none, none, none]
    (fun j d e _ hd => by
      rintro ⟨s, f, v5, v6, rfl, hk, hf, hnd, hsm⟩
      have hj : j < n := by
        have := (List.getElem?_eq_some_iff.mp hd).1
        simpa using this
      obtain ⟨c, s', v6', h5, h6, h7, h8⟩ := abc_step s (k + (4 - (j + 1))) (hk.le (by omega)) lo hi f (by omega) hnd hsm (some (.val d)) v6 none rfl
      refine ⟨[some (stO s), some (.val (.int lo)), some (.val (.int hi)), some (.val (.str SMALL)), some (.val (.str f)), some (.val d), v6, none], by simp, _, .inl h5, s', f ++ [c], _, _, rfl, h6, by simp [hf], ?_, ?_⟩
      · rw [List.nodup_append]
        refine ⟨hnd, by simp, fun a ha b hb e => ?_⟩
        simp at hb
        subst hb e
        exact h8 ha
      · intro d hd
        rcases List.mem_append.mp hd with hd | hd
        · exact hsm d hd
        · simp at hd
          subst hd
          exact h7)
    ⟨s1, [], none, none, rfl, k1, rfl, List.nodup_nil, by simp⟩
  simp only [Nat.zero_add, List.length_map, List.length_range] at hf k2
  obtain ⟨t, p1, p2, o, p3, rfl⟩ := join_sorted f (by omega) hnd
  have ht : t.length = n := by rw [p1.length_eq, hf]
  refine ⟨t, s2, ?_, k2.le (by omega), ⟨p2, fun c hc => hsm c (p1.mem_iff.mp hc), by omega, by omega⟩, by omega, by omega⟩
  have l2 : 2 ≤ LIM := le_lim (by decide)
  have e1 : mAsg (.tp [.nm 3, .nm 4]) (mTup (mCons (mC (.str [97, 98, 99, 100, 101, 102, 103, 104, 105, 106, 107, 108, 109, 110, 111, 112, 113, 114, 115, 116, 117, 118, 119, 120, 121, 122])) (mCons (mC (.str [])) (mNil)))) [some (stO s), some (.val (.int lo)), some (.val (.int hi)), none, none, none, none, none] =
      .nx [some (stO s), some (.val (.int lo)), some (.val (.int hi)), some (.val (.str SMALL)), some (.val (.str [])), none, none, none] := by
    simp [mAsg, asgT, asgTs, l2, SMALL]
  have e2 : mRange1 (mCons (mOp2 fAdd (mVar 1) (mCall mf_zlaw_take [true, false] [] (mCons (mVar 0) (mCons (mOp2 fAdd (mOp2 fSub (mVar 2) (mVar 1)) (mC (.int 1))) (mNil))))) (mNil)) [some (stO s), some (.val (.int lo)), some (.val (.int hi)), some (.val (.str SMALL)), some (.val (.str [])), none, none, none] =
      .ok ((List.range n).map fun j : Nat => D.int (j : Int), [some (stO s1), some (.val (.int lo)), some (.val (.int hi)), some (.val (.str SMALL)), some (.val (.str [])), none, none, none]) := by
    have t1' : fTake2 [.st s.gs s.cs s.r s.t, .val (.int ((hi : Int) - lo + 1))] = .ok (.val (.int i)) [.st s1.gs s1.cs s1.r s1.t] := t1
    have hr : rng 0 n = (List.range n).map fun j : Nat => D.int (j : Int) := by simp [rng]
    have b1 : -1000000 ≤ (n : Int) ∧ (n : Int) ≤ 1000000 := by omega
    rw [link_take]
    simp [t1', hn, b1, hr]
  have e3 : mRet (mJoin fJoin (mC (.str [])) (mCB fSortedX (mCons (mVar 4) (mNil)))) [some (stO s2), some (.val (.int lo)), some (.val (.int hi)), some (.val (.str SMALL)), some (.val (.str f)), v5, v6, none] =
      .rt (.ob (.val (.str t))) [some (stO s2), some (.val (.int lo)), some (.val (.int hi)), some (.val (.str SMALL)), some (.val (.str f)), v5, v6, none] := by
    have hj := fJoin_one t (by omega)
    simp [mJoin, isStr, p3, hj]
  have e4 : mFor (mRange1 (mCons (mOp2 fAdd (mVar 1) (mCall mf_zlaw_take [true, false] [] (mCons (mVar 0) (mCons (mOp2 fAdd (mOp2 fSub (mVar 2) (mVar 1)) (mC (.int 1))) (mNil))))) (mNil))) (.nm 5) bAbc [some (stO s), some (.val (.int lo)), some (.val (.int hi)), some (.val (.str SMALL)), some (.val (.str [])), none, none, none] =
      .nx [some (stO s2), some (.val (.int lo)), some (.val (.int hi)), some (.val (.str SMALL)), some (.val (.str f)), v5, v6, none] := by
    rw [mFor_eq, e2, sb_ok']
    exact h4
  have e5 : m_zlaw_abc [some (stO s), some (.val (.int lo)), some (.val (.int hi)), none, none, none, none, none] = .rt (.ob (.val (.str t))) [some (stO s2), some (.val (.int lo)), some (.val (.int hi)), some (.val (.str SMALL)), some (.val (.str f)), v5, v6, none] :=
    seq_nx e1 (seq_nx e4 e3)
  unfold mf_zlaw_abc
  rw [mDef_eq]
  exact (congrArg (endF _) e5).trans rfl
theorem cbl_ok {env : Env} {f : List D → Option O} {m : ME} {ds : List D} {o : O} (h : m env = .ok (.ob (.lst ds), env)) (hf : f [.lst ds] = some o) : mCB f (mCons m mNil) env = .ok (.ob o, env) := by
  simp [h, hf]
theorem andv_tt {env : Env} {m1 m2 : ME} (h1 : m1 env = .ok (.ob (.val (.bl true)), env)) (h2 : m2 env = .ok (.ob (.val (.bl true)), env)) : mAndV m1 m2 env = .ok (.ob (.val (.bl true)), env) := by
  simp [h1, h2]
/-! ### letters are letters -/
theorem letters_all (a : List Nat) (h : Abc a) : mf_is_letters [.val (.str a)] = .ok (.val (.bl true)) [] := by
  have l1 : a.length ≤ LIM := le_lim (by have := h.le; omega)
  have h0 : mComp (mItems (mVar 0)) (.nm 1) [1] (mYes) (mOp2 (fIn false) (mVar 1) (mC (.str SMALL))) [some (.val (.str a)), none, none, none] = .ok (.ob (.lst (a.map fun c => .bl (decide (c ∈ SMALL)))), [some (.val (.str a)), none, none, none]) :=
    comp_map 1 (fun c => .str [c]) (fun c => .bl (decide (c ∈ SMALL))) a (by simp) (.inl rfl) l1 (fun x hx => by simp [fIn])
  have a0 : (a.all fun c => decide (c ∈ SMALL)) = true := by
    rw [List.all_eq_true]
    exact fun c hc => decide_eq_true (h.sm c hc)
  have hle := h.le
  have hpos := h.pos
  have tl : (1 : Int) ≤ a.length ∧ (a.length : Int) ≤ 4 := by omega
  have isS : isTy "str" "str" = true := by decide
  have cmpz : mComp (mZip (mVar 0) (mCut (mVar 0) (mPart (mC (.int 1))) (mNoPart))) (.tp [.nm 2, .nm 3]) [2, 3] (mYes) (mOp2 fLt (mVar 2) (mVar 3)) [some (.val (.str a)), none, none, none] = .ok (.ob (.lst ((a.zip (a.drop 1)).map fun _ => .bl true)), [some (.val (.str a)), none, none, none]) := by
    have hlt := h.lt
    have lts : ∀ x y : Nat, x < y → fLt (.str [x]) (.str [y]) = some (.val (.bl true)) := fun x y hxy => by
      have : ([x] : List Nat) < [y] := List.cons_lt_cons_iff.mpr (.inl hxy)
      simp [fLt, this]
    have c1 : cutL a (some 1) none = a.drop 1 := cut_i a 1
    have z2 : (2 : Nat) ≤ 3 := by decide
    match a, hle, hlt, l1, c1 with
    | [], _, _, _, _ => simp at hpos
    | [x], _, _, _, c1 => simp [mZip, fCut, c1, compLoop, backE, wipeE, LIM]
    | [x, y], _, hlt, _, c1 =>
      simp at hlt
      simp [mZip, fCut, c1, compLoop, backE, wipeE, asgT, asgTs, lts _ _ hlt, LIM]
    | [x, y, z], _, hlt, _, c1 =>
      simp at hlt
      simp [mZip, fCut, c1, compLoop, backE, wipeE, asgT, asgTs, lts x y hlt.1.1, lts y z hlt.2, LIM]
    | [x, y, z, u], _, hlt, _, c1 =>
      simp at hlt
      simp [mZip, fCut, c1, compLoop, backE, wipeE, asgT, asgTs, lts x y hlt.1.1, lts y z hlt.2.1.1, lts z u hlt.2.2, LIM]
    | _ :: _ :: _ :: _ :: _ :: _, hle, _, _, _ => simp at hle
  have a1 : ((a.zip (a.drop 1)).map fun _ => true).all id = true := by simp
  have f1 := fAll_map (fun c => decide (c ∈ SMALL)) a
  rw [a0] at f1
  have f2 := fAll_map (fun _ => true) (a.zip (a.drop 1))
  have a2 : ((a.zip (a.drop 1)).all fun _ => true) = true := by simp
  rw [a2] at f2
  have e1 : mIfS (mOr (mNot (mTru (mIsi "str" (mVar 0)))) (mNot (mBool (mChain fLe fLe (mC (.int 1)) (mCB fLen (mCons (mVar 0) (mNil))) (mC (.int 4)))))) (mRet (mC (.bl false))) (mNext) [some (.val (.str a)), none, none, none] = .nx [some (.val (.str a)), none, none, none] := by
    simp [tyD, isS, l1, tl.1, tl.2]
  have e2 : mRet (mAndV (mCB fAll (mCons (mComp (mItems (mVar 0)) (.nm 1) [1] (mYes) (mOp2 (fIn false) (mVar 1) (mC (.str SMALL)))) (mNil))) (mCB fAll (mCons (mComp (mZip (mVar 0) (mCut (mVar 0) (mPart (mC (.int 1))) (mNoPart))) (.tp [.nm 2, .nm 3]) [2, 3] (mYes) (mOp2 fLt (mVar 2) (mVar 3))) (mNil)))) [some (.val (.str a)), none, none, none] = .rt (.ob (.val (.bl true))) [some (.val (.str a)), none, none, none] := by
    rw [mRet_eq, andv_tt (cbl_ok h0 f1) (cbl_ok cmpz f2)]
    rfl
  unfold mf_is_letters
  rw [mDef_eq]
  exact (congrArg (endF _) (seq_nx e1 e2)).trans rfl
theorem need_letters_ok (a : List Nat) (h : Abc a) : mf_need_letters [.val (.str a)] = .ok (.val .non) [] := by
  have h1 := letters_all a h
  unfold mf_need_letters
  rw [mDef_eq]
  simp [m_need_letters, h1]
end SW

namespace SW
open PySem L2
/-! ### tables of stands -/
abbrev Row := Bool × List Nat
def natD (t : Nat) : D := .int t
def rowD (r : Row) : D := .tup [.bl r.1, .tup (r.2.map natD)]
structure Tab (n : Nat) (T : List Row) : Prop where
  pos : 1 ≤ T.length
  le : T.length ≤ 60
  wide : ∀ r ∈ T, r.2.length = n
  low : ∀ r ∈ T, ∀ t ∈ r.2, t < T.length
theorem number_in (i l m : Int) (h1 : l ≤ i) (h2 : i ≤ m) : mf_is_number [.val (.int i), .val (.int l), .val (.int m)] = .ok (.val (.bl true)) [] := by
  have h3 : isTy "int" "int" = true := by decide
  have h4 : isTy "int" "bool" = false := by decide
  unfold mf_is_number
  rw [mDef_eq]
  simp [m_is_number, tyD, h1, h2, h3, h4]
theorem stand_ok (r : Row) (many size : Nat) (h1 : r.2.length = size) (h2 : ∀ t ∈ r.2, t < many) (hs : size ≤ 1000) : mf_is_stand [.val (rowD r), .val (.int many), .val (.int size)] = .ok (.val (.bl true)) [] := by
  obtain ⟨b, tos⟩ := r
  simp only at h1 h2
  have h0 : mComp (mItems (mOp2 fIx (mVar 0) (mC (.int 1)))) (.nm 3) [3] (mYes) (mCall mf_is_number [false, false, false] [] (mCons (mVar 3) (mCons (mC (.int 0)) (mCons (mOp2 fSub (mVar 1) (mC (.int 1))) (mNil))))) [some (.val (rowD (b, tos))), some (.val (.int many)), some (.val (.int size)), none] =
      .ok (.ob (.lst (tos.map fun _ => .bl true)), [some (.val (rowD (b, tos))), some (.val (.int many)), some (.val (.int size)), none]) :=
    comp_map 3 natD (fun _ => .bl true) tos (by simp [rowD, fIx, atI, ixN]) (.inl rfl) (le_lim (by omega)) (fun t ht => by
      have := number_in t 0 ((many : Int) - 1) (by omega) (by have := h2 t ht; omega)
      simp [natD, this])
  have f1 := fAll_map (fun _ => true) tos
  have a1 : (tos.all fun _ => true) = true := by simp
  rw [a1] at f1
  have t1 : isTy "tuple" "tuple" = true := by decide
  have t2 : isTy "bool" "bool" = true := by decide
  have x0 : fIx (rowD (b, tos)) (.int 0) = some (.val (.bl b)) := rfl
  have x1 : fIx (rowD (b, tos)) (.int 1) = some (.val (.tup (tos.map natD))) := rfl
  have ty0 : tyD (rowD (b, tos)) = some "tuple" := rfl
  have ln0 : fLen [rowD (b, tos)] = some (.val (.int 2)) := rfl
  have e1 : mIfS (mOr (mNot (mTru (mIsi "tuple" (mVar 0)))) (mOr (mBool (mOp2 fNe (mCB fLen (mCons (mVar 0) (mNil))) (mC (.int 2)))) (mNot (mTru (mIsi "bool" (mOp2 fIx (mVar 0) (mC (.int 0)))))))) (mRet (mC (.bl false))) (mNext) [some (.val (rowD (b, tos))), some (.val (.int many)), some (.val (.int size)), none] =
      .nx [some (.val (rowD (b, tos))), some (.val (.int many)), some (.val (.int size)), none] := by
    have ty2 : tyD (.bl b) = some "bool" := rfl
    simp [ty0, t1, ln0, x0, ty2, t2]
  have e2 : mIfS (mOr (mNot (mTru (mIsi "tuple" (mOp2 fIx (mVar 0) (mC (.int 1)))))) (mBool (mOp2 fNe (mCB fLen (mCons (mOp2 fIx (mVar 0) (mC (.int 1))) (mNil))) (mVar 2)))) (mRet (mC (.bl false))) (mNext) [some (.val (rowD (b, tos))), some (.val (.int many)), some (.val (.int size)), none] =
      .nx [some (.val (rowD (b, tos))), some (.val (.int many)), some (.val (.int size)), none] := by
    simp [x1, tyD, t1, h1]
  have e3 : m_is_stand [some (.val (rowD (b, tos))), some (.val (.int many)), some (.val (.int size)), none] = .rt (.ob (.val (.bl true))) [some (.val (rowD (b, tos))), some (.val (.int many)), some (.val (.int size)), none] :=
    seq_nx e1 (seq_nx e2 (by rw [mRet_eq, cbl_ok h0 f1]; rfl))
  unfold mf_is_stand
  rw [mDef_eq]
  exact (congrArg (endF _) e3).trans rfl
abbrev mcO (a : List Nat) (T : List Row) : List (Str × D) := [("letters_told", .str a), ("stand_rows", .lst (T.map rowD))]
theorem init_ok (a : List Nat) (T : List Row) (ha : Abc a) (hT : Tab a.length T) : mf_Machine___init__ [.ins "Machine" [], .val (.str a), .val (.lst (T.map rowD))] = .ok (.val .non) [.ins "Machine" (mcO a T)] := by
  have l4 := ha.le
  have l1 : a.length ≤ LIM := le_lim (by omega)
  have h1 := need_letters_ok a ha
  have hle := hT.le
  have hpos := hT.pos
  have tl : (1 : Int) ≤ T.length ∧ (T.length : Int) ≤ 60 := by omega
  have hcm : mComp (mItems (mVar 2)) (.nm 3) [3] (mYes) (mCall mf_is_stand [false, false, false] [] (mCons (mVar 3) (mCons (mCB fLen (mCons (mVar 2) (mNil))) (mCons (mCB fLen (mCons (mVar 1) (mNil))) (mNil))))) [some (.ins "Machine" []), some (.val (.str a)), some (.val (.lst (T.map rowD))), none] =
      .ok (.ob (.lst (T.map fun _ => .bl true)), [some (.ins "Machine" []), some (.val (.str a)), some (.val (.lst (T.map rowD))), none]) :=
    comp_map 3 rowD (fun _ => .bl true) T (by simp) (.inl rfl) (le_lim (by omega)) (fun r hr => by
      have := stand_ok r T.length a.length (hT.wide r hr) (hT.low r hr) (by omega)
      simp [l1, this])
  have f1 := fAll_map (fun _ => true) T
  have a1 : (T.all fun _ => true) = true := by simp
  rw [a1] at f1
  have t1 : (["list", "tuple"].any fun T => isTy "list" T) = true := by decide
  have e1 : mExpr (mCall mf_need_letters [false] [] (mCons (mVar 1) (mNil))) [some (.ins "Machine" []), some (.val (.str a)), some (.val (.lst (T.map rowD))), none] = .nx [some (.ins "Machine" []), some (.val (.str a)), some (.val (.lst (T.map rowD))), none] := by
    simp [h1]
  have e2 : mIfS (mOr (mNot (mTru (mIsiT ["list", "tuple"] (mVar 2)))) (mNot (mBool (mChain fLe fLe (mC (.int 1)) (mCB fLen (mCons (mVar 2) (mNil))) (mC (.int 60)))))) (mRaise "NoMachine") (mNext) [some (.ins "Machine" []), some (.val (.str a)), some (.val (.lst (T.map rowD))), none] = .nx [some (.ins "Machine" []), some (.val (.str a)), some (.val (.lst (T.map rowD))), none] := by
    have t2 : isTy "list" "list" = true := by decide
    simp [tyD, t2, tl.1, tl.2]
  have e3 : mIfS (mNot (mTru (mCB fAll (mCons (mComp (mItems (mVar 2)) (.nm 3) [3] (mYes) (mCall mf_is_stand [false, false, false] [] (mCons (mVar 3) (mCons (mCB fLen (mCons (mVar 2) (mNil))) (mCons (mCB fLen (mCons (mVar 1) (mNil))) (mNil)))))) (mNil))))) (mRaise "NoMachine") (mNext) [some (.ins "Machine" []), some (.val (.str a)), some (.val (.lst (T.map rowD))), none] = .nx [some (.ins "Machine" []), some (.val (.str a)), some (.val (.lst (T.map rowD))), none] := by
    refine if_no ?_
    rw [mNot_eq, mTru_eq, cbl_ok hcm f1]
    rfl
  have e4 : mFldSet "Machine" 0 "letters_told" (mVar 1) [some (.ins "Machine" []), some (.val (.str a)), some (.val (.lst (T.map rowD))), none] = .nx [some (.ins "Machine" [("letters_told", .str a)]), some (.val (.str a)), some (.val (.lst (T.map rowD))), none] := by
    simp [putFD]
  have e5 : mFldSet "Machine" 0 "stand_rows" (mCB fList (mCons (mVar 2) (mNil))) [some (.ins "Machine" [("letters_told", .str a)]), some (.val (.str a)), some (.val (.lst (T.map rowD))), none] = .nx [some (.ins "Machine" (mcO a T)), some (.val (.str a)), some (.val (.lst (T.map rowD))), none] := by
    have q : ¬ (("letters_told" : Str) = "stand_rows") := by decide
    simp [fList, putFD, q]
  have e6 : m_Machine___init__ [some (.ins "Machine" []), some (.val (.str a)), some (.val (.lst (T.map rowD))), none] = .nx [some (.ins "Machine" (mcO a T)), some (.val (.str a)), some (.val (.lst (T.map rowD))), none] :=
    seq_nx e1 (seq_nx e2 (seq_nx e3 (seq_nx e4 e5)))
  unfold mf_Machine___init__
  rw [mDef_eq]
  exact (congrArg (endF _) e6).trans rfl
end SW

namespace SW
open PySem L2
/-! ### drawn tables -/
def bNear : ME := mCall mf_zlaw_pick [true, false] [] (mCons (mVar 0) (mCons (mLst (mCons (mCall mf_zlaw_take [true, false] [] (mCons (mVar 0) (mCons (mVar 3) (mNil)))) (mCons (mCB fMin (mCons (mOp2 fAdd (mVar 6) (mC (.int 1))) (mCons (mOp2 fSub (mVar 3) (mC (.int 1))) (mNil)))) (mCons (mVar 6) (mNil))))) (mNil)))
section
variable {a : List Nat} {most : Int} {many rare : Nat} {v3 v4 v5 v7 v8 : Option O}
abbrev TE (s : Sd) (a : List Nat) (most : Int) (many rare : Nat) (v5 v6 v7 v8 : Option O) : Env := [some (stO s), some (.val (.str a)), some (.val (.int most)), some (.val (.int many)), some (.val (.int rare)), v5, v6, v7, v8]
theorem near_ok (s : Sd) (k : Nat) (h : s.ok (k + 2)) (j : Nat) (hj : j < many) (hm : many ≤ 60) :
    ∃ (t : Nat) (s' : Sd), bNear (TE s a most many rare v5 (some (.val (.int j))) v7 v8) = .ok (.ob (.val (natD t)), TE s' a most many rare v5 (some (.val (.int j))) v7 v8) ∧ s'.ok k ∧ t < many := by
  obtain ⟨i, s1, h1, k1, i0, i1⟩ := take_ok2 s (k + 1) h many (by omega) (by omega)
  obtain ⟨m, hm2⟩ : ∃ m : Nat, (if (many : Int) - 1 < (j : Int) + 1 then (many : Int) - 1 else (j : Int) + 1) = m := ⟨(if (many : Int) - 1 < (j : Int) + 1 then (many : Int) - 1 else (j : Int) + 1).toNat, by split <;> omega⟩
  obtain ⟨n, rfl⟩ : ∃ n : Nat, i = n := ⟨i.toNat, by omega⟩
  have hml : m < many := by
    have := hm2
    split at this <;> omega
  obtain ⟨d, s2, h2, k2, hd⟩ := pick_lst2 s1 k k1 [.int n, .int m, .int j] (by simp) (by simp)
  have h1' : fTake2 [.st s.gs s.cs s.r s.t, .val (.int many)] = .ok (.val (.int n)) [.st s1.gs s1.cs s1.r s1.t] := h1
  have h2' : fPick2 [.st s1.gs s1.cs s1.r s1.t, .val (.lst [.int n, .int m, .int j])] = .ok (.val d) [.st s2.gs s2.cs s2.r s2.t] := h2
  have l3 : 3 ≤ LIM := le_lim (by decide)
  have ev : bNear (TE s a most many rare v5 (some (.val (.int j))) v7 v8) = .ok (.ob (.val d), TE s2 a most many rare v5 (some (.val (.int j))) v7 v8) := by
    unfold bNear
    rw [link_take, link_pick]
    simp [TE, h1', hm2, l3, h2']
  simp at hd
  rcases hd with rfl | rfl | rfl
  · exact ⟨n, s2, ev, k2, by omega⟩
  · exact ⟨m, s2, ev, k2, hml⟩
  · exact ⟨j, s2, ev, k2, hj⟩
def bRow : MS := mSeq (mSet 7 (mComp (mItems (mVar 1)) (.nm 8) [8] (mYes) bNear))
  (mExpr (mAppend 5 (mTup (mCons (mOp2 fEq (mCall mf_zlaw_take [true, false] [] (mCons (mVar 0) (mCons (mOp2 fAdd (mVar 4) (mC (.int 1))) (mNil)))) (mC (.int 0))) (mCons (mCB fTuple (mCons (mVar 7) mNil)) (mNil))))))
theorem row_ok (s : Sd) (k : Nat) (h : s.ok (k + 9)) (la : a.length ≤ 4) (j : Nat) (hj : j < many) (hm : many ≤ 60) (hr : rare ≤ 10) (T : List Row) (hT : T.length ≤ 100) :
    ∃ (r : Row) (s' : Sd) (v7' v8' : Option O), bRow (TE s a most many rare (some (.lst (T.map rowD))) (some (.val (.int j))) v7 none) = .nx (TE s' a most many rare (some (.lst ((T ++ [r]).map rowD))) (some (.val (.int j))) v7' none) ∧ s'.ok k ∧ r.2.length = a.length ∧ ∀ t ∈ r.2, t < many := by
  obtain ⟨acc, e', h5, tos, s1, rfl, hu, hk, hc, v, rfl⟩ := comp_inv (t := .nm 8) (vs := [8]) (mt := mYes) (me := bNear) (fun c : Nat => D.str [c])
    (fun done acc e => ∃ (tos : List Nat) (s' : Sd), acc = tos.map natD ∧ tos.length = done.length ∧ s'.ok (k + 1 + 2 * (a.length - done.length)) ∧ (∀ t ∈ tos, t < many) ∧ ∃ v, e = TE s' a most many rare (some (.lst (T.map rowD))) (some (.val (.int j))) v7 v)
    a.length (le_lim (by omega)) a [] [] (TE s a most many rare (some (.lst (T.map rowD))) (some (.val (.int j))) v7 none) (by simp) (Nat.le_refl _)
    (fun x hx done acc e hd => by
      rintro ⟨tos, s', rfl, hu, hk, hc, v, rfl⟩
      obtain ⟨t, s2, h6, h7, h8⟩ := near_ok (a := a) (most := most) (many := many) (rare := rare) (v5 := some (.lst (T.map rowD))) (v7 := v7) (v8 := some (.val (.str [x]))) s' (k + 1 + 2 * (a.length - (done.length + 1))) (hk.le (by omega)) j hj hm
      refine ⟨TE s' a most many rare (some (.lst (T.map rowD))) (some (.val (.int j))) v7 (some (.val (.str [x]))), by simp [TE, wipeE], .inr ⟨_, _, _, natD t, TE s2 a most many rare (some (.lst (T.map rowD))) (some (.val (.int j))) v7 (some (.val (.str [x]))), rfl, h6, rfl, tos ++ [t], s2, by simp, by simp [hu], by simpa using h7, ?_, _, rfl⟩⟩
      intro d hd
      rcases List.mem_append.mp hd with hd | hd
      · exact hc d hd
      · simp at hd
        subst hd
        exact h8)
    ⟨[], s, rfl, rfl, h.le (by simp; omega), by simp, none, rfl⟩
  simp only [List.nil_append] at hu hk
  obtain ⟨i, s2, h6, k2, i0, i1⟩ := take_ok2 s1 k (hk.le (by omega)) ((rare : Int) + 1) (by omega) (by omega)
  have e1 : mSet 7 (mComp (mItems (mVar 1)) (.nm 8) [8] (mYes) bNear) (TE s a most many rare (some (.lst (T.map rowD))) (some (.val (.int j))) v7 none) = .nx (TE s1 a most many rare (some (.lst (T.map rowD))) (some (.val (.int j))) (some (.lst (tos.map natD))) none) := by
    refine (set_ok (e2 := TE s1 a most many rare (some (.lst (T.map rowD))) (some (.val (.int j))) v7 none) (o := .lst (tos.map natD)) ?_ (by simp [TE])).trans rfl
    rw [mComp_eq]
    simp only [TE] at h5 ⊢
    simp [h5, backE, wipeE]
  have h6' : fTake2 [.st s1.gs s1.cs s1.r s1.t, .val (.int ((rare : Int) + 1))] = .ok (.val (.int i)) [.st s2.gs s2.cs s2.r s2.t] := h6
  have l2 : 2 ≤ LIM := le_lim (by decide)
  have lT : (T.map rowD).length < LIM := by rw [List.length_map]; exact Nat.lt_of_le_of_lt hT (by decide)
  refine ⟨(i == 0, tos), s2, some (.lst (tos.map natD)), none, seq_nx e1 ?_, k2, hu, hc⟩
  rw [link_take]
  have lT' : T.length < LIM := by simpa using lT
  simp [TE, h6', l2, lT', fTuple, rowD]
end
end SW

namespace SW
open PySem L2
@[simp] theorem mAsg_eq (t : Tg) (m : ME) (env : Env) : mAsg t m env = R.sb (m env) fun p => match frz1 p.2 p.1 with
  | some (d, e) => match asgT t d e with
    | some e2 => .nx e2
    | none => .stuck
  | none => .stuck := rfl
@[simp] theorem asgT_tp (ts : List Tg) (ds : List D) (env : Env) : asgT (.tp ts) (.tup ds) env = asgTs ts ds env := by simp only [asgT]
@[simp] theorem asgTs_nil (env : Env) : asgTs [] [] env = some env := by simp only [asgTs]
@[simp] theorem asgTs_cons (t : Tg) (ts : List Tg) (d : D) (ds : List D) (env : Env) : asgTs (t :: ts) (d :: ds) env = match asgT t d env with
    | some e => asgTs ts ds e
    | none => none := by
  cases h : asgT t d env <;> simp [asgTs, h]
theorem op2_ch {env e1 e2 : Env} {f : D → D → Option O} {m1 m2 : ME} {x y : D} {o : O} (h1 : m1 env = .ok (.ob (.val x), e1)) (h2 : m2 e1 = .ok (.ob (.val y), e2)) (h : f x y = some o) : mOp2 f m1 m2 env = .ok (.ob o, e2) := by
  simp [h1, h2, h]
theorem tup2_ch {env e1 e2 : Env} {m1 m2 : ME} {x y : D} (h1 : m1 env = .ok (.ob (.val x), e1)) (h2 : m2 e1 = .ok (.ob (.val y), e2)) : mTup (mCons m1 (mCons m2 mNil)) env = .ok (.ob (.val (.tup [x, y])), e2) := by
  have l2 : 2 ≤ LIM := le_lim (by decide)
  simp [h1, h2, l2]
theorem asg2_ok {env e : Env} {m : ME} {x y : D} {i j : Nat} (h : m env = .ok (.ob (.val (.tup [x, y])), e)) (hi : i < e.length) (hj : j < e.length) : mAsg (.tp [.nm i, .nm j]) m env = .nx ((e.set i (some (.val x))).set j (some (.val y))) := by
  simp [h, hi, hj]
theorem table_ok (s : Sd) (k most : Nat) (a : List Nat) (la : a.length ≤ 4) (h : s.ok (k + 2 + 9 * most)) (m1 : 1 ≤ most) (m2 : most ≤ 60) :
    ∃ (T : List Row) (s' : Sd), mf_zlaw_table [stO s, .val (.str a), .val (.int most)] = .ok (.lst (T.map rowD)) [stO s'] ∧ s'.ok k ∧ Tab a.length T ∧ T.length ≤ most := by
  obtain ⟨i, s1, t1, k1, i0, i1⟩ := take_ok2 s (k + 1 + 9 * most) (h.le (by omega)) most (by omega) (by omega)
  obtain ⟨j, s2, t2, k2, j0, j1⟩ := take_ok2 s1 (k + 9 * most) (k1.le (by omega)) 4 (by decide) (by decide)
  obtain ⟨many, hmany⟩ : ∃ n : Nat, (1 : Int) + i = n := ⟨(1 + i).toNat, by omega⟩
  obtain ⟨rare, hrare⟩ : ∃ n : Nat, (1 : Int) + j = n := ⟨(1 + j).toNat, by omega⟩
  have hm1 : 1 ≤ many := by omega
  have hm2 : many ≤ most := by omega
  obtain ⟨e', h4, s3, T, v6, v7, rfl, k3, hT, hw, hlow⟩ := for_inv (t := .nm 6) (body := bRow) (fun x e => ∃ (s : Sd) (T : List Row) (v6 v7 : Option O), e = TE s a most many rare (some (.lst (T.map rowD))) v6 v7 none ∧ s.ok (k + 9 * (many - x)) ∧ T.length = x ∧ (∀ r ∈ T, r.2.length = a.length) ∧ ∀ r ∈ T, ∀ t ∈ r.2, t < many)
    ((List.range many).map fun j : Nat => D.int (j : Int)) 0 (TE s2 a most many rare (some (.lst [])) none none none)
    (fun x d e _ hd => by
      rintro ⟨s, T, v6, v7, rfl, hk, hT, hw, hlow⟩
      have hx : x < many ∧ d = .int (x : Nat) := by
        obtain ⟨h1, h2⟩ := List.getElem?_eq_some_iff.mp hd
        simp at h1 h2
        exact ⟨h1, h2.symm⟩
      obtain ⟨hx, rfl⟩ := hx
      obtain ⟨r, s', v7', v8', h5, h6, h7, h8⟩ := row_ok (a := a) (most := most) (many := many) (rare := rare) (v7 := v7) s (k + 9 * (many - (x + 1))) (hk.le (by omega)) la x hx (by omega) (by omega) T (by omega)
      refine ⟨TE s a most many rare (some (.lst (T.map rowD))) (some (.val (.int x))) v7 none, by simp [TE], _, .inl h5, s', T ++ [r], _, _, rfl, h6, by simp [hT], fun q hq => ?_, fun q hq => ?_⟩
      · rcases List.mem_append.mp hq with hq | hq
        · exact hw q hq
        · simp at hq
          subst hq
          exact h7
      · rcases List.mem_append.mp hq with hq | hq
        · exact hlow q hq
        · simp at hq
          subst hq
          exact h8)
    ⟨s2, [], none, none, rfl, k2.le (by omega), rfl, by simp, by simp⟩
  simp only [Nat.zero_add, List.length_map, List.length_range] at hT k3
  refine ⟨T, s3, ?_, k3.le (by omega), ⟨by omega, by omega, hw, fun r hr t ht => by rw [hT]; exact hlow r hr t ht⟩, by omega⟩
  have l2 : 2 ≤ LIM := le_lim (by decide)
  have t1' : fTake2 [.st s.gs s.cs s.r s.t, .val (.int most)] = .ok (.val (.int i)) [.st s1.gs s1.cs s1.r s1.t] := t1
  have t2' : fTake2 [.st s1.gs s1.cs s1.r s1.t, .val (.int 4)] = .ok (.val (.int j)) [.st s2.gs s2.cs s2.r s2.t] := t2
  have e1 : mAsg (.tp [.nm 3, .nm 4]) (mTup (mCons (mOp2 fAdd (mC (.int 1)) (mCall mf_zlaw_take [true, false] [] (mCons (mVar 0) (mCons (mVar 2) (mNil))))) (mCons (mOp2 fAdd (mC (.int 1)) (mCall mf_zlaw_take [true, false] [] (mCons (mVar 0) (mCons (mC (.int 4)) (mNil))))) (mNil)))) [some (stO s), some (.val (.str a)), some (.val (.int most)), none, none, none, none, none, none] =
      .nx [some (stO s2), some (.val (.str a)), some (.val (.int most)), some (.val (.int many)), some (.val (.int rare)), none, none, none, none] := by
    have c1 := op2_ch (f := fAdd) (m1 := mC (.int 1)) (x := .int 1) rfl (callS2 (env := [some (stO s), some (.val (.str a)), some (.val (.int most)), none, none, none, none, none, none]) (m := mVar 2) (i := 0) (s2 := s1) mf_zlaw_take rfl rfl t1 rfl) (o := .val (.int many)) (by rw [fAdd_int, hmany])
    have c2 := op2_ch (f := fAdd) (m1 := mC (.int 1)) (x := .int 1) rfl (callS2 (env := [some (stO s1), some (.val (.str a)), some (.val (.int most)), none, none, none, none, none, none]) (m := mC (.int 4)) (i := 0) (s2 := s2) mf_zlaw_take rfl rfl t2 rfl) (o := .val (.int rare)) (by rw [fAdd_int, hrare])
    exact asg2_ok (tup2_ch c1 c2) (by simp) (by simp) |>.trans rfl
  have e2 : mSet 5 (mLst (mNil)) [some (stO s2), some (.val (.str a)), some (.val (.int most)), some (.val (.int many)), some (.val (.int rare)), none, none, none, none] = .nx (TE s2 a most many rare (some (.lst [])) none none none) := by
    simp [TE]
  have hr := range_ok (env := TE s2 a most many rare (some (.lst [])) none none none) (me := mVar 3) (n := many) rfl (by omega)
  have e3 : m_zlaw_table [some (stO s), some (.val (.str a)), some (.val (.int most)), none, none, none, none, none, none] = .rt (.sl 5) (TE s3 a most many rare (some (.lst (T.map rowD))) v6 v7 none) :=
    seq_nx e1 (seq_nx e2 (seq_nx (for_nx hr h4) rfl))
  unfold mf_zlaw_table
  rw [mDef_eq]
  exact (congrArg (endF _) e3).trans rfl
/-! ### going on, by layers -/
abbrev Fd := List (Option (List Nat))
def fdD : Option (List Nat) → D
  | none => .non
  | some w => .str w
abbrev Ly := List (List Nat × Nat)
def vis (w : List Nat) (st : Fd × Ly) (p : Nat × Nat) : Fd × Ly := if st.1[p.2]? = some none then (st.1.set p.2 (some (w ++ [p.1])), st.2 ++ [(w ++ [p.1], p.2)]) else st
def tos (T : List Row) (g : Nat) : List Nat := match T[g]? with
  | some r => r.2
  | none => []
def scan (a : List Nat) (T : List Row) (st : Fd × Ly) (x : List Nat × Nat) : Fd × Ly := (a.zip (tos T x.2)).foldl (vis x.1) st
def rnd (a : List Nat) (T : List Row) (st : Fd × Ly) : Fd × Ly := st.2.foldl (scan a T) (st.1, [])
def st0 (n : Nat) : Fd × Ly := ((List.replicate n none).set 0 (some []), [([], 0)])
def its (a : List Nat) (T : List Row) : Nat → Fd × Ly
  | 0 => st0 T.length
  | n + 1 => rnd a T (its a T n)
theorem rnd_nil (a : List Nat) (T : List Row) (F : Fd) : rnd a T (F, []) = (F, []) := rfl
theorem its_stop (a : List Nat) (T : List Row) {j : Nat} (h : (its a T j).2 = []) : ∀ m, (its a T (j + m)) = its a T j
  | 0 => rfl
  | m + 1 => by
    show rnd a T (its a T (j + m)) = _
    rw [its_stop a T h m]
    have : its a T j = ((its a T j).1, []) := by rw [← h]
    rw [this, rnd_nil]
theorem its_same (a : List Nat) (T : List Row) {i j : Nat} (hi : (its a T i).2 = []) (hj : (its a T j).2 = []) : its a T i = its a T j := by
  rcases Nat.le_total i j with h | h
  · have := its_stop a T hi (j - i)
    rw [show i + (j - i) = j from by omega] at this
    exact this.symm
  · have := its_stop a T hj (i - j)
    rw [show j + (i - j) = i from by omega] at this
    exact this
/-- a word's end -/
def walk (a : List Nat) (T : List Row) (g : Nat) (w : List Nat) : Nat := w.foldl (fun g c => (tos T g).getD (a.idxOf c) 0) g
/-- what is kept: all words are short, layers hold what was found -/
structure Good (n : Nat) (j : Nat) (st : Fd × Ly) : Prop where
  len : st.1.length = n
  inl : ∀ x ∈ st.2, st.1[x.2]? = some (some x.1)
  lw : ∀ x ∈ st.2, x.1.length ≤ j
  fw : ∀ w : List Nat, some w ∈ st.1 → w.length ≤ j
  ll : st.2.length ≤ n
def filled (F : Fd) : Nat := F.countP Option.isSome
theorem filled_le (F : Fd) : filled F ≤ F.length := List.countP_le_length
theorem filled_set {F : Fd} {g : Nat} {w : List Nat} (h : F[g]? = some none) : filled (F.set g (some w)) = filled F + 1 := by
  unfold filled
  induction F generalizing g with
  | nil => simp at h
  | cons x F ih =>
    cases g with
    | zero =>
      simp at h
      subst h
      simp
    | succ g =>
      have := ih (g := g) (by simpa using h)
      simp only [List.set_cons_succ, List.countP_cons]
      rw [this]
      omega
/-- inside a round: from (F0, []) to st -/
structure Mid (n j : Nat) (F0 : Fd) (st : Fd × Ly) : Prop where
  len : st.1.length = n
  keep : ∀ (g : Nat) (w : List Nat), F0[g]? = some (some w) → st.1[g]? = some (some w)
  inl : ∀ x ∈ st.2, st.1[x.2]? = some (some x.1)
  lw : ∀ x ∈ st.2, x.1.length ≤ j + 1
  fw : ∀ w : List Nat, some w ∈ st.1 → w.length ≤ j + 1
  fl : filled st.1 = filled F0 + st.2.length
theorem vis_mid {n j : Nat} {F0 : Fd} {st : Fd × Ly} {w : List Nat} (hw : w.length ≤ j) (p : Nat × Nat) (h : Mid n j F0 st) : Mid n j F0 (vis w st p) := by
  unfold vis
  split
  · rename_i hp
    have hlt : p.2 < st.1.length := (List.getElem?_eq_some_iff.mp hp).1
    refine ⟨by simp [h.len], fun g u hg => ?_, fun x hx => ?_, fun x hx => ?_, fun u hu => ?_, ?_⟩
    · have hg2 := h.keep g u hg
      have : p.2 ≠ g := fun e => by
        subst e
        rw [hp] at hg2
        cases hg2
      simp only
      rw [List.getElem?_set_ne this]
      exact hg2
    · rcases List.mem_append.mp hx with hx | hx
      · have hi := h.inl x hx
        have : p.2 ≠ x.2 := fun e => by
          rw [← e, hp] at hi
          cases hi
        simp only
        rw [List.getElem?_set_ne this]
        exact hi
      · simp at hx
        subst hx
        simp only
        rw [List.getElem?_set_self hlt]
    · rcases List.mem_append.mp hx with hx | hx
      · exact h.lw x hx
      · simp at hx
        subst hx
        simp
        omega
    · rcases List.mem_or_eq_of_mem_set hu with hu | hu
      · exact h.fw u hu
      · cases hu
        simp
        omega
    · simp only
      rw [filled_set hp, h.fl]
      simp
      omega
  · exact h
theorem scan_mid {n j : Nat} {F0 : Fd} {a : List Nat} {T : List Row} {x : List Nat × Nat} (hw : x.1.length ≤ j) : ∀ {st : Fd × Ly}, Mid n j F0 st → Mid n j F0 (scan a T st x) := by
  intro st
  unfold scan
  generalize a.zip (tos T x.2) = l
  induction l generalizing st with
  | nil => exact id
  | cons p l ih => exact fun h => ih (vis_mid hw p h)
theorem rnd_mid {n j : Nat} {F0 : Fd} {a : List Nat} {T : List Row} : ∀ {l : Ly} {st : Fd × Ly}, (∀ x ∈ l, x.1.length ≤ j) → Mid n j F0 st → Mid n j F0 (l.foldl (scan a T) st)
  | [], _, _, h => h
  | x :: l, st, hl, h => rnd_mid (l := l) (st := scan a T st x) (fun y hy => hl y (List.mem_cons_of_mem _ hy)) (scan_mid (hl x List.mem_cons_self) h)
theorem Mid.start {n j : Nat} {st : Fd × Ly} (h : Good n j st) : Mid n j st.1 (st.1, []) :=
  ⟨h.len, fun _ _ e => e, by simp, by simp, fun w hw => by have := h.fw w hw; omega, by simp⟩
theorem Mid.good {n j : Nat} {F0 : Fd} {st : Fd × Ly} (h : Mid n j F0 st) : Good n (j + 1) st :=
  ⟨h.len, h.inl, h.lw, h.fw, by
    have := filled_le st.1
    have := h.fl
    have := h.len
    omega⟩
theorem good_its {a : List Nat} {T : List Row} (hT : 1 ≤ T.length) : ∀ j, Good T.length j (its a T j) ∧ ((its a T j).2 ≠ [] → j + 1 ≤ filled (its a T j).1)
  | 0 => by
    refine ⟨⟨by simp [its, st0], fun x hx => ?_, fun x hx => ?_, fun w hw => ?_, hT⟩, fun _ => ?_⟩
    · simp [its, st0] at hx
      subst hx
      simp only [its, st0]
      rw [List.getElem?_set_self (by simp; omega)]
    · simp [its, st0] at hx
      subst hx
      simp
    · rcases List.mem_or_eq_of_mem_set hw with hw | hw
      · simp at hw
      · cases hw
        simp
    · have h0 : (List.replicate T.length (none : Option (List Nat)))[0]? = some none := by
        rw [List.getElem?_replicate, if_pos (by omega)]
      show 0 + 1 ≤ filled ((List.replicate T.length none).set 0 (some []))
      rw [filled_set h0]
      omega
  | j + 1 => by
    obtain ⟨g, hf⟩ := good_its hT j
    have m := rnd_mid (a := a) (T := T) g.lw (Mid.start g)
    refine ⟨m.good, fun hne => ?_⟩
    have hp : (its a T j).2 ≠ [] := fun e => by
      apply hne
      have : its a T j = ((its a T j).1, []) := by rw [← e]
      show (rnd a T (its a T j)).2 = []
      rw [this, rnd_nil]
    have h1 := hf hp
    have h2 := m.fl
    have h3 : 1 ≤ (rnd a T (its a T j)).2.length := by
      have : (its a T (j + 1)).2 ≠ [] := hne
      rcases Nat.eq_zero_or_pos (rnd a T (its a T j)).2.length with q | q
      · exact absurd (List.eq_nil_of_length_eq_zero q) this
      · exact q
    show j + 1 + 1 ≤ filled (rnd a T (its a T j)).1
    have h2 : filled (rnd a T (its a T j)).1 = filled (its a T j).1 + (rnd a T (its a T j)).2.length := h2
    omega
end SW

namespace SW
open PySem L2
theorem ixN_nat {n g : Nat} (h : g < n) : ixN n (g : Int) = some g := by
  unfold ixN
  rw [if_pos (by omega), if_pos (by omega)]
  rfl
theorem ix_row {T : List Row} {g : Nat} (h : g < T.length) : fIx (.lst (T.map rowD)) (.int (g : Nat)) = some (.val (rowD T[g])) := by
  show ((ixN (T.map rowD).length (g : Int)).bind fun j => (T.map rowD)[j]?).map O.val = _
  rw [ixN_nat (by rw [List.length_map]; exact h)]
  simp [h]
theorem tos_at {T : List Row} {g : Nat} (h : g < T.length) : tos T g = T[g].2 := by
  unfold tos
  rw [List.getElem?_eq_getElem h]
/-! ### where a letter stands -/
open StrLaws Builtin.Str in
theorem occ_stay (s sub : Str) (hi x f : Nat) : ∀ l : List Nat, (forIn l ((#[x] : Array Nat), f) (occBody s sub hi 1)).run.fst = #[x]
  | [] => rfl
  | a :: l => by
    rw [List.forIn_cons]
    unfold occBody
    rw [if_neg (by simp)]
    exact occ_stay s sub hi x f l
open StrLaws Builtin.Str in
theorem occ_find (s sub : Str) (hi i : Nat) (hc : i + sub.length ≤ hi ∧ subAt s sub i = true) : ∀ (l : List Nat) (free : Nat), (∀ j ∈ l, free ≤ j) → i ∈ l → (∀ j ∈ l, j < i → ¬ (j + sub.length ≤ hi ∧ subAt s sub j = true)) → l.Pairwise (· < ·) →
    (forIn l ((#[] : Array Nat), free) (occBody s sub hi 1)).run.fst = #[i]
  | [], _, _, h, _, _ => by simp at h
  | a :: l, free, hf, hm, hn, hp => by
    rw [List.forIn_cons]
    unfold occBody
    have ha : free ≤ a := hf a List.mem_cons_self
    obtain ⟨p1, p2⟩ := List.pairwise_cons.mp hp
    by_cases e : a = i
    · subst e
      rw [if_pos ⟨⟨⟨by simp, ha⟩, hc.1⟩, hc.2⟩]
      exact occ_stay s sub hi a (a + sub.length) l
    · have hil : i ∈ l := (List.mem_cons.mp hm).resolve_left fun z => e z.symm
      have hlt := p1 i hil
      have h2 := hn a List.mem_cons_self hlt
      rw [if_neg (fun h => h2 ⟨h.1.2, h.2⟩)]
      exact occ_find s sub hi i hc l free (fun j hj => hf j (List.mem_cons_of_mem _ hj)) hil (fun j hj => hn j (List.mem_cons_of_mem _ hj)) p2
theorem idx_first : ∀ {a : List Nat} {j c : Nat}, a[j]? = some c → a.idxOf c ≤ j
  | [], j, c, h => by simp at h
  | x :: a, 0, c, h => by
    simp at h
    subst h
    simp
  | x :: a, j + 1, c, h => by
    have := idx_first (a := a) (j := j) (c := c) (by simpa using h)
    rw [List.idxOf_cons]
    cases (x == c) with
    | true => exact Nat.zero_le _
    | false => exact Nat.succ_le_succ this
theorem index_ok {a : List Nat} {c : Nat} (h : c ∈ a) : fSIndex (.str a) [.str [c]] = some (.val (natD (a.idxOf c))) := by
  have hlt : a.idxOf c < a.length := List.idxOf_lt_length_of_mem h
  have hget : a[a.idxOf c]? = some c := by
    rw [List.getElem?_eq_getElem hlt, List.getElem_idxOf hlt]
  have hsl : (S a).length = a.length := by simp [Str.length, S]
  have ho : Builtin.Str.occurrences (S a) (S [c]) 0 (S a).length 1 = [a.idxOf c] := by
    rw [StrLaws.occ_eq]
    have hs : ∀ j, (j + (S [c]).length ≤ (S a).length ∧ Builtin.Str.subAt (S a) (S [c]) j = true) ↔ a[j]? = some c := fun j => by
      have := StrLaws.subAt_one (S a) c j
      rw [S_cps] at this
      exact this
    rw [occ_find (S a) (S [c]) (S a).length (a.idxOf c) ((hs _).mpr hget) _ 0 (fun _ _ => Nat.zero_le _) (by
      rw [List.mem_range'_1, hsl]
      omega) (fun j hj hji hc => by
        have h1 := (hs j).mp hc
        have h2 := idx_first h1
        omega) (List.pairwise_lt_range')]
  show (match Builtin.Str.occurrences (S a) (S [c]) 0 (S a).length 1 with
    | i :: _ => some (O.val (.int (i : Nat)))
    | [] => none) = _
  rw [ho]
  rfl
/-! ### words walked -/
section
variable {a : List Nat} {T : List Row}
theorem walk_low (hT : Tab a.length T) {g : Nat} (hg : g < T.length) {c : Nat} (hc : c ∈ a) : (tos T g)[a.idxOf c]? = some ((tos T g).getD (a.idxOf c) 0) ∧ (tos T g).getD (a.idxOf c) 0 < T.length := by
  have hlt : a.idxOf c < a.length := List.idxOf_lt_length_of_mem hc
  have hw : (tos T g).length = a.length := by
    rw [tos_at hg]
    exact hT.wide _ (List.getElem_mem hg)
  have hlt2 : a.idxOf c < (tos T g).length := by omega
  have e : (tos T g).getD (a.idxOf c) 0 = (tos T g)[a.idxOf c] := by
    rw [List.getD_eq_getElem?_getD, List.getElem?_eq_getElem hlt2]
    rfl
  rw [e]
  refine ⟨List.getElem?_eq_getElem hlt2, ?_⟩
  have hm : (tos T g)[a.idxOf c] ∈ tos T g := List.getElem_mem hlt2
  have hm2 : ∀ t ∈ tos T g, t < T.length := fun t ht => by
    rw [tos_at hg] at ht
    exact hT.low _ (List.getElem_mem hg) t ht
  exact hm2 _ hm
theorem behind_ok (hT : Tab a.length T) (w : List Nat) (hw : ∀ c ∈ w, c ∈ a) (hl : w.length ≤ 100000) (g : Nat) (hg : g < T.length) :
    mf_zlaw_behind [.val (.str a), .val (.lst (T.map rowD)), .val (.int g), .val (.str w)] = .ok (.val (natD (walk a T g w))) [] ∧ walk a T g w < T.length := by
  obtain ⟨e', h1, ⟨hlow, v, rfl⟩⟩ := for_fold (t := .nm 4) (body := mSet 2 (mOp2 fIx (mOp2 fIx (mOp2 fIx (mVar 1) (mVar 2)) (mC (.int 1))) (mBM "str" fSIndex (mVar 0) (mCons (mVar 4) (mNil))))) (fun g c => (tos T g).getD (a.idxOf c) 0)
    (fun g e => g < T.length ∧ ∃ v, e = [some (.val (.str a)), some (.val (.lst (T.map rowD))), some (.val (natD g)), some (.val (.str w)), v]) (fun c => .str [c]) w g [some (.val (.str a)), some (.val (.lst (T.map rowD))), some (.val (natD g)), some (.val (.str w)), none]
    (fun c hc g e => by
      rintro ⟨hg, v, rfl⟩
      obtain ⟨q1, q2⟩ := walk_low hT hg (hw c hc)
      have hi := index_ok (hw c hc)
      have hr := ix_row hg
      have hx1 : fIx (rowD T[g]) (.int 1) = some (.val (.tup (T[g].2.map natD))) := rfl
      have hx2 : fIx (.tup (T[g].2.map natD)) (natD (a.idxOf c)) = some (.val (natD ((tos T g).getD (a.idxOf c) 0))) := by
        rw [tos_at hg] at q1 ⊢
        have hlt : a.idxOf c < T[g].2.length := (List.getElem?_eq_some_iff.mp q1).1
        show ((ixN (T[g].2.map natD).length (a.idxOf c : Int)).bind fun j => (T[g].2.map natD)[j]?).map O.val = _
        rw [ixN_nat (by rw [List.length_map]; exact hlt)]
        show ((T[g].2.map natD)[a.idxOf c]?).map O.val = _
        rw [List.getElem?_map, q1]
        rfl
      refine ⟨[some (.val (.str a)), some (.val (.lst (T.map rowD))), some (.val (natD g)), some (.val (.str w)), some (.val (.str [c]))], by simp, [some (.val (.str a)), some (.val (.lst (T.map rowD))), some (.val (natD ((tos T g).getD (a.idxOf c) 0))), some (.val (.str w)), some (.val (.str [c]))], .inl ?_, q2, _, rfl⟩
      have eb : mBM "str" fSIndex (mVar 0) (mCons (mVar 4) (mNil)) [some (.val (.str a)), some (.val (.lst (T.map rowD))), some (.val (natD g)), some (.val (.str w)), some (.val (.str [c]))] = .ok (.ob (.val (natD (a.idxOf c))), [some (.val (.str a)), some (.val (.lst (T.map rowD))), some (.val (natD g)), some (.val (.str w)), some (.val (.str [c]))]) := by
        simp [mBM, tyD, hi]
      exact (set_ok (op2_ok (op2_ok (op2_ok rfl rfl hr) rfl hx1) eb hx2) (by simp)).trans rfl)
    ⟨hg, none, rfl⟩
  refine ⟨?_, hlow⟩
  have e1 : mFor (mItems (mVar 3)) (.nm 4) (mSet 2 (mOp2 fIx (mOp2 fIx (mOp2 fIx (mVar 1) (mVar 2)) (mC (.int 1))) (mBM "str" fSIndex (mVar 0) (mCons (mVar 4) (mNil))))) [some (.val (.str a)), some (.val (.lst (T.map rowD))), some (.val (.int g)), some (.val (.str w)), none] =
      .nx [some (.val (.str a)), some (.val (.lst (T.map rowD))), some (.val (natD (walk a T g w))), some (.val (.str w)), v] :=
    for_nx (ds := w.map fun c => .str [c]) rfl h1
  have e2 : m_zlaw_behind [some (.val (.str a)), some (.val (.lst (T.map rowD))), some (.val (.int g)), some (.val (.str w)), none] = .rt (.ob (.val (natD (walk a T g w)))) [some (.val (.str a)), some (.val (.lst (T.map rowD))), some (.val (natD (walk a T g w))), some (.val (.str w)), v] :=
    seq_nx e1 rfl
  unfold mf_zlaw_behind
  rw [mDef_eq]
  exact (congrArg (endF _) e2).trans rfl
end
end SW

namespace SW
open PySem L2
/-! k08: how many different ones -/
theorem nodup_lenX {α : Type} [DecidableEq α] : ∀ (l d : List α), l.Nodup → (∀ x ∈ l, x ∈ d) → l.length ≤ d.length
  | [], d, _, _ => Nat.zero_le _
  | x :: l, d, nd, h => by
    have hx := h x (List.mem_cons_self ..)
    have n := List.nodup_cons.mp nd
    have ih := nodup_lenX l (d.erase x) n.2 fun y hy => (List.mem_erase_of_ne (fun e : y = x => n.1 (by rw [← e]; exact hy))).mpr (h y (List.mem_cons_of_mem _ hy))
    have e := List.length_erase_of_mem hx
    have p := List.length_pos_of_mem hx
    rw [List.length_cons]
    omega
theorem disN_nodup : ∀ l : List (List Nat), ∃ m : List (List Nat), m.Nodup ∧ (∀ x, x ∈ m ↔ x ∈ l) ∧ m.length = disN l
  | [] => ⟨[], List.nodup_nil, fun _ => Iff.rfl, rfl⟩
  | x :: r => by
    obtain ⟨m, h1, h2, h3⟩ := disN_nodup r
    by_cases q : x ∈ r
    · refine ⟨m, h1, fun y => ?_, by show _ = (if x ∈ r then disN r else disN r + 1); rw [if_pos q, h3]⟩
      rw [h2, List.mem_cons]
      exact ⟨.inr, fun h => h.elim (fun e => e ▸ q) id⟩
    · refine ⟨x :: m, List.nodup_cons.mpr ⟨fun h => q ((h2 x).mp h), h1⟩, fun y => by rw [List.mem_cons, List.mem_cons, h2], by show _ = (if x ∈ r then disN r else disN r + 1); rw [if_neg q, List.length_cons, h3]⟩
theorem token_iff {a w : List Nat} (nd : a.Nodup) : (a.filter fun c => decide (c ∈ w)).length = disN (w.map fun c => [c]).reverse ↔ ∀ c ∈ w, c ∈ a := by
  obtain ⟨m, h1, h2, h3⟩ := disN_nodup (w.map fun c => [c]).reverse
  have hm : ∀ c : Nat, [c] ∈ m ↔ c ∈ w := fun c => by rw [h2, List.mem_reverse, List.mem_map]; exact ⟨fun ⟨b, hb, e⟩ => by cases e; exact hb, fun h => ⟨c, h, rfl⟩⟩
  have hs : ∀ x ∈ m, ∃ c ∈ w, x = [c] := fun x hx => by
    obtain ⟨c, hc, e⟩ := List.mem_map.mp (List.mem_reverse.mp ((h2 x).mp hx))
    exact ⟨c, hc, e.symm⟩
  have fn : ((a.filter fun c => decide (c ∈ w)).map fun c => [c]).Nodup := by
    refine List.Pairwise.map _ (fun x y (h : x ≠ y) e => h (by simpa using e)) (List.Pairwise.filter _ nd)
  rw [← h3]
  constructor
  · intro e c hc
    by_cases q : c ∈ a
    · exact q
    · have := nodup_lenX ([c] :: (a.filter fun c => decide (c ∈ w)).map fun c => [c]) m (List.nodup_cons.mpr ⟨fun h => by
        obtain ⟨b, hb, e⟩ := List.mem_map.mp h
        cases e
        exact q (List.mem_filter.mp hb).1, fn⟩) fun x hx => by
          rcases List.mem_cons.mp hx with rfl | hx
          · exact (hm c).mpr hc
          · obtain ⟨b, hb, rfl⟩ := List.mem_map.mp hx
            exact (hm b).mpr (of_decide_eq_true (List.mem_filter.mp hb).2)
      rw [List.length_cons, List.length_map] at this
      omega
  · intro h
    have l1 := nodup_lenX _ m fn fun x hx => by
      obtain ⟨b, hb, rfl⟩ := List.mem_map.mp hx
      exact (hm b).mpr (of_decide_eq_true (List.mem_filter.mp hb).2)
    have l2 := nodup_lenX m ((a.filter fun c => decide (c ∈ w)).map fun c => [c]) h1 fun x hx => by
      obtain ⟨c, hc, rfl⟩ := hs x hx
      exact List.mem_map.mpr ⟨c, List.mem_filter.mpr ⟨h c hc, decide_eq_true hc⟩, rfl⟩
    rw [List.length_map] at l1 l2
    omega
end SW

namespace SW
open PySem L2
/-! k08: is_word_to, need_word -/
def gd (a : List Nat) : D → Bool
  | .str w => decide (w.length ≤ 20000) && w.all fun c => decide (c ∈ a)
  | _ => false
theorem word_to_str {a w : List Nat} (la : a.length ≤ 1000) (lw : w.length ≤ 100000) : mf_is_word_to [.val (.str a), .val (.str w), .val (.int 20000)] = .ok (.val (.bl (gd a (.str w)))) [] := by
  have l1 : w.length ≤ LIM := le_lim (by omega)
  have isS : isTy "str" "str" = true := by decide
  have h0 : mComp (mItems (mVar 1)) (.nm 3) [3] (mYes) (mOp2 (fIn false) (mVar 3) (mVar 0)) [some (.val (.str a)), some (.val (.str w)), some (.val (.int 20000)), none] = .ok (.ob (.lst (w.map fun c => .bl (decide (c ∈ a)))), [some (.val (.str a)), some (.val (.str w)), some (.val (.int 20000)), none]) :=
    comp_map 3 (fun c => .str [c]) (fun c => .bl (decide (c ∈ a))) w (by simp) (.inl rfl) l1 (fun x hx => by simp [fIn])
  have hA := cbl_ok h0 (fAll_map (fun c => decide (c ∈ a)) w)
  have hI : mIsi "str" (mVar 1) [some (.val (.str a)), some (.val (.str w)), some (.val (.int 20000)), none] = .ok (.ob (.val (.bl true)), [some (.val (.str a)), some (.val (.str w)), some (.val (.int 20000)), none]) := by simp [tyD, isS]
  have hL : mOp2 fLe (mCB fLen (mCons (mVar 1) (mNil))) (mVar 2) [some (.val (.str a)), some (.val (.str w)), some (.val (.int 20000)), none] = .ok (.ob (.val (.bl (decide (w.length ≤ 20000)))), [some (.val (.str a)), some (.val (.str w)), some (.val (.int 20000)), none]) := by
    by_cases q : w.length ≤ 20000
    · have q' : (w.length : Int) ≤ 20000 := by omega
      simp [l1, q, q']
    · have q' : ¬ (w.length : Int) ≤ 20000 := by omega
      simp [l1, q, q']
  have e2 : m_is_word_to [some (.val (.str a)), some (.val (.str w)), some (.val (.int 20000)), none] = .rt (.ob (.val (.bl (gd a (.str w))))) [some (.val (.str a)), some (.val (.str w)), some (.val (.int 20000)), none] := by
    unfold m_is_word_to
    generalize mCB fAll (mCons (mComp (mItems (mVar 1)) (.nm 3) [3] (mYes) (mOp2 (fIn false) (mVar 3) (mVar 0))) mNil) = A at hA
    generalize mOp2 fLe (mCB fLen (mCons (mVar 1) (mNil))) (mVar 2) = B at hL
    generalize mIsi "str" (mVar 1) = C at hI
    by_cases q : w.length ≤ 20000
    · rw [decide_eq_true q] at hL
      simp [hA, hL, hI, gd, q]
    · rw [decide_eq_false q] at hL
      simp [hA, hL, hI, gd, q]
  unfold mf_is_word_to
  rw [mDef_eq]
  exact (congrArg (endF _) e2).trans rfl
theorem word_to_other {a : List Nat} {x : D} {t : String} (ht : tyD x = some t) (hs : isTy t "str" = false) : mf_is_word_to [.val (.str a), .val x, .val (.int 20000)] = .ok (.val (.bl false)) [] := by
  have hI : mIsi "str" (mVar 1) [some (.val (.str a)), some (.val x), some (.val (.int 20000)), none] = .ok (.ob (.val (.bl false)), [some (.val (.str a)), some (.val x), some (.val (.int 20000)), none]) := by simp [ht, hs]
  have e2 : m_is_word_to [some (.val (.str a)), some (.val x), some (.val (.int 20000)), none] = .rt (.ob (.val (.bl false))) [some (.val (.str a)), some (.val x), some (.val (.int 20000)), none] := by
    unfold m_is_word_to
    generalize mIsi "str" (mVar 1) = C at hI
    simp [hI]
  unfold mf_is_word_to
  rw [mDef_eq]
  exact (congrArg (endF _) e2).trans rfl
theorem need_word_good {a : List Nat} {x : D} (h : mf_is_word_to [.val (.str a), .val x, .val (.int 20000)] = .ok (.val (.bl true)) []) : mf_need_word [.val (.str a), .val x, .val (.int 20000)] = .ok (.val .non) [] := by
  unfold mf_need_word
  rw [mDef_eq]
  simp [m_need_word, h]
theorem need_word_bad {a : List Nat} {x : D} (h : mf_is_word_to [.val (.str a), .val x, .val (.int 20000)] = .ok (.val (.bl false)) []) : mf_need_word [.val (.str a), .val x, .val (.int 20000)] = .exc "NoWord" [] [] := by
  unfold mf_need_word
  rw [mDef_eq]
  simp [m_need_word, h]
/-- a place: an int, no bool, of the table -/
def sd (n : Nat) : D → Option Nat
  | .int i => if 0 ≤ i ∧ i < n then some i.toNat else none
  | _ => none
theorem number_int (i l m : Int) : mf_is_number [.val (.int i), .val (.int l), .val (.int m)] = .ok (.val (.bl (decide (l ≤ i ∧ i ≤ m)))) [] := by
  have h3 : isTy "int" "int" = true := by decide
  have h4 : isTy "int" "bool" = false := by decide
  unfold mf_is_number
  rw [mDef_eq]
  by_cases q1 : l ≤ i <;> by_cases q2 : i ≤ m <;> simp [m_is_number, tyD, h3, h4, q1, q2]
/-- what is no number: of another type, or a truth -/
def nonum : D → Bool
  | .int _ => false
  | .bl _ => true
  | .non => true
  | .str _ => true
  | .tup _ => true
  | .lst _ => true
  | _ => false
theorem number_other {x : D} (h : nonum x = true) (l m : Int) : mf_is_number [.val x, .val (.int l), .val (.int m)] = .ok (.val (.bl false)) [] := by
  have i1 : isTy "bool" "int" = true := by decide
  have i2 : isTy "bool" "bool" = true := by decide
  have i3 : isTy "NoneType" "int" = false := by decide
  have i4 : isTy "str" "int" = false := by decide
  have i5 : isTy "tuple" "int" = false := by decide
  have i6 : isTy "list" "int" = false := by decide
  unfold mf_is_number
  rw [mDef_eq]
  cases x <;> simp [nonum] at h <;> simp [m_is_number, tyD, i1, i2, i3, i4, i5, i6]
theorem stood_int (T : List Row) (hl : T.length ≤ 60) (i : Int) : mf_zlaw_is_stood [.val (.lst (T.map rowD)), .val (.int i)] = .ok (.val (.bl (decide (0 ≤ i ∧ i < T.length)))) [] := by
  have h3 : isTy "int" "int" = true := by decide
  have h4 : isTy "int" "bool" = false := by decide
  unfold mf_zlaw_is_stood
  rw [mDef_eq]
  by_cases q1 : 0 ≤ i <;> by_cases q2 : i < T.length <;> simp [m_zlaw_is_stood, tyD, h3, h4, q1, q2]
theorem stood_other (T : List Row) {x : D} (h : nonum x = true) : mf_zlaw_is_stood [.val (.lst (T.map rowD)), .val x] = .ok (.val (.bl false)) [] := by
  have i1 : isTy "bool" "int" = true := by decide
  have i2 : isTy "bool" "bool" = true := by decide
  have i3 : isTy "NoneType" "int" = false := by decide
  have i4 : isTy "str" "int" = false := by decide
  have i5 : isTy "tuple" "int" = false := by decide
  have i6 : isTy "list" "int" = false := by decide
  unfold mf_zlaw_is_stood
  rw [mDef_eq]
  cases x <;> simp [nonum] at h <;> simp [m_zlaw_is_stood, tyD, i1, i2, i3, i4, i5, i6]
theorem txts_one1 : ∀ w : List Nat, txts (w.map fun c => D.str [c]) = some (w.map fun c => [c])
  | [] => rfl
  | c :: w => by
    rw [List.map_cons, List.map_cons]
    simp [txts, txts_one1 w]
theorem is_token_str {a w : List Nat} (nd : a.Nodup) (la : a.length ≤ 1000) (lw : w.length ≤ 100000) (few : disN (w.map fun c => [c]).reverse < 4000) : mf_zlaw_is_token [.val (.str a), .val (.str w)] = .ok (.val (.bl (gd a (.str w)))) [] := by
  have l1 : w.length ≤ LIM := le_lim (by omega)
  have l2 : a.length ≤ LIM := le_lim (by omega)
  have isS : isTy "str" "str" = true := by decide
  have h0 : mComp (mItems (mVar 0)) (.nm 2) [2] (mBool (mOp2 (fIn false) (mVar 2) (mVar 1))) (mVar 2) [some (.val (.str a)), some (.val (.str w)), none] = .ok (.ob (.lst ((a.filter fun c => decide (c ∈ w)).map fun c => .str [c])), [some (.val (.str a)), some (.val (.str w)), none]) :=
    comp_filt 2 (fun c => .str [c]) (fun c => .str [c]) (fun c => decide (c ∈ w)) a (by simp) (.inl rfl) l2 (fun x hx => by simp [fIn]) (fun x hx _ => by simp)
  have hA := cbl_ok h0 (fLen_lst _)
  rw [List.length_map] at hA
  have hS : mOp1 fLenSet (mCB fListX (mCons (mVar 1) (mNil))) [some (.val (.str a)), some (.val (.str w)), none] = .ok (.ob (.val (.int (disN (w.map fun c => [c]).reverse))), [some (.val (.str a)), some (.val (.str w)), none]) := by
    have e1 : mCB fListX (mCons (mVar 1) (mNil)) [some (.val (.str a)), some (.val (.str w)), none] = .ok (.ob (.lst (w.map fun c => .str [c])), [some (.val (.str a)), some (.val (.str w)), none]) := by simp [fListX, l1]
    generalize mCB fListX (mCons (mVar 1) (mNil)) = A at e1
    have f1 : fLenSet (.lst (w.map fun c => .str [c])) = some (.val (.int (disN (w.map fun c => [c]).reverse))) := by
      unfold fLenSet
      simp only [txts_one1]
      rw [if_pos few]
    simp [mOp1, e1, R.bind, ap1, f1]
  have hc : decide (((a.filter fun c => decide (c ∈ w)).length : Int) = (disN (w.map fun c => [c]).reverse : Nat)) = w.all fun c => decide (c ∈ a) := by
    have := token_iff (a := a) (w := w) nd
    by_cases q : ∀ c ∈ w, c ∈ a
    · rw [decide_eq_true (by have := this.mpr q; omega), (List.all_eq_true.mpr fun c hc => decide_eq_true (q c hc))]
    · have q2 : ¬ (w.all fun c => decide (c ∈ a)) = true := fun h => q fun c hc => of_decide_eq_true (List.all_eq_true.mp h c hc)
      rw [decide_eq_false (fun h => q (this.mp (by omega))), Bool.eq_false_iff.mpr q2]
  have hM : mOp2 fEq (mCB fLen (mCons (mComp (mItems (mVar 0)) (.nm 2) [2] (mBool (mOp2 (fIn false) (mVar 2) (mVar 1))) (mVar 2)) (mNil))) (mOp1 fLenSet (mCB fListX (mCons (mVar 1) (mNil)))) [some (.val (.str a)), some (.val (.str w)), none] = .ok (.ob (.val (.bl (w.all fun c => decide (c ∈ a)))), [some (.val (.str a)), some (.val (.str w)), none]) :=
    op2_ok hA hS (by rw [fEq_int, ← hc]; rfl)
  unfold mf_zlaw_is_token
  rw [mDef_eq]
  have e1 : ∀ b : Bool, decide (w.length ≤ 20000) = b → mIfS (mOr (mNot (mTru (mIsi "str" (mVar 1)))) (mBool (mOp2 fGt (mCB fLen (mCons (mVar 1) (mNil))) (mC (.int 20000))))) (mRet (mC (.bl false))) (mNext) [some (.val (.str a)), some (.val (.str w)), none] = if b then .nx [some (.val (.str a)), some (.val (.str w)), none] else .rt (.ob (.val (.bl false))) [some (.val (.str a)), some (.val (.str w)), none] := by
    intro b hb
    cases b with
    | true =>
      have q := of_decide_eq_true hb
      have q' : ¬ (20000 : Int) < w.length := by omega
      simp [tyD, isS, l1, q, q']
    | false =>
      have q := of_decide_eq_false hb
      have q' : (20000 : Int) < w.length := by omega
      simp [tyD, isS, l1, q, q']
  by_cases q : w.length ≤ 20000
  · have eg : gd a (.str w) = w.all fun c => decide (c ∈ a) := by simp [gd, q]
    rw [eg]
    have e3 : m_zlaw_is_token [some (.val (.str a)), some (.val (.str w)), none] = .rt (.ob (.val (.bl (w.all fun c => decide (c ∈ a))))) [some (.val (.str a)), some (.val (.str w)), none] := by
      unfold m_zlaw_is_token
      rw [mSeq_eq, e1 true (decide_eq_true q), if_pos rfl]
      show mRet _ _ = _
      rw [mRet_eq, hM]
      rfl
    exact (congrArg (endF _) e3).trans rfl
  · have eg : gd a (.str w) = false := by simp [gd, q]
    rw [eg]
    have e3 : m_zlaw_is_token [some (.val (.str a)), some (.val (.str w)), none] = .rt (.ob (.val (.bl false))) [some (.val (.str a)), some (.val (.str w)), none] := by
      unfold m_zlaw_is_token
      rw [mSeq_eq, e1 false (decide_eq_false q)]
      rfl
    exact (congrArg (endF _) e3).trans rfl
/-! k08: Machine.behind's walk -/
section
variable {a : List Nat} {T : List Row}
abbrev ME3 (a : List Nat) (T : List Row) (w : List Nat) (p : D) (v : Option O) : Env := [some (.val (.ins "Machine" (mcO a T))), some (.val (.str w)), some (.val p), v]
def bStep : MS := mSet 2 (mOp2 fIx (mOp2 fIx (mOp2 fIx (mOp1 (fFld "Machine" "stand_rows") (mVar 0)) (mVar 2)) (mC (.int 1))) (mBM "str" fSIndex (mOp1 (fFld "Machine" "letters_told") (mVar 0)) (mCons (mVar 3) (mNil))))
theorem fld_rows {w : List Nat} {p : D} {v : Option O} : mOp1 (fFld "Machine" "stand_rows") (mVar 0) (ME3 a T w p v) = .ok (.ob (.val (.lst (T.map rowD))), ME3 a T w p v) := rfl
theorem fld_abc {w : List Nat} {p : D} {v : Option O} : mOp1 (fFld "Machine" "letters_told") (mVar 0) (ME3 a T w p v) = .ok (.ob (.val (.str a)), ME3 a T w p v) := rfl
theorem mwalk_ok (hT : Tab a.length T) (w : List Nat) (hw : ∀ c ∈ w, c ∈ a) (g : Nat) (hg : g < T.length) :
    (∃ v, mFor (mItems (mVar 1)) (.nm 3) bStep (ME3 a T w (natD g) none) = .nx (ME3 a T w (natD (walk a T g w)) v)) ∧ walk a T g w < T.length := by
  obtain ⟨e', h1, ⟨hlow, v, rfl⟩⟩ := for_fold (t := .nm 3) (body := bStep) (fun g c => (tos T g).getD (a.idxOf c) 0)
    (fun g e => g < T.length ∧ ∃ v, e = ME3 a T w (natD g) v) (fun c => .str [c]) w g (ME3 a T w (natD g) none)
    (fun c hc g e => by
      rintro ⟨hg, v, rfl⟩
      obtain ⟨q1, q2⟩ := walk_low hT hg (hw c hc)
      have hi := index_ok (hw c hc)
      have hr := ix_row hg
      have hx1 : fIx (rowD T[g]) (.int 1) = some (.val (.tup (T[g].2.map natD))) := rfl
      have hx2 : fIx (.tup (T[g].2.map natD)) (natD (a.idxOf c)) = some (.val (natD ((tos T g).getD (a.idxOf c) 0))) := by
        rw [tos_at hg] at q1 ⊢
        have hlt : a.idxOf c < T[g].2.length := (List.getElem?_eq_some_iff.mp q1).1
        show ((ixN (T[g].2.map natD).length (a.idxOf c : Int)).bind fun j => (T[g].2.map natD)[j]?).map O.val = _
        rw [ixN_nat (by rw [List.length_map]; exact hlt)]
        show ((T[g].2.map natD)[a.idxOf c]?).map O.val = _
        rw [List.getElem?_map, q1]
        rfl
      refine ⟨ME3 a T w (natD g) (some (.val (.str [c]))), by simp, ME3 a T w (natD ((tos T g).getD (a.idxOf c) 0)) (some (.val (.str [c]))), .inl ?_, q2, _, rfl⟩
      have eb : mBM "str" fSIndex (mOp1 (fFld "Machine" "letters_told") (mVar 0)) (mCons (mVar 3) (mNil)) (ME3 a T w (natD g) (some (.val (.str [c])))) = .ok (.ob (.val (natD (a.idxOf c))), ME3 a T w (natD g) (some (.val (.str [c])))) := by
        have f := fld_abc (a := a) (T := T) (w := w) (p := natD g) (v := some (.val (.str [c])))
        generalize mOp1 (fFld "Machine" "letters_told") (mVar 0) = A at f
        simp [mBM, tyD, f, hi]
      exact (set_ok (op2_ok (op2_ok (op2_ok fld_rows rfl hr) rfl hx1) eb hx2) (by simp)).trans rfl)
    ⟨hg, none, rfl⟩
  exact ⟨⟨v, for_nx (ds := w.map fun c => .str [c]) rfl h1⟩, hlow⟩
end
section
variable {a : List Nat} {T : List Row}
theorem mbehind_word {x p : D} (h : mf_need_word [.val (.str a), .val x, .val (.int 20000)] = .exc "NoWord" [] []) : mf_Machine_behind [.val (.ins "Machine" (mcO a T)), .val x, .val p] = .exc "NoWord" [] [] := by
  unfold mf_Machine_behind
  rw [mDef_eq]
  have f : mOp1 (fFld "Machine" "letters_told") (mVar 0) [some (.val (.ins "Machine" (mcO a T))), some (.val x), some (.val p), none] = .ok (.ob (.val (.str a)), [some (.val (.ins "Machine" (mcO a T))), some (.val x), some (.val p), none]) := rfl
  unfold m_Machine_behind
  generalize mOp1 (fFld "Machine" "letters_told") (mVar 0) = A at f
  simp [f, h]
theorem mbehind_number {x p : D} (lT : T.length ≤ 60) (h : mf_need_word [.val (.str a), .val x, .val (.int 20000)] = .ok (.val .non) []) (hp : mf_is_number [.val p, .val (.int 0), .val (.int ((T.length : Int) - 1))] = .ok (.val (.bl false)) []) :
    mf_Machine_behind [.val (.ins "Machine" (mcO a T)), .val x, .val p] = .exc "NoNumber" [] [] := by
  unfold mf_Machine_behind
  rw [mDef_eq]
  have f : mOp1 (fFld "Machine" "letters_told") (mVar 0) [some (.val (.ins "Machine" (mcO a T))), some (.val x), some (.val p), none] = .ok (.ob (.val (.str a)), [some (.val (.ins "Machine" (mcO a T))), some (.val x), some (.val p), none]) := rfl
  have f2 : mOp1 (fFld "Machine" "stand_rows") (mVar 0) [some (.val (.ins "Machine" (mcO a T))), some (.val x), some (.val p), none] = .ok (.ob (.val (.lst (T.map rowD))), [some (.val (.ins "Machine" (mcO a T))), some (.val x), some (.val p), none]) := rfl
  unfold m_Machine_behind
  generalize mOp1 (fFld "Machine" "letters_told") (mVar 0) = A at f
  generalize mOp1 (fFld "Machine" "stand_rows") (mVar 0) = B at f2
  simp [f, f2, h, hp]
end
section
variable {a : List Nat} {T : List Row}
theorem mbehind_good (hT : Tab a.length T) (w : List Nat) (hw : ∀ c ∈ w, c ∈ a) (g : Nat) (hg : g < T.length) (h : mf_need_word [.val (.str a), .val (.str w), .val (.int 20000)] = .ok (.val .non) []) :
    mf_Machine_behind [.val (.ins "Machine" (mcO a T)), .val (.str w), .val (natD g)] = .ok (.val (natD (walk a T g w))) [] := by
  obtain ⟨⟨v, h1⟩, _⟩ := mwalk_ok hT w hw g hg
  have hle := hT.le
  have hn := number_int (g : Int) 0 ((T.length : Int) - 1)
  rw [decide_eq_true (by omega)] at hn
  have hn : mf_is_number [.val (natD g), .val (.int 0), .val (.int ((T.length : Int) - 1))] = .ok (.val (.bl true)) [] := hn
  unfold mf_Machine_behind
  rw [mDef_eq]
  have f := fld_abc (a := a) (T := T) (w := w) (p := natD g) (v := none)
  have f2 := fld_rows (a := a) (T := T) (w := w) (p := natD g) (v := none)
  have e2 : m_Machine_behind (ME3 a T w (natD g) none) = .rt (.ob (.val (natD (walk a T g w)))) (ME3 a T w (natD (walk a T g w)) v) := by
    unfold m_Machine_behind
    rw [show mFor (mItems (mVar 1)) (.nm 3) (mSet 2 (mOp2 fIx (mOp2 fIx (mOp2 fIx (mOp1 (fFld "Machine" "stand_rows") (mVar 0)) (mVar 2)) (mC (.int 1))) (mBM "str" fSIndex (mOp1 (fFld "Machine" "letters_told") (mVar 0)) (mCons (mVar 3) (mNil))))) = mFor (mItems (mVar 1)) (.nm 3) bStep from rfl]
    generalize mFor (mItems (mVar 1)) (.nm 3) bStep = C at h1
    generalize mOp1 (fFld "Machine" "letters_told") (mVar 0) = A at f
    generalize mOp1 (fFld "Machine" "stand_rows") (mVar 0) = B at f2
    simp [f, f2, h, hn, h1]
  exact (congrArg (endF _) e2).trans rfl
end
end SW

namespace SW
open PySem L2
/-! k08: _law_said -/
def TOLD : List Nat := [116, 111, 108, 100]
def WORD : List Nat := [119, 111, 114, 100]
def NUMB : List Nat := [110, 117, 109, 98, 101, 114]
def bSd1 (c : Nat → MF) : MS := mAsg (.tp [.nm 1, .nm 2]) (mTup (mCons (mC .non) (mCons (mC .non) (mNil))))
def bSd2 (c : Nat → MF) : MS := mTryKeep (fun c => ([("NoLetters", true), ("NoWord", true), ("NoMachine", true), ("NoNumber", true)] : List (Str × Bool)).lookup c) 3 2 (mSet 1 (mClo 0 0 [] (c 0) mNil))
def bSd3 (c : Nat → MF) : MS := mIfS (mBool (mOp2 fIsN (mVar 2) (mC .non))) (mRet (mTup (mCons (mC (.str [116, 111, 108, 100])) (mCons (mVar 1) (mNil))))) (mNext)
def bSd4 (c : Nat → MF) : MS := mSet 4 (mLst (mCons (mIsx [("NoLetters", false), ("NoWord", true), ("NoMachine", false), ("NoNumber", false)] (mVar 2)) (mCons (mIsx [("NoLetters", false), ("NoWord", false), ("NoMachine", false), ("NoNumber", true)] (mVar 2)) (mNil))))
def bSd5 (c : Nat → MF) : MS := mExpr (mAppend 4 (mIsx [("NoLetters", true), ("NoWord", false), ("NoMachine", true), ("NoNumber", false)] (mVar 2)))
def bSd6 (c : Nat → MF) : MS := mIfS (mOr (mBool (mOp2 fNe (mBM "list" fCount (mVar 4) (mCons (mC (.bl true)) (mNil))) (mC (.int 1)))) (mNot (mTru (mIsx [("NoLetters", true), ("NoWord", true), ("NoMachine", true), ("NoNumber", true)] (mVar 2))))) (mRet (mC (.str [111, 116, 104, 101, 114]))) (mNext)
def bSd7 (c : Nat → MF) : MS := mRet (mOp2 fIx (mLst (mCons (mC (.str [119, 111, 114, 100])) (mCons (mC (.str [110, 117, 109, 98, 101, 114])) (mCons (mC (.str [111, 116, 104, 101, 114])) (mNil))))) (mBM "list" fIndex (mVar 4) (mCons (mC (.bl true)) (mNil))))
def bSd (c : Nat → MF) : MS := mSeq (bSd1 c) (mSeq (bSd2 c) (mSeq (bSd3 c) (mSeq (bSd4 c) (mSeq (bSd5 c) (mSeq (bSd6 c) ((bSd7 c)))))))
theorem bSd_is (c : Nat → MF) : m_zlaw_said c = (bSd c) := rfl
theorem seq_rt {a b : MS} {e e1 : Env} {v : Vr} (h1 : a e = .rt v e1) : mSeq a b e = .rt v e1 := by
  rw [mSeq_eq, h1]
abbrev SdE (v1 v2 v4 : Option O) : Env := [some (.fn 0), v1, v2, none, v4]
theorem sd1_ok (c : Nat → MF) : bSd1 c (SdE none none none) = .nx (SdE (some (.val .non)) (some (.val .non)) none) := by
  have l2 : 2 ≤ LIM := le_lim (by decide)
  simp [bSd1, l2]
theorem sd2_ok {c : Nat → MF} {d : D} (h : c 0 [] = .ok (.val d) []) : bSd2 c (SdE (some (.val .non)) (some (.val .non)) none) = .nx (SdE (some (.val d)) (some (.val .non)) none) := by
  have e : mSet 1 (mClo 0 0 [] (c 0) mNil) (SdE (some (.val .non)) (some (.val .non)) none) = .nx (SdE (some (.val d)) (some (.val .non)) none) := by
    simp [mClo, h]
  unfold bSd2 mTryKeep
  rw [e]
theorem sd2_exc {c : Nat → MF} {X : Str} (h : c 0 [] = .exc X [] []) (hX : ([("NoLetters", true), ("NoWord", true), ("NoMachine", true), ("NoNumber", true)] : List (Str × Bool)).lookup X = some true) : bSd2 c (SdE (some (.val .non)) (some (.val .non)) none) = .nx (SdE (some (.val .non)) (some (.val (.xc X))) none) := by
  have e : mSet 1 (mClo 0 0 [] (c 0) mNil) (SdE (some (.val .non)) (some (.val .non)) none) = .exc X [] (SdE (some (.val .non)) (some (.val .non)) none) := by
    simp [mClo, h]
  unfold bSd2 mTryKeep
  rw [e]
  simp only [hX]
  rfl
theorem isx_ok {tab : List (Str × Bool)} {env : Env} {i : Nat} {X : Str} {b : Bool} (hi : env[i]? = some (some (.val (.xc X)))) (h : tab.lookup X = some b) : mIsx tab (mVar i) env = .ok (.ob (.val (.bl b)), env) := by
  unfold mIsx
  rw [var_ok hi]
  simp [h]
theorem sd_exc {c : Nat → MF} {X : Str} {m1 m2 m3 : Bool} {r : D} (h : c 0 [] = .exc X [] []) (h0 : ([("NoLetters", true), ("NoWord", true), ("NoMachine", true), ("NoNumber", true)] : List (Str × Bool)).lookup X = some true)
    (h1 : ([("NoLetters", false), ("NoWord", true), ("NoMachine", false), ("NoNumber", false)] : List (Str × Bool)).lookup X = some m1)
    (h2 : ([("NoLetters", false), ("NoWord", false), ("NoMachine", false), ("NoNumber", true)] : List (Str × Bool)).lookup X = some m2)
    (h3 : ([("NoLetters", true), ("NoWord", false), ("NoMachine", true), ("NoNumber", false)] : List (Str × Bool)).lookup X = some m3)
    (hc : fCount (.lst [.bl m1, .bl m2, .bl m3]) [.bl true] = some (.val (.int 1))) {i : Int} (hi : fIndex (.lst [.bl m1, .bl m2, .bl m3]) [.bl true] = some (.val (.int i))) (hr : fIx (.lst [.str WORD, .str NUMB, .str [111, 116, 104, 101, 114]]) (.int i) = some (.val r)) :
    mf_zlaw_said c [.fn 0] = .ok (.val r) [] := by
  have l2 : 2 ≤ LIM := le_lim (by decide)
  have l3 : 3 ≤ LIM := le_lim (by decide)
  have l4 : 2 < LIM := by decide
  have e3 : bSd3 c (SdE (some (.val .non)) (some (.val (.xc X))) none) = .nx (SdE (some (.val .non)) (some (.val (.xc X))) none) := rfl
  have e4 : bSd4 c (SdE (some (.val .non)) (some (.val (.xc X))) none) = .nx (SdE (some (.val .non)) (some (.val (.xc X))) (some (.lst [.bl m1, .bl m2]))) := by
    have x1 := isx_ok (env := SdE (some (.val .non)) (some (.val (.xc X))) none) (i := 2) rfl h1
    have x2 := isx_ok (env := SdE (some (.val .non)) (some (.val (.xc X))) none) (i := 2) rfl h2
    unfold bSd4
    rw [mSet_eq, mLst_eq, mCons_eq, x1, bind_ok, mCons_eq, x2]
    simp [l2]
  have e5 : bSd5 c (SdE (some (.val .non)) (some (.val (.xc X))) (some (.lst [.bl m1, .bl m2]))) = .nx (SdE (some (.val .non)) (some (.val (.xc X))) (some (.lst [.bl m1, .bl m2, .bl m3]))) := by
    have x1 := isx_ok (env := SdE (some (.val .non)) (some (.val (.xc X))) (some (.lst [.bl m1, .bl m2]))) (i := 2) rfl h3
    unfold bSd5
    rw [mExpr_eq, mAppend_eq]
    generalize mIsx [("NoLetters", true), ("NoWord", false), ("NoMachine", true), ("NoNumber", false)] (mVar 2) = A at x1
    simp [x1, l4]
  have b6 : mBM "list" fCount (mVar 4) (mCons (mC (.bl true)) (mNil)) (SdE (some (.val .non)) (some (.val (.xc X))) (some (.lst [.bl m1, .bl m2, .bl m3]))) = .ok (.ob (.val (.int 1)), SdE (some (.val .non)) (some (.val (.xc X))) (some (.lst [.bl m1, .bl m2, .bl m3]))) := by
    simp [mBM, tyD, hc]
  have b7 : mBM "list" fIndex (mVar 4) (mCons (mC (.bl true)) (mNil)) (SdE (some (.val .non)) (some (.val (.xc X))) (some (.lst [.bl m1, .bl m2, .bl m3]))) = .ok (.ob (.val (.int i)), SdE (some (.val .non)) (some (.val (.xc X))) (some (.lst [.bl m1, .bl m2, .bl m3]))) := by
    simp [mBM, tyD, hi]
  have e6 : bSd6 c (SdE (some (.val .non)) (some (.val (.xc X))) (some (.lst [.bl m1, .bl m2, .bl m3]))) = .nx (SdE (some (.val .non)) (some (.val (.xc X))) (some (.lst [.bl m1, .bl m2, .bl m3]))) := by
    have x1 := isx_ok (env := SdE (some (.val .non)) (some (.val (.xc X))) (some (.lst [.bl m1, .bl m2, .bl m3]))) (i := 2) rfl h0
    unfold bSd6
    generalize mIsx [("NoLetters", true), ("NoWord", true), ("NoMachine", true), ("NoNumber", true)] (mVar 2) = A at x1
    generalize mBM "list" fCount (mVar 4) (mCons (mC (.bl true)) (mNil)) = B at b6
    simp [x1, b6]
  have e7 : bSd7 c (SdE (some (.val .non)) (some (.val (.xc X))) (some (.lst [.bl m1, .bl m2, .bl m3]))) = .rt (.ob (.val r)) (SdE (some (.val .non)) (some (.val (.xc X))) (some (.lst [.bl m1, .bl m2, .bl m3]))) := by
    have hr : fIx (.lst [.str [119, 111, 114, 100], .str [110, 117, 109, 98, 101, 114], .str [111, 116, 104, 101, 114]]) (.int i) = some (.val r) := hr
    unfold bSd7
    generalize mBM "list" fIndex (mVar 4) (mCons (mC (.bl true)) (mNil)) = B at b7
    simp [b7, l3, hr]
  have e0 : m_zlaw_said c (SdE none none none) = .rt (.ob (.val r)) (SdE (some (.val .non)) (some (.val (.xc X))) (some (.lst [.bl m1, .bl m2, .bl m3]))) :=
    seq_nx (sd1_ok c) (seq_nx (sd2_exc h h0) (seq_nx e3 (seq_nx e4 (seq_nx e5 (seq_nx e6 e7)))))
  unfold mf_zlaw_said
  rw [mDef_eq]
  exact (congrArg (endF _) e0).trans rfl
theorem said_told (c : Nat → MF) (d : D) (h : c 0 [] = .ok (.val d) []) : mf_zlaw_said c [.fn 0] = .ok (.val (.tup [.str TOLD, d])) [] := by
  have l2 : 2 ≤ LIM := le_lim (by decide)
  have e3 : bSd3 c (SdE (some (.val d)) (some (.val .non)) none) = .rt (.ob (.val (.tup [.str TOLD, d]))) (SdE (some (.val d)) (some (.val .non)) none) := by
    have t : mBool (mOp2 fIsN (mVar 2) (mC .non)) (SdE (some (.val d)) (some (.val .non)) none) = .ok (true, SdE (some (.val d)) (some (.val .non)) none) := rfl
    unfold bSd3
    rw [mIfS_eq, t, sb_ok', if_pos rfl]
    simp [l2, TOLD]
  have e0 : m_zlaw_said c (SdE none none none) = .rt (.ob (.val (.tup [.str TOLD, d]))) (SdE (some (.val d)) (some (.val .non)) none) :=
    seq_nx (sd1_ok c) (seq_nx (sd2_ok h) (seq_rt e3))
  unfold mf_zlaw_said
  rw [mDef_eq]
  exact (congrArg (endF _) e0).trans rfl
theorem said_word (c : Nat → MF) (h : c 0 [] = .exc "NoWord" [] []) : mf_zlaw_said c [.fn 0] = .ok (.val (.str WORD)) [] :=
  sd_exc (i := 0) h (by decide +kernel) (by decide +kernel : _ = some true) (by decide +kernel : _ = some false) (by decide +kernel : _ = some false) rfl rfl rfl
theorem said_number (c : Nat → MF) (h : c 0 [] = .exc "NoNumber" [] []) : mf_zlaw_said c [.fn 0] = .ok (.val (.str NUMB)) [] :=
  sd_exc (i := 1) h (by decide +kernel) (by decide +kernel : _ = some false) (by decide +kernel : _ = some true) (by decide +kernel : _ = some false) rfl rfl rfl
end SW

namespace SW
open PySem L2
theorem call4 {env : Env} {d1 d2 d3 d4 : D} {o : O} {m1 m2 m3 m4 : ME} (f : MF) (h1 : m1 env = .ok (.ob (.val d1), env)) (h2 : m2 env = .ok (.ob (.val d2), env)) (h3 : m3 env = .ok (.ob (.val d3), env)) (h4 : m4 env = .ok (.ob (.val d4), env)) (h : f [.val d1, .val d2, .val d3, .val d4] = .ok o []) :
    mCall f [false, false, false, false] [] (mCons m1 (mCons m2 (mCons m3 (mCons m4 (mNil))))) env = .ok (.ob o, env) := by
  simp [h1, h2, h3, h4, h]
/-! k08: drawn words, what is given -/
theorem token_ok (s : Sd) (k m : Nat) (h : s.ok (k + m + 1)) (a : List Nat) (ha : a ≠ []) (hl : a.length ≤ 1000) (hm : m ≤ 1000) :
    ∃ (w : List Nat) (s' : Sd), mf_zlaw_token [stO s, .val (.str a), .val (.int m)] = .ok (.val (.str w)) [stO s'] ∧ s'.ok k ∧ w.length ≤ m ∧ ∀ c ∈ w, c ∈ a := by
  obtain ⟨i, s1, h1, h2, h3, h4⟩ := take_ok2 s (k + m) h (m + 1) (by omega) (by omega)
  obtain ⟨n, rfl⟩ : ∃ n : Nat, i = n := ⟨i.toNat, by omega⟩
  obtain ⟨acc, e', h5, w, s', rfl, hw, hk, hc, v, rfl⟩ := comp_inv (t := .nm 4) (vs := [4]) (mt := mYes) (me := mCall mf_zlaw_pick [true, false] [] (mCons (mVar 0) (mCons (mVar 1) (mNil)))) (fun j : Nat => D.int (j : Int))
    (fun done acc e => ∃ (w : List Nat) (s' : Sd), acc = w.map (fun c => D.str [c]) ∧ w.length = done.length ∧ s'.ok (k + (m - done.length)) ∧ (∀ c ∈ w, c ∈ a) ∧ ∃ v, e = [some (stO s'), some (.val (.str a)), some (.val (.int m)), some (.val (.int n)), v])
    n (le_lim (by omega)) (List.range n) [] [] [some (stO s1), some (.val (.str a)), some (.val (.int m)), some (.val (.int n)), none] (by simp) (Nat.le_refl _)
    (fun x hx done acc e hd => by
      rintro ⟨w, s', rfl, hw, hk, hc, v, rfl⟩
      obtain ⟨c, s2, h6, h7, h8⟩ := pick_str2 s' (k + (m - (done.length + 1))) (hk.le (by omega)) a ha hl
      refine ⟨[some (stO s'), some (.val (.str a)), some (.val (.int m)), some (.val (.int n)), some (.val (.int (x : Int)))], by simp [wipeE], .inr ⟨_, .ob (.val (.str [c])), [some (stO s2), some (.val (.str a)), some (.val (.int m)), some (.val (.int n)), some (.val (.int (x : Int)))], .str [c], [some (stO s2), some (.val (.str a)), some (.val (.int m)), some (.val (.int n)), some (.val (.int (x : Int)))], rfl, (callS2 (s2 := s2) mf_zlaw_pick rfl rfl h6 rfl), rfl, w ++ [c], s2, by simp, by simp [hw], by simpa using h7, ?_, _, rfl⟩⟩
      intro d hd
      rcases List.mem_append.mp hd with hd | hd
      · exact hc d hd
      · simp at hd
        subst hd
        exact h8)
    ⟨[], s1, rfl, rfl, by simpa using h2, by simp, none, rfl⟩
  simp only [List.nil_append, List.length_range] at hw hk
  refine ⟨w, s', ?_, hk.le (by omega), by omega, hc⟩
  have e1 : mSet 3 (mCall mf_zlaw_take [true, false] [] (mCons (mVar 0) (mCons (mOp2 fAdd (mVar 2) (mC (.int 1))) (mNil)))) [some (stO s), some (.val (.str a)), some (.val (.int m)), none, none] = .nx [some (stO s1), some (.val (.str a)), some (.val (.int m)), some (.val (.int n)), none] :=
    (set_ok (callS2 (s2 := s1) mf_zlaw_take rfl (op2_ok rfl rfl rfl) h1 rfl) (by simp)).trans rfl
  have e2 : mComp (mRange1 (mCons (mVar 3) (mNil))) (.nm 4) [4] (mYes) (mCall mf_zlaw_pick [true, false] [] (mCons (mVar 0) (mCons (mVar 1) (mNil)))) [some (stO s1), some (.val (.str a)), some (.val (.int m)), some (.val (.int n)), none] =
      .ok (.ob (.lst (w.map fun c => .str [c])), [some (stO s'), some (.val (.str a)), some (.val (.int m)), some (.val (.int n)), none]) := by
    rw [mComp_eq, range_ok (n := n) rfl (by omega)]
    simp only [bind_ok, h5]
    simp [backE, wipeE]
  have e3 : m_zlaw_token [some (stO s), some (.val (.str a)), some (.val (.int m)), none, none] = .rt (.ob (.val (.str w))) [some (stO s'), some (.val (.str a)), some (.val (.int m)), some (.val (.int n)), none] := by
    refine seq_nx e1 ?_
    generalize mComp (mRange1 (mCons (mVar 3) (mNil))) (.nm 4) [4] (mYes) (mCall mf_zlaw_pick [true, false] [] (mCons (mVar 0) (mCons (mVar 1) (mNil)))) = A at e2
    simp [mJoin, isStr, e2, fJoin_one w (by omega)]
  unfold mf_zlaw_token
  rw [mDef_eq]
  exact (congrArg (endF _) e3).trans rfl
theorem is_token_other {a : List Nat} {x : D} {t : String} (ht : tyD x = some t) (hs : isTy t "str" = false) : mf_zlaw_is_token [.val (.str a), .val x] = .ok (.val (.bl false)) [] := by
  have hI : mIsi "str" (mVar 1) [some (.val (.str a)), some (.val x), none] = .ok (.ob (.val (.bl false)), [some (.val (.str a)), some (.val x), none]) := by simp [ht, hs]
  have e2 : m_zlaw_is_token [some (.val (.str a)), some (.val x), none] = .rt (.ob (.val (.bl false))) [some (.val (.str a)), some (.val x), none] := by
    unfold m_zlaw_is_token
    generalize mIsi "str" (mVar 1) = C at hI
    simp [hI]
  unfold mf_zlaw_is_token
  rw [mDef_eq]
  exact (congrArg (endF _) e2).trans rfl
inductive Giv (a : List Nat) : D → Prop
  | str (w : List Nat) (l : w.length ≤ 100000) (few : disN (w.map fun c => [c]).reverse < 4000) : Giv a (.str w)
  | oth (x : D) (t : String) (ht : tyD x = some t) (hs : isTy t "str" = false) (hg : gd a x = false) : Giv a x
inductive Plc : D → Prop
  | int (i : Int) : Plc (.int i)
  | oth (x : D) (h : nonum x = true) : Plc x
def wrd : D → List Nat
  | .str w => w
  | _ => []
theorem gd_str {a : List Nat} {x : D} (h : gd a x = true) : ∃ w, x = .str w ∧ w.length ≤ 20000 ∧ ∀ c ∈ w, c ∈ a := by
  cases x with
  | str w =>
    simp only [gd, Bool.and_eq_true, decide_eq_true_eq, List.all_eq_true] at h
    exact ⟨w, rfl, h.1, h.2⟩
  | _ => simp [gd] at h
section
variable {a : List Nat} {T : List Row} {x p : D}
theorem giv_token (ha : Abc a) (h : Giv a x) : mf_zlaw_is_token [.val (.str a), .val x] = .ok (.val (.bl (gd a x))) [] := by
  cases h with
  | str w l few => exact is_token_str (ha.lt.imp fun h => Nat.ne_of_lt h) (by have := ha.le; omega) l few
  | oth _ t ht hs hg => rw [hg]; exact is_token_other ht hs
theorem giv_word (ha : Abc a) (h : Giv a x) : mf_is_word_to [.val (.str a), .val x, .val (.int 20000)] = .ok (.val (.bl (gd a x))) [] := by
  cases h with
  | str w l few => exact word_to_str (by have := ha.le; omega) l
  | oth _ t ht hs hg => rw [hg]; exact word_to_other ht hs
theorem plc_stood (hT : T.length ≤ 60) (h : Plc p) : mf_zlaw_is_stood [.val (.lst (T.map rowD)), .val p] = .ok (.val (.bl (sd T.length p).isSome)) [] := by
  cases h with
  | int i =>
    rw [stood_int T hT]
    by_cases q : 0 ≤ i ∧ i < T.length <;> simp [sd, q]
  | oth _ h =>
    rw [stood_other T h]
    cases p <;> simp [nonum] at h <;> simp [sd]
def dueD (a : List Nat) (T : List Row) (x p : D) : D := if gd a x = true then (match sd T.length p with
  | some g => .tup [.str TOLD, natD (walk a T g (wrd x))]
  | none => .str NUMB) else .str WORD
def ends (a : List Nat) (T : List Row) (x p : D) : Nat := match sd T.length p with
  | some g => (tos T (walk a T g (wrd x))).length
  | none => 0
abbrev MOd (a : List Nat) (T : List Row) : D := .ins "Machine" (mcO a T)
theorem sd_some {n g : Nat} (h : sd n p = some g) : p = natD g ∧ g < n := by
  cases p with
  | int i =>
    simp only [sd] at h
    split at h
    · rename_i q
      cases h
      have : (i.toNat : Int) = i := by omega
      exact ⟨by unfold natD; rw [this], by omega⟩
    · cases h
  | _ => simp [sd] at h
theorem beh_cases (ha : Abc a) (hT : Tab a.length T) (hx : Giv a x) (hp : Plc p) :
    (gd a x = false ∧ mf_Machine_behind [.val (MOd a T), .val x, .val p] = .exc "NoWord" [] []) ∨
    (gd a x = true ∧ sd T.length p = none ∧ mf_Machine_behind [.val (MOd a T), .val x, .val p] = .exc "NoNumber" [] []) ∨
    (gd a x = true ∧ ∃ g w, x = .str w ∧ (∀ c ∈ w, c ∈ a) ∧ w.length ≤ 20000 ∧ sd T.length p = some g ∧ g < T.length ∧ p = natD g ∧ walk a T g w < T.length ∧ mf_Machine_behind [.val (MOd a T), .val x, .val p] = .ok (.val (natD (walk a T g w))) []) := by
  have hw := giv_word ha hx
  cases hg : gd a x with
  | false =>
    rw [hg] at hw
    exact .inl ⟨rfl, mbehind_word (need_word_bad hw)⟩
  | true =>
    rw [hg] at hw
    have nw := need_word_good hw
    refine .inr ?_
    cases hs : sd T.length p with
    | none =>
      refine .inl ⟨rfl, rfl, mbehind_number hT.le nw ?_⟩
      cases hp with
      | int i =>
        rw [number_int]
        have q : ¬ (0 ≤ i ∧ i < T.length) := fun q => by simp [sd, q] at hs
        rw [decide_eq_false (by omega)]
      | oth _ h => exact number_other h _ _
    | some g =>
      obtain ⟨w, rfl, lw, hwa⟩ := gd_str hg
      obtain ⟨rfl, hgl⟩ := sd_some hs
      exact .inr ⟨rfl, g, w, rfl, hwa, lw, rfl, hgl, rfl, (mwalk_ok hT w hwa g hgl).2, mbehind_good hT w hwa g hgl nw⟩
theorem said_beh (ha : Abc a) (hT : Tab a.length T) (hx : Giv a x) (hp : Plc p) (c : Nat → MF) (h : c 0 [] = mf_Machine_behind [.val (MOd a T), .val x, .val p]) : mf_zlaw_said c [.fn 0] = .ok (.val (dueD a T x p)) [] := by
  unfold dueD
  rcases beh_cases ha hT hx hp with ⟨h1, h2⟩ | ⟨h1, h2, h3⟩ | ⟨h1, g, w, rfl, _, _, h2, _, rfl, _, h3⟩
  · rw [h1, if_neg (by decide)]
    exact said_word c (h.trans h2)
  · rw [h1, if_pos rfl, h2]
    exact said_number c (h.trans h3)
  · rw [h1, if_pos rfl, h2]
    exact said_told c _ (h.trans h3)
def endB (T : List Row) (g : Nat) : Bool := ((T[g]?).map (·.1)).getD false
def dueT (a : List Nat) (T : List Row) (x : D) : D := if gd a x = true then .tup [.str TOLD, .bl (endB T (walk a T 0 (wrd x)))] else .str WORD
theorem ix_end {g : Nat} (hg : g < T.length) : fIx (rowD T[g]) (.int 0) = some (.val (.bl (endB T g))) := by
  unfold endB
  rw [List.getElem?_eq_getElem hg]
  rfl
theorem takes_cases (ha : Abc a) (hT : Tab a.length T) (hx : Giv a x) :
    (gd a x = false ∧ mf_Machine_takes [.val (MOd a T), .val x] = .exc "NoWord" [] []) ∨
    (gd a x = true ∧ mf_Machine_takes [.val (MOd a T), .val x] = .ok (.val (.bl (endB T (walk a T 0 (wrd x))))) []) := by
  have f : mOp1 (fFld "Machine" "stand_rows") (mVar 0) [some (.val (MOd a T)), some (.val x)] = .ok (.ob (.val (.lst (T.map rowD))), [some (.val (MOd a T)), some (.val x)]) := rfl
  have q1 : (("behind" : Str) == "letters_told") = false := by decide
  have q2 : (("behind" : Str) == "stand_rows") = false := by decide
  have hz : sd T.length (.int 0) = some 0 := by
    have := hT.pos
    show (if (0 : Int) ≤ 0 ∧ (0 : Int) < T.length then some (0 : Int).toNat else none) = _
    rw [if_pos ⟨by decide, by omega⟩]
    rfl
  rcases beh_cases ha hT hx (.int 0) with ⟨h1, h2⟩ | ⟨h1, h2, h3⟩ | ⟨h1, g, w, rfl, _, _, h2, hgl, e, hlow, h3⟩
  · refine .inl ⟨h1, ?_⟩
    have m : mMeth "Machine" "behind" mf_Machine_behind [false, false] [.int 0] (mVar 0) (mCons (mVar 1) (mNil)) [some (.val (MOd a T)), some (.val x)] = .exc "NoWord" [] [some (.val (MOd a T)), some (.val x)] := by
      simp [List.lookup, q1, q2, h2]
    unfold mf_Machine_takes
    rw [mDef_eq]
    unfold m_Machine_takes
    generalize mMeth "Machine" "behind" mf_Machine_behind [false, false] [.int 0] (mVar 0) (mCons (mVar 1) (mNil)) = B at m
    generalize mOp1 (fFld "Machine" "stand_rows") (mVar 0) = A at f
    simp [f, m]
  · rw [hz] at h2
    cases h2
  · rw [hz] at h2
    cases h2
    refine .inr ⟨h1, ?_⟩
    have m : mMeth "Machine" "behind" mf_Machine_behind [false, false] [.int 0] (mVar 0) (mCons (mVar 1) (mNil)) [some (.val (MOd a T)), some (.val (.str w))] = .ok (.ob (.val (natD (walk a T 0 w))), [some (.val (MOd a T)), some (.val (.str w))]) := by
      have h3 : mf_Machine_behind [.val (MOd a T), .val (.str w), .val (.int 0)] = .ok (.val (natD (walk a T 0 w))) [] := h3
      simp [List.lookup, q1, q2, h3]
    have hr := ix_row hlow
    have he := ix_end hlow
    unfold mf_Machine_takes
    rw [mDef_eq]
    unfold m_Machine_takes
    generalize mMeth "Machine" "behind" mf_Machine_behind [false, false] [.int 0] (mVar 0) (mCons (mVar 1) (mNil)) = B at m
    generalize mOp1 (fFld "Machine" "stand_rows") (mVar 0) = A at f
    have e1 : mOp2 fIx (mOp2 fIx A B) (mC (.int 0)) [some (.val (MOd a T)), some (.val (.str w))] = .ok (.ob (.val (.bl (endB T (walk a T 0 w)))), [some (.val (MOd a T)), some (.val (.str w))]) := op2_ok (op2_ok f m hr) rfl he
    have e2 : mRet (mOp2 fIx (mOp2 fIx A B) (mC (.int 0))) [some (.val (MOd a T)), some (.val (.str w))] = .rt (.ob (.val (.bl (endB T (walk a T 0 w))))) [some (.val (MOd a T)), some (.val (.str w))] := by
      rw [mRet_eq, e1]
      rfl
    exact (congrArg (endF _) e2).trans rfl
theorem said_takes (ha : Abc a) (hT : Tab a.length T) (hx : Giv a x) (c : Nat → MF) (h : c 0 [] = mf_Machine_takes [.val (MOd a T), .val x]) : mf_zlaw_said c [.fn 0] = .ok (.val (dueT a T x)) [] := by
  unfold dueT
  rcases takes_cases ha hT hx with ⟨h1, h2⟩ | ⟨h1, h2⟩
  · rw [h1, if_neg (by decide)]
    exact said_word c (h.trans h2)
  · rw [h1, if_pos rfl]
    exact said_told c _ (h.trans h2)
end
end SW

namespace SW
open PySem L2
/-! k08: the turn -/
def bL1 : MS := mSet 1 (mCall mf_zlaw_begun [true] [] (mCons (mVar 0) (mNil)))
def bL2 : MS := mSet 2 (mCall mf_zlaw_abc [true, false, false] [] (mCons (mVar 1) (mCons (mC (.int 1)) (mCons (mC (.int 4)) (mNil)))))
def bL3 : MS := mSet 3 (mCall mf_zlaw_table [true, false, false] [] (mCons (mVar 1) (mCons (mVar 2) (mCons (mC (.int 8)) (mNil)))))
def bL4 : MS := mSet 4 (mNew "Machine" mf_Machine___init__ [false, false] [] (mCons (mVar 2) (mCons (mVar 3) (mNil))))
def bL5 : MS := mSet 5 (mOp2 fIx (mComp (mItems (mC (.str [120, 121, 122, 119, 118]))) (.nm 16) [16] (mBool (mOp2 (fIn true) (mVar 16) (mVar 2))) (mVar 16)) (mC (.int 0)))
def bL6c1 : MS := mSet 7 (mCall mf_zlaw_token [true, false, false] [] (mCons (mVar 1) (mCons (mVar 2) (mCons (mC (.int 12)) (mNil)))))
def bL6c2 : MS := mSet 8 (mLst (mCons (mVar 7) (mCons (mVar 7) (mCons (mVar 7) (mCons (mOp2 fAdd (mVar 7) (mVar 5)) (mCons (mOp2 fAdd (mVar 5) (mVar 7)) (mCons (mC .non) (mCons (mC (.int 7)) (mCons (mLst (mCons (mVar 7) (mNil))) (mCons (mTup (mNil)) (mNil)))))))))))
def bL6c3 : MS := mSet 8 (mOp2 fAdd (mVar 8) (mLst (mCons (mOp2 fAdd (mOp1 fUpper (mVar 7)) (mC (.str [65]))) (mCons (mC (.str [32])) (mNil)))))
def bL6c4 : MS := mIfS (mAnd (mBool (mOp2 fEq (mVar 6) (mC (.int 0)))) (mBool (mOp2 fEq (mCall mf_zlaw_take [true, false] [] (mCons (mVar 1) (mCons (mC (.int 8)) (mNil)))) (mC (.int 0))))) (mSet 8 (mLst (mCons (mOp2 fMul (mOp2 fIx (mVar 2) (mC (.int 0))) (mC (.int 20000))) (mCons (mOp2 fMul (mOp2 fIx (mVar 2) (mOp1 fNeg (mC (.int 1)))) (mC (.int 20001))) (mNil))))) (mNext)
def bL6c5 : MS := mSet 9 (mCall mf_zlaw_pick [true, false] [] (mCons (mVar 1) (mCons (mVar 8) (mNil))))
def bL6c6 : MS := mSet 10 (mLst (mCons (mOp1 fNeg (mC (.int 1))) (mCons (mCB fLen (mCons (mVar 3) (mNil))) (mCons (mC (.bl true)) (mCons (mC .non) (mCons (mC (.str [48])) (mCons (mTup (mNil)) (mCons (mOp2 fPow (mC (.int 10)) (mC (.int 20))) (mCons (mC (.bl false)) (mNil))))))))))
def bL6c7 : MS := mSet 11 (mCall mf_zlaw_pick [true, false] [] (mCons (mVar 1) (mCons (mOp2 fAdd (mOp2 fMul (mOp1 fListRg (mCB fLen (mCons (mVar 3) (mNil)))) (mC (.int 3))) (mVar 10)) (mNil))))
def bL6c8 : MS := mSet 12 (mCall mf_zlaw_is_token [false, false] [] (mCons (mVar 2) (mCons (mVar 9) (mNil))))
def bL6c9 : MS := mSet 13 (mIf (mNot (mTru (mVar 12))) (mC (.str [119, 111, 114, 100])) (mC (.str [110, 117, 109, 98, 101, 114])))
def bL6c10 : MS := mIfS (mAnd (mTru (mVar 12)) (mTru (mCall mf_zlaw_is_stood [false, false] [] (mCons (mVar 3) (mCons (mVar 11) (mNil)))))) (mSet 13 (mTup (mCons (mC (.str [116, 111, 108, 100])) (mCons (mCall mf_zlaw_behind [false, false, false, false] [] (mCons (mVar 2) (mCons (mVar 3) (mCons (mVar 11) (mCons (mVar 9) (mNil)))))) (mNil))))) (mNext)
def bL6c11 : MS := mIfS (mBool (mOp2 fNe (mCallC mf_zlaw_said (closL lams_law [some 0]) [some 0] [false] [] (mCons (mLam 0 [9, 4, 11]) (mNil))) (mVar 13))) (mRet (mC (.bl false))) (mNext)
def bL6c12 : MS := mIfS (mBool (mOp2 fNe (mCallC mf_zlaw_said (closL lams_law [some 1]) [some 1] [false] [] (mCons (mLam 1 [4, 11, 9]) (mNil))) (mVar 13))) (mRet (mC (.bl false))) (mNext)
def bL6c13 : MS := mSet 13 (mIf (mTru (mVar 12)) (mTup (mCons (mC (.str [116, 111, 108, 100])) (mCons (mCall mf_zlaw_behind [false, false, false, false] [] (mCons (mVar 2) (mCons (mVar 3) (mCons (mC (.int 0)) (mCons (mVar 9) (mNil)))))) (mNil)))) (mC (.str [119, 111, 114, 100])))
def bL6c14 : MS := mIfS (mBool (mOp2 fNe (mCallC mf_zlaw_said (closL lams_law [some 2]) [some 2] [false] [] (mCons (mLam 2 [9, 4]) (mNil))) (mVar 13))) (mRet (mC (.bl false))) (mNext)
def bL6c15 : MS := mSet 13 (mIf (mTru (mVar 12)) (mTup (mCons (mC (.str [116, 111, 108, 100])) (mCons (mOp2 fIx (mOp2 fIx (mVar 3) (mOp2 fIx (mVar 13) (mC (.int 1)))) (mC (.int 0))) (mNil)))) (mC (.str [119, 111, 114, 100])))
def bL6c16 : MS := mSet 14 (mLst (mCons (mCallC mf_zlaw_said (closL lams_law [some 3]) [some 3] [false] [] (mCons (mLam 3 [9, 4]) (mNil))) (mNil)))
def bL6c17 : MS := mExpr (mAppend 14 (mCallC mf_zlaw_said (closL lams_law [some 4]) [some 4] [false] [] (mCons (mLam 4 [4, 9]) (mNil))))
def bL6c18c : MS := mIfS (mOr (mBool (mOp2 fNe (mVar 15) (mVar 13))) (mBool (mOp2 fNe (mIsi "tuple" (mVar 15)) (mIsi "bool" (mOp2 fIx (mVar 15) (mC (.int 1))))))) (mRet (mC (.bl false))) (mNext)
def bL6c18 : MS := mFor (mItems (mVar 14)) (.nm 15) bL6c18c
def bL6c : MS := mSeq bL6c1 (mSeq bL6c2 (mSeq bL6c3 (mSeq bL6c4 (mSeq bL6c5 (mSeq bL6c6 (mSeq bL6c7 (mSeq bL6c8 (mSeq bL6c9 (mSeq bL6c10 (mSeq bL6c11 (mSeq bL6c12 (mSeq bL6c13 (mSeq bL6c14 (mSeq bL6c15 (mSeq bL6c16 (mSeq bL6c17 bL6c18))))))))))))))))
def bL6 : MS := mFor (mRange1 (mCons (mC (.int 12)) (mNil))) (.nm 6) bL6c
def bL7 : MS := mRet (mEqOwn "Machine" mf_Machine___eq__ (mVar 4) (mNew "Machine" mf_Machine___init__ [false, false] [] (mCons (mVar 2) (mCons (mVar 3) (mNil)))))
def bL : MS := mSeq bL1 (mSeq bL2 (mSeq bL3 (mSeq bL4 (mSeq bL5 (mSeq bL6 bL7)))))
theorem bL_is : m_law = bL := rfl
abbrev KE (ns : List Int) (s : Sd) (a : List Nat) (T : List Row) (v4 : Option O) (sg : List Nat) (v6 v7 v8 v9 v10 v11 v12 v13 v14 v15 : Option O) : Env := [some (.scr ns), some (stO s), some (.val (.str a)), some (.val (.lst (T.map rowD))), v4, some (.val (.str sg)), v6, v7, v8, v9, v10, v11, v12, v13, v14, v15, none]
theorem disN_le : ∀ l : List (List Nat), disN l ≤ l.length
  | [] => Nat.le_refl _
  | x :: r => by
    have := disN_le r
    unfold disN
    rw [List.length_cons]
    split <;> omega
theorem disN_same {c : List Nat} : ∀ l : List (List Nat), (∀ x ∈ l, x = c) → disN l ≤ 1
  | [], _ => Nat.zero_le _
  | x :: r, h => by
    have ih := disN_same r fun y hy => h y (List.mem_cons_of_mem _ hy)
    unfold disN
    split
    · exact ih
    · rename_i q
      cases r with
      | nil => simp [disN]
      | cons y r =>
        exact absurd (by rw [h x List.mem_cons_self, h y (List.mem_cons_of_mem _ List.mem_cons_self)]; exact List.mem_cons_self) q
theorem giv_short (a w : List Nat) (h : w.length < 4000) : Giv a (.str w) := .str w (by omega) (Nat.lt_of_le_of_lt (disN_le _) (by simpa using h))
theorem giv_reps (a : List Nat) (c n : Nat) (h : n ≤ 100000) : Giv a (.str (reps n [c])) := by
  have e : reps n [c] = List.replicate n c := by
    unfold reps
    clear h
    induction n with
    | zero => rfl
    | succ n ih => rw [List.replicate_succ, List.flatten_cons, ih, List.replicate_succ]; rfl
  rw [e]
  refine .str _ (by simpa using h) (Nat.lt_of_le_of_lt (disN_same (c := [c]) _ fun x hx => ?_) (by decide))
  obtain ⟨d, hd, rfl⟩ := List.mem_map.mp (List.mem_reverse.mp hx)
  rw [(List.mem_replicate.mp hd).2]
/-- a lambda handed over, names frozen by it -/
theorem callL1x {ds : List LamD} {mfc : (Nat → MF) → MF} {id : Nat} {d : LamD} {env e1 cap : Env} {r : D} (hid : ds[id]? = some d) (hf : frzSl env d.js = some e1) (hc : capOf e1 d.js = cap) (hok : capOk cap = true) (hp : d.ps = [])
    (h : ∀ c : Nat → MF, c 0 [] = endF [] (mRet d.me (cap ++ List.replicate (d.N.length - cap.length) none)) → mfc c [.fn 0] = .ok (.val r) []) :
    mCallC mfc (closL ds [some id]) [some id] [false] [] (mCons (mLam id d.js) mNil) env = .ok (.ob (.val r), e1) := by
  have hcl : closL ds [some id] e1 0 = some (mDefC d.N.length [] cap (mRet d.me)) := by
    unfold closL
    simp [hid, cloM, hc, hok, hp]
  have hcc := h (fun n => (closL ds [some id] e1 n).getD stuckF) (by
    rw [show (closL ds [some id] e1 0).getD stuckF = mDefC d.N.length [] cap (mRet d.me) from by rw [hcl]; rfl]
    unfold mDefC
    rw [if_pos ⟨rfl, rfl⟩]
    simp)
  have h0 : closOk [some id] (closL ds [some id] e1) = true := by
    simp [closOk, hcl]
  simp only [mCallC, mCons_eq, mNil_eq, mLam, hf, bind_ok, argsC, isFnV, if_true, h0, renum, List.append_nil, List.map_nil, hcc]
  rfl
theorem ne_nox {env e1 : Env} {m1 m2 : ME} {x : D} (h1 : m1 env = .ok (.ob (.val x), e1)) (h2 : m2 e1 = .ok (.ob (.val x), e1)) (h : fNe x x = some (.val (.bl false))) : mBool (mOp2 fNe m1 m2) env = .ok (false, e1) := by
  simp [h1, h2, h]
theorem ne_due (a : List Nat) (T : List Row) (x p : D) : fNe (dueD a T x p) (dueD a T x p) = some (.val (.bl false)) := by
  unfold dueD
  split
  · split
    · simp [fNe, plain, plains, eqD, eqDs, natD]
    · simp [fNe, plain, eqD]
  · simp [fNe, plain, eqD]
theorem ne_dueT (a : List Nat) (T : List Row) (x : D) : fNe (dueT a T x) (dueT a T x) = some (.val (.bl false)) := by
  unfold dueT
  split
  · simp [fNe, plain, plains, eqD, eqDs]
  · simp [fNe, plain, eqD]
section
variable {ns : List Int} {s : Sd} {a : List Nat} {T : List Row} {sg w : List Nat} {x p : D} {v4 v6 v7 v8 v9 v10 v11 v12 v13 v14 v15 : Option O}
theorem t1_ok (k : Nat) (h : s.ok (k + 13)) (ha : Abc a) : ∃ (w : List Nat) (s' : Sd), bL6c1 (KE ns s a T v4 sg v6 v7 v8 v9 v10 v11 v12 v13 v14 v15) = .nx (KE ns s' a T v4 sg v6 (some (.val (.str w))) v8 v9 v10 v11 v12 v13 v14 v15) ∧ s'.ok k ∧ w.length ≤ 12 ∧ ∀ c ∈ w, c ∈ a := by
  obtain ⟨w, s', h1, h2, h3, h4⟩ := token_ok s k 12 h a ha.ne (by have := ha.le; omega) (by decide)
  exact ⟨w, s', (set_ok (callS3 (s2 := s') mf_zlaw_token rfl rfl rfl h1 rfl) (by simp [KE])).trans rfl, h2, h3, h4⟩
def some1 (w sg : List Nat) : List D := [.str w, .str w, .str w, .str (w ++ sg), .str (sg ++ w), .non, .int 7, .lst [.str w], .tup []]
theorem t2_ok (hw : w.length ≤ 12) (hs : sg.length = 1) : bL6c2 (KE ns s a T v4 sg v6 (some (.val (.str w))) v8 v9 v10 v11 v12 v13 v14 v15) = .nx (KE ns s a T v4 sg v6 (some (.val (.str w))) (some (.lst (some1 w sg))) v9 v10 v11 v12 v13 v14 v15) := by
  have l1 : w.length + sg.length ≤ LIM := le_lim (by omega)
  have l2 : sg.length + w.length ≤ LIM := le_lim (by omega)
  have l3 : 9 ≤ LIM := by decide
  have l4 : 1 ≤ LIM := by decide
  unfold bL6c2
  simp [KE, some1, l1, l2, l3, l4]
theorem t3_ok (hw : w.length ≤ 12) (ha : Abc a) (hwa : ∀ c ∈ w, c ∈ a) : bL6c3 (KE ns s a T v4 sg v6 (some (.val (.str w))) (some (.lst (some1 w sg))) v9 v10 v11 v12 v13 v14 v15) = .nx (KE ns s a T v4 sg v6 (some (.val (.str w))) (some (.lst (some1 w sg ++ [.str (w.map upN ++ [65]), .str [32]]))) v9 v10 v11 v12 v13 v14 v15) := by
  have l2 : 2 ≤ LIM := by decide
  have l3 : w.length + 1 ≤ LIM := le_lim (by omega)
  have l4 : 11 ≤ LIM := by decide
  have sm : ∀ c ∈ SMALL, c < 128 ∧ upN c < 1114112 := by decide
  have u1 : w.all (· < 128) = true := by
    rw [List.all_eq_true]
    exact fun c hc => decide_eq_true (sm c (ha.sm c (hwa c hc))).1
  have u2 : okS (w.map upN) = true := by
    unfold okS
    rw [List.all_eq_true]
    intro c hc
    obtain ⟨d, hd, rfl⟩ := List.mem_map.mp hc
    exact decide_eq_true (sm d (ha.sm d (hwa d hd))).2
  have hu : fUpper (.str w) = some (.val (.str (w.map upN))) := by
    unfold fUpper
    simp only
    rw [if_pos ⟨by omega, u1, u2⟩]
  have hl : (some1 w sg).length = 9 := rfl
  unfold bL6c3
  simp [KE, hu, l2, l3, l4, hl]
theorem some_giv (hw : w.length ≤ 12) (hs : sg.length = 1) : ∀ x ∈ some1 w sg ++ [.str (w.map upN ++ [65]), .str [32]], Giv a x := by
  intro x hx
  have i1 : isTy "NoneType" "str" = false := by decide
  have i2 : isTy "int" "str" = false := by decide
  have i3 : isTy "list" "str" = false := by decide
  have i4 : isTy "tuple" "str" = false := by decide
  simp only [some1, List.cons_append, List.nil_append, List.mem_cons, List.not_mem_nil, or_false] at hx
  rcases hx with rfl | rfl | rfl | rfl | rfl | rfl | rfl | rfl | rfl | rfl | rfl
  · exact giv_short a _ (by omega)
  · exact giv_short a _ (by omega)
  · exact giv_short a _ (by omega)
  · exact giv_short a _ (by simp; omega)
  · exact giv_short a _ (by simp; omega)
  · exact .oth _ "NoneType" rfl i1 rfl
  · exact .oth _ "int" rfl i2 rfl
  · exact .oth _ "list" rfl i3 rfl
  · exact .oth _ "tuple" rfl i4 rfl
  · exact giv_short a _ (by simp; omega)
  · exact giv_short a _ (by simp)
theorem t4_ok (k : Nat) (h : s.ok (k + 1)) (ha : Abc a) (j : Nat) (L : List D) (h1 : ∀ x ∈ L, Giv a x) (h2 : L ≠ []) (h3 : L.length ≤ 1000) : ∃ (s' : Sd) (L' : List D), bL6c4 (KE ns s a T v4 sg (some (.val (.int j))) v7 (some (.lst L)) v9 v10 v11 v12 v13 v14 v15) = .nx (KE ns s' a T v4 sg (some (.val (.int j))) v7 (some (.lst L')) v9 v10 v11 v12 v13 v14 v15) ∧ s'.ok k ∧ (∀ x ∈ L', Giv a x) ∧ L' ≠ [] ∧ L'.length ≤ 1000 := by
  by_cases q : (j : Int) = 0
  · obtain ⟨i, s1, e1, k1, i0, i1⟩ := take_ok2 s k h 8 (by decide) (by decide)
    have ht : ∀ b : Bool, (i == 0) = b → mAnd (mBool (mOp2 fEq (mVar 6) (mC (.int 0)))) (mBool (mOp2 fEq (mCall mf_zlaw_take [true, false] [] (mCons (mVar 1) (mCons (mC (.int 8)) (mNil)))) (mC (.int 0)))) (KE ns s a T v4 sg (some (.val (.int j))) v7 (some (.lst L)) v9 v10 v11 v12 v13 v14 v15) = .ok (b, KE ns s1 a T v4 sg (some (.val (.int j))) v7 (some (.lst L)) v9 v10 v11 v12 v13 v14 v15) := fun b hb => by
      have t1 : mBool (mOp2 fEq (mCall mf_zlaw_take [true, false] [] (mCons (mVar 1) (mCons (mC (.int 8)) (mNil)))) (mC (.int 0))) (KE ns s a T v4 sg (some (.val (.int j))) v7 (some (.lst L)) v9 v10 v11 v12 v13 v14 v15) = .ok (b, KE ns s1 a T v4 sg (some (.val (.int j))) v7 (some (.lst L)) v9 v10 v11 v12 v13 v14 v15) := by
        rw [mBool_eq, op2_ch (callS2 (s2 := s1) mf_zlaw_take rfl rfl e1 rfl) rfl (show fEq (.int i) (.int 0) = some (.val (.bl b)) from by rw [fEq_int, hb])]
        rfl
      have t0 : mBool (mOp2 fEq (mVar 6) (mC (.int 0))) (KE ns s a T v4 sg (some (.val (.int j))) v7 (some (.lst L)) v9 v10 v11 v12 v13 v14 v15) = .ok (true, KE ns s a T v4 sg (some (.val (.int j))) v7 (some (.lst L)) v9 v10 v11 v12 v13 v14 v15) := by
        rw [mBool_eq, op2_ok (f := fEq) (x := .int j) (y := .int 0) (o := .val (.bl true)) rfl rfl (by rw [fEq_int, q]; rfl)]
        rfl
      rw [mAnd_eq, t0, bind_ok, if_pos rfl, t1]
    by_cases qi : i = 0
    · obtain ⟨c, hc0, hc⟩ : ∃ c, fIx (.str a) (.int 0) = some (.val (.str [c])) ∧ c ∈ a := by
        obtain ⟨c, h5, h6⟩ := at_ok a 0 (by decide) (by have := ha.pos; omega)
        exact ⟨c, by simp [fIx, h6, show a.length ≤ LIM from le_lim (by have := ha.le; omega)], h5⟩
      obtain ⟨d, hd0, hd⟩ : ∃ c, fIx (.str a) (.int (-1)) = some (.val (.str [c])) ∧ c ∈ a := by
        have hp := ha.pos
        have hg : a[a.length - 1]? = some (a.getLast ha.ne) := by
          rw [List.getLast_eq_getElem, List.getElem?_eq_getElem]
        have la : a.length ≤ LIM := le_lim (by have := ha.le; omega)
        refine ⟨a.getLast ha.ne, ?_, List.getLast_mem _⟩
        have : ixN a.length (-1) = some (a.length - 1) := by
          unfold ixN
          simp
          omega
        simp [fIx, atI, this, hg, la]
      refine ⟨s1, [.str (reps 20000 [c]), .str (reps 20001 [d])], ?_, k1, ?_, by simp, by simp⟩
      · unfold bL6c4
        rw [mIfS_eq, ht true (by simp [qi]), sb_ok', if_pos rfl]
        have m1 : fMul (.str [c]) (.int 20000) = some (.val (.str (reps 20000 [c]))) := by
          unfold fMul
          simp only
          rw [if_pos ⟨show 1 * 20000 ≤ LIM by decide, by decide, by decide⟩]
          rfl
        have m2 : fMul (.str [d]) (.int 20001) = some (.val (.str (reps 20001 [d]))) := by
          unfold fMul
          simp only
          rw [if_pos ⟨show 1 * 20001 ≤ LIM by decide, by decide, by decide⟩]
          rfl
        have n1 : fNeg (.int 1) = some (.val (.int (-1))) := rfl
        have l2 : 2 ≤ LIM := by decide
        have x1 : mOp2 fMul (mOp2 fIx (mVar 2) (mC (.int 0))) (mC (.int 20000)) (KE ns s1 a T v4 sg (some (.val (.int j))) v7 (some (.lst L)) v9 v10 v11 v12 v13 v14 v15) = .ok (.ob (.val (.str (reps 20000 [c]))), KE ns s1 a T v4 sg (some (.val (.int j))) v7 (some (.lst L)) v9 v10 v11 v12 v13 v14 v15) := op2_ok (op2_ok rfl rfl hc0) rfl m1
        have x2 : mOp2 fMul (mOp2 fIx (mVar 2) (mOp1 fNeg (mC (.int 1)))) (mC (.int 20001)) (KE ns s1 a T v4 sg (some (.val (.int j))) v7 (some (.lst L)) v9 v10 v11 v12 v13 v14 v15) = .ok (.ob (.val (.str (reps 20001 [d]))), KE ns s1 a T v4 sg (some (.val (.int j))) v7 (some (.lst L)) v9 v10 v11 v12 v13 v14 v15) := op2_ok (op2_ok rfl rfl hd0) rfl m2
        generalize mOp2 fMul (mOp2 fIx (mVar 2) (mC (.int 0))) (mC (.int 20000)) = A at x1
        generalize mOp2 fMul (mOp2 fIx (mVar 2) (mOp1 fNeg (mC (.int 1)))) (mC (.int 20001)) = B at x2
        generalize reps 20000 [c] = r1 at x1
        generalize reps 20001 [d] = r2 at x2
        simp only [KE] at x1 x2 ⊢
        simp [x1, x2, l2]
      · intro x hx
        simp only [List.mem_cons, List.not_mem_nil, or_false] at hx
        rcases hx with rfl | rfl
        · exact giv_reps a c _ (by decide)
        · exact giv_reps a d _ (by decide)
    · refine ⟨s1, L, ?_, k1, h1, h2, h3⟩
      unfold bL6c4
      rw [mIfS_eq, ht false (by simpa using qi), sb_ok', if_neg Bool.false_ne_true]
      rfl
  · refine ⟨s, L, ?_, h.le (by omega), h1, h2, h3⟩
    unfold bL6c4
    have t0 : mAnd (mBool (mOp2 fEq (mVar 6) (mC (.int 0)))) (mBool (mOp2 fEq (mCall mf_zlaw_take [true, false] [] (mCons (mVar 1) (mCons (mC (.int 8)) (mNil)))) (mC (.int 0)))) (KE ns s a T v4 sg (some (.val (.int j))) v7 (some (.lst L)) v9 v10 v11 v12 v13 v14 v15) = .ok (false, KE ns s a T v4 sg (some (.val (.int j))) v7 (some (.lst L)) v9 v10 v11 v12 v13 v14 v15) := by
      have t0 : mBool (mOp2 fEq (mVar 6) (mC (.int 0))) (KE ns s a T v4 sg (some (.val (.int j))) v7 (some (.lst L)) v9 v10 v11 v12 v13 v14 v15) = .ok (false, KE ns s a T v4 sg (some (.val (.int j))) v7 (some (.lst L)) v9 v10 v11 v12 v13 v14 v15) := by
        rw [mBool_eq, op2_ok (f := fEq) (x := .int j) (y := .int 0) (o := .val (.bl false)) rfl rfl (by rw [fEq_int]; simpa using q)]
        rfl
      rw [mAnd_eq, t0, bind_ok, if_neg Bool.false_ne_true]
    rw [mIfS_eq, t0, sb_ok', if_neg Bool.false_ne_true]
    rfl
/-- a pick of a list of one's own: it is kept from then on -/
theorem pickOwn {env : Env} {s : Sd} {i j : Nat} {L : List D} (k : Nat) (h : s.ok (k + 1)) (hi : env[i]? = some (some (stO s))) (hj : env[j]? = some (some (.lst L))) (hij : i ≠ j) (hL : L ≠ []) (hl : L.length ≤ 1000) : ∃ (d : D) (s' : Sd), mCall mf_zlaw_pick [true, false] [] (mCons (mVar i) (mCons (mVar j) mNil)) env = .ok (.ob (.val d), (env.set j (some (.val (.lst L)))).set i (some (stO s'))) ∧ s'.ok k ∧ d ∈ L := by
  obtain ⟨d, s', h1, h2, h3⟩ := pick_lst2 s k h L hL hl
  refine ⟨d, s', ?_, h2, h3⟩
  have hil : i < env.length := (List.getElem?_eq_some_iff.mp hi).1
  have hjl : j < env.length := (List.getElem?_eq_some_iff.mp hj).1
  have h1' : mf_zlaw_pick [.st s.gs s.cs s.r s.t, .val (.lst L)] = .ok (.val d) [.st s'.gs s'.cs s'.r s'.t] := h1
  have hi' : env[i]? = some (some (.st s.gs s.cs s.r s.t)) := hi
  have hj' : (env.set i none)[j]? = some (some (.lst L)) := by rw [List.getElem?_set_ne hij]; exact hj
  have e1 : ((env.set i none).set j (some (.val (.lst L))))[i]? = some none := by
    rw [List.getElem?_set_ne (Ne.symm hij), List.getElem?_set_self hil]
  simp only [mCall_eq, mCons_eq, mVar_eq, hi', hj, mNil_eq, bind_ok, argsO_t, nf_st, argsO_f, frz1_sl, hj', frz_lst, Option.map, argsO_nil, List.map_nil, List.append_nil, h1', callE_ok, putB_cons, e1, putB_nil]
  rw [List.set_comm _ _ hij, List.set_set]
theorem and_tru {a b : MT} {env : Env} (h : a env = .ok (true, env)) : mAnd a b env = b env := by
  rw [mAnd_eq, h, bind_ok, if_pos rfl]
theorem tru_ok {m : ME} {env : Env} {b : Bool} (h : m env = .ok (.ob (.val (.bl b)), env)) : mTru m env = .ok (b, env) := by
  rw [mTru_eq, h]
  rfl
theorem pickOb {env : Env} {s : Sd} {i : Nat} {m : ME} {L : List D} (k : Nat) (h : s.ok (k + 1)) (hi : env[i]? = some (some (stO s))) (hm : m env = .ok (.ob (.lst L), env)) (hL : L ≠ []) (hl : L.length ≤ 1000) : ∃ (d : D) (s' : Sd), mCall mf_zlaw_pick [true, false] [] (mCons (mVar i) (mCons m mNil)) env = .ok (.ob (.val d), env.set i (some (stO s'))) ∧ s'.ok k ∧ d ∈ L := by
  obtain ⟨d, s', h1, h2, h3⟩ := pick_lst2 s k h L hL hl
  refine ⟨d, s', ?_, h2, h3⟩
  have hil : i < env.length := (List.getElem?_eq_some_iff.mp hi).1
  have h1' : mf_zlaw_pick [.st s.gs s.cs s.r s.t, .val (.lst L)] = .ok (.val d) [.st s'.gs s'.cs s'.r s'.t] := h1
  have hi' : env[i]? = some (some (.st s.gs s.cs s.r s.t)) := hi
  simp only [mCall_eq, mCons_eq, mVar_eq, hi', mNil_eq, bind_ok, hm, argsO_t, nf_st, argsO_f, frz1_ob, frz_lst, Option.map, argsO_nil, List.map_nil, List.append_nil, h1', callE_ok]
  simp [hil]
theorem t5_ok (k : Nat) (h : s.ok (k + 1)) (L : List D) (h2 : L ≠ []) (h3 : L.length ≤ 1000) : ∃ (s' : Sd) (x : D), bL6c5 (KE ns s a T v4 sg v6 v7 (some (.lst L)) v9 v10 v11 v12 v13 v14 v15) = .nx (KE ns s' a T v4 sg v6 v7 (some (.val (.lst L))) (some (.val x)) v10 v11 v12 v13 v14 v15) ∧ s'.ok k ∧ x ∈ L := by
  obtain ⟨d, s', e1, k1, m1⟩ := pickOwn (env := KE ns s a T v4 sg v6 v7 (some (.lst L)) v9 v10 v11 v12 v13 v14 v15) (i := 1) (j := 8) k h rfl rfl (by decide) h2 h3
  exact ⟨s', d, (set_ok e1 (by simp [KE])).trans rfl, k1, m1⟩
def odds (T : List Row) : List D := [.int (-1), .int T.length, .bl true, .non, .str [48], .tup [], .int (10 ^ 20), .bl false]
theorem t6_ok : bL6c6 (KE ns s a T v4 sg v6 v7 v8 v9 v10 v11 v12 v13 v14 v15) = .nx (KE ns s a T v4 sg v6 v7 v8 v9 (some (.lst (odds T))) v11 v12 v13 v14 v15) := by
  have l8 : 8 ≤ LIM := by decide
  have n1 : fNeg (.int 1) = some (.val (.int (-1))) := rfl
  unfold bL6c6 odds
  simp [KE, l8, n1]
theorem t7_ok (k : Nat) (h : s.ok (k + 1)) (hT : Tab a.length T) : ∃ (s' : Sd) (p : D), bL6c7 (KE ns s a T v4 sg v6 v7 v8 v9 (some (.lst (odds T))) v11 v12 v13 v14 v15) = .nx (KE ns s' a T v4 sg v6 v7 v8 v9 (some (.lst (odds T))) (some (.val p)) v12 v13 v14 v15) ∧ s'.ok k ∧ Plc p := by
  have hle := hT.le
  have rl : (reps 3 (natsD T.length)).length = 3 * T.length := by simp [reps, natsD]; omega
  have hm : mOp2 fAdd (mOp2 fMul (mOp1 fListRg (mCB fLen (mCons (mVar 3) (mNil)))) (mC (.int 3))) (mVar 10) (KE ns s a T v4 sg v6 v7 v8 v9 (some (.lst (odds T))) v11 v12 v13 v14 v15) = .ok (.ob (.lst (reps 3 (natsD T.length) ++ odds T)), KE ns s a T v4 sg v6 v7 v8 v9 (some (.lst (odds T))) v11 v12 v13 v14 v15) := by
    have q1 : fListRg (.int T.length) = some (.lst (natsD T.length)) := by
      unfold fListRg
      simp only
      rw [if_pos ⟨by omega, by omega⟩, Int.toNat_natCast]
    have nl : (natsD T.length).length = T.length := by simp [natsD]
    have q2 : fMul (.lst (natsD T.length)) (.int 3) = some (.lst (reps 3 (natsD T.length))) := by
      have hc : (natsD T.length).length * (3 : Int).toNat ≤ LIM ∧ (-1000000 : Int) ≤ 3 ∧ (3 : Int) ≤ 1000000 := ⟨le_lim (by rw [nl]; show T.length * 3 ≤ _; omega), by decide, by decide⟩
      show (if _ then _ else _) = _
      rw [if_pos hc]
      rfl
    have q3 : (reps 3 (natsD T.length)).length + (odds T).length ≤ LIM := le_lim (by rw [rl]; show 3 * T.length + 8 ≤ _; omega)
    generalize natsD T.length = N at q1 q2 q3
    generalize reps 3 N = N3 at q2 q3
    simp [KE, mOp1, R.bind, q1, q2, q3]
  obtain ⟨d, s', e1, k1, m1⟩ := pickOb (i := 1) k h rfl hm (by unfold odds; simp) (by rw [List.length_append, rl]; show 3 * T.length + 8 ≤ _; omega)
  refine ⟨s', d, (set_ok e1 (by simp [KE])).trans rfl, k1, ?_⟩
  rcases List.mem_append.mp m1 with m | m
  · obtain ⟨i, _, rfl⟩ := List.mem_map.mp (reps_mem m)
    exact .int _
  · simp only [odds, List.mem_cons, List.not_mem_nil, or_false] at m
    rcases m with rfl | rfl | rfl | rfl | rfl | rfl | rfl | rfl
    · exact .int _
    · exact .int _
    · exact .oth _ rfl
    · exact .oth _ rfl
    · exact .oth _ rfl
    · exact .oth _ rfl
    · exact .int _
    · exact .oth _ rfl
theorem t8_ok (ha : Abc a) (hx : Giv a x) : bL6c8 (KE ns s a T v4 sg v6 v7 v8 (some (.val x)) v10 v11 v12 v13 v14 v15) = .nx (KE ns s a T v4 sg v6 v7 v8 (some (.val x)) v10 v11 (some (.val (.bl (gd a x)))) v13 v14 v15) :=
  (set_ok (call2 mf_zlaw_is_token rfl rfl (giv_token ha hx)) (by simp [KE])).trans rfl
theorem t9_ok (b : Bool) : bL6c9 (KE ns s a T v4 sg v6 v7 v8 v9 v10 v11 (some (.val (.bl b))) v13 v14 v15) = .nx (KE ns s a T v4 sg v6 v7 v8 v9 v10 v11 (some (.val (.bl b))) (some (.val (.str (if b = true then NUMB else WORD)))) v14 v15) := by
  cases b <;> rfl
theorem t10_ok (ha : Abc a) (hT : Tab a.length T) (hx : Giv a x) (hp : Plc p) : bL6c10 (KE ns s a T v4 sg v6 v7 v8 (some (.val x)) v10 (some (.val p)) (some (.val (.bl (gd a x)))) (some (.val (.str (if gd a x = true then NUMB else WORD)))) v14 v15) =
    .nx (KE ns s a T v4 sg v6 v7 v8 (some (.val x)) v10 (some (.val p)) (some (.val (.bl (gd a x)))) (some (.val (dueD a T x p))) v14 v15) := by
  have l2 : 2 ≤ LIM := by decide
  have st := plc_stood (T := T) hT.le hp
  unfold dueD bL6c10
  rcases beh_cases ha hT hx hp with ⟨h1, h2⟩ | ⟨h1, h2, h3⟩ | ⟨h1, g, w, rfl, hw, lw, h2, hgl, rfl, _, h3⟩
  · rw [h1]
    rfl
  · rw [h1, h2]
    rw [h2] at st
    have e1 : mAnd (mTru (mVar 12)) (mTru (mCall mf_zlaw_is_stood [false, false] [] (mCons (mVar 3) (mCons (mVar 11) (mNil))))) (KE ns s a T v4 sg v6 v7 v8 (some (.val x)) v10 (some (.val p)) (some (.val (.bl true))) (some (.val (.str (if true = true then NUMB else WORD)))) v14 v15) = .ok (false, KE ns s a T v4 sg v6 v7 v8 (some (.val x)) v10 (some (.val p)) (some (.val (.bl true))) (some (.val (.str (if true = true then NUMB else WORD)))) v14 v15) := by
      exact (and_tru rfl).trans (tru_ok (call2 mf_zlaw_is_stood rfl rfl st))
    exact if_no e1
  · rw [h1, h2]
    rw [h2] at st
    have e1 : mAnd (mTru (mVar 12)) (mTru (mCall mf_zlaw_is_stood [false, false] [] (mCons (mVar 3) (mCons (mVar 11) (mNil))))) (KE ns s a T v4 sg v6 v7 v8 (some (.val (.str w))) v10 (some (.val (natD g))) (some (.val (.bl true))) (some (.val (.str (if true = true then NUMB else WORD)))) v14 v15) = .ok (true, KE ns s a T v4 sg v6 v7 v8 (some (.val (.str w))) v10 (some (.val (natD g))) (some (.val (.bl true))) (some (.val (.str (if true = true then NUMB else WORD)))) v14 v15) := by
      exact (and_tru rfl).trans (tru_ok (call2 mf_zlaw_is_stood rfl rfl st))
    rw [mIfS_eq, e1, sb_ok', if_pos rfl]
    have hb := (behind_ok hT w hw (by omega) g hgl).1
    have e2 : mCall mf_zlaw_behind [false, false, false, false] [] (mCons (mVar 2) (mCons (mVar 3) (mCons (mVar 11) (mCons (mVar 9) (mNil))))) (KE ns s a T v4 sg v6 v7 v8 (some (.val (.str w))) v10 (some (.val (natD g))) (some (.val (.bl true))) (some (.val (.str (if true = true then NUMB else WORD)))) v14 v15) = .ok (.ob (.val (natD (walk a T g w))), KE ns s a T v4 sg v6 v7 v8 (some (.val (.str w))) v10 (some (.val (natD g))) (some (.val (.bl true))) (some (.val (.str (if true = true then NUMB else WORD)))) v14 v15) := call4 mf_zlaw_behind rfl rfl rfl rfl hb
    exact (set_ok (tup2_ch rfl e2) (by simp [KE])).trans rfl
def HasM (v : Option O) (a : List Nat) (T : List Row) : Prop := v = some (.ins "Machine" (mcO a T)) ∨ v = some (.val (MOd a T))
theorem lookM {n : Str} (q1 : (n == ("letters_told" : Str)) = false) (q2 : (n == ("stand_rows" : Str)) = false) : (mcO a T).lookup n = none := by
  simp [List.lookup, q1, q2]
theorem lk0 {r : RF} (h : mf_Machine_behind [.val (MOd a T), .val x, .val p] = r) (hr : (∃ d, r = .ok (.val d) []) ∨ ∃ c, r = .exc c [] []) : endF [] (mRet lam_law_0.me [some (.val x), some (.val (MOd a T)), some (.val p)]) = r := by
  have q := lookM (a := a) (T := T) (n := "behind") (by decide) (by decide)
  have hp : permL [0, 1, 2] [MOd a T, x, p] = [MOd a T, x, p] := rfl
  rcases hr with ⟨d, rfl⟩ | ⟨c, rfl⟩
  · simp [mMethKw, q, hp, h]
  · simp [mMethKw, q, hp, h, callE, endF]
theorem lk1 {r : RF} (h : mf_Machine_behind [.val (MOd a T), .val x, .val p] = r) (hr : (∃ d, r = .ok (.val d) []) ∨ ∃ c, r = .exc c [] []) : endF [] (mRet lam_law_1.me [some (.val (MOd a T)), some (.val p), some (.val x)]) = r := by
  have q := lookM (a := a) (T := T) (n := "behind") (by decide) (by decide)
  have hp : permL [0, 2, 1] [MOd a T, p, x] = [MOd a T, x, p] := rfl
  rcases hr with ⟨d, rfl⟩ | ⟨c, rfl⟩
  · simp [mMethKw, q, hp, h]
  · simp [mMethKw, q, hp, h, callE, endF]
theorem lk2 {r : RF} (h : mf_Machine_behind [.val (MOd a T), .val x, .val (.int 0)] = r) (hr : (∃ d, r = .ok (.val d) []) ∨ ∃ c, r = .exc c [] []) : endF [] (mRet lam_law_2.me [some (.val x), some (.val (MOd a T))]) = r := by
  have q := lookM (a := a) (T := T) (n := "behind") (by decide) (by decide)
  rcases hr with ⟨d, rfl⟩ | ⟨c, rfl⟩
  · simp [q, h]
  · simp [q, h, callE, endF]
theorem lk3 {r : RF} (h : mf_Machine_takes [.val (MOd a T), .val x] = r) (hr : (∃ d, r = .ok (.val d) []) ∨ ∃ c, r = .exc c [] []) : endF [] (mRet lam_law_3.me [some (.val x), some (.val (MOd a T))]) = r := by
  have q := lookM (a := a) (T := T) (n := "takes") (by decide) (by decide)
  rcases hr with ⟨d, rfl⟩ | ⟨c, rfl⟩
  · simp [q, h]
  · simp [q, h, callE, endF]
theorem lk4 {r : RF} (h : mf_Machine_takes [.val (MOd a T), .val x] = r) (hr : (∃ d, r = .ok (.val d) []) ∨ ∃ c, r = .exc c [] []) : endF [] (mRet lam_law_4.me [some (.val (MOd a T)), some (.val x)]) = r := by
  have q := lookM (a := a) (T := T) (n := "takes") (by decide) (by decide)
  have hp : permL [0, 1] [MOd a T, x] = [MOd a T, x] := rfl
  rcases hr with ⟨d, rfl⟩ | ⟨c, rfl⟩
  · simp [mMethKw, q, hp, h]
  · simp [mMethKw, q, hp, h, callE, endF]
theorem beh_end (ha : Abc a) (hT : Tab a.length T) (hx : Giv a x) (hp : Plc p) : (∃ d, mf_Machine_behind [.val (MOd a T), .val x, .val p] = .ok (.val d) []) ∨ ∃ c, mf_Machine_behind [.val (MOd a T), .val x, .val p] = .exc c [] [] := by
  rcases beh_cases ha hT hx hp with ⟨h1, h2⟩ | ⟨h1, h2, h3⟩ | ⟨h1, g, w, _, _, _, h2, _, _, _, h3⟩
  · exact .inr ⟨_, h2⟩
  · exact .inr ⟨_, h3⟩
  · exact .inl ⟨_, h3⟩
theorem takes_end (ha : Abc a) (hT : Tab a.length T) (hx : Giv a x) : (∃ d, mf_Machine_takes [.val (MOd a T), .val x] = .ok (.val d) []) ∨ ∃ c, mf_Machine_takes [.val (MOd a T), .val x] = .exc c [] [] := by
  rcases takes_cases ha hT hx with ⟨h1, h2⟩ | ⟨h1, h2⟩
  · exact .inr ⟨_, h2⟩
  · exact .inl ⟨_, h2⟩
theorem t11_ok (ha : Abc a) (hT : Tab a.length T) (hx : Giv a x) (hp : Plc p) (h4 : HasM v4 a T) : bL6c11 (KE ns s a T v4 sg v6 v7 v8 (some (.val x)) v10 (some (.val p)) v12 (some (.val (dueD a T x p))) v14 v15) =
    .nx (KE ns s a T (some (.val (MOd a T))) sg v6 v7 v8 (some (.val x)) v10 (some (.val p)) v12 (some (.val (dueD a T x p))) v14 v15) :=
  if_no (ne_nox (callL1x (d := lam_law_0) (e1 := KE ns s a T (some (.val (MOd a T))) sg v6 v7 v8 (some (.val x)) v10 (some (.val p)) v12 (some (.val (dueD a T x p))) v14 v15) (cap := [some (.val x), some (.val (MOd a T)), some (.val p)]) rfl (by rcases h4 with rfl | rfl <;> rfl) rfl rfl rfl
    fun c hc => said_beh ha hT hx hp c (hc.trans (lk0 rfl (beh_end ha hT hx hp)))) rfl (ne_due a T x p))
theorem t12_ok (ha : Abc a) (hT : Tab a.length T) (hx : Giv a x) (hp : Plc p) : bL6c12 (KE ns s a T (some (.val (MOd a T))) sg v6 v7 v8 (some (.val x)) v10 (some (.val p)) v12 (some (.val (dueD a T x p))) v14 v15) =
    .nx (KE ns s a T (some (.val (MOd a T))) sg v6 v7 v8 (some (.val x)) v10 (some (.val p)) v12 (some (.val (dueD a T x p))) v14 v15) :=
  if_no (ne_nox (callL1x (d := lam_law_1) (e1 := KE ns s a T (some (.val (MOd a T))) sg v6 v7 v8 (some (.val x)) v10 (some (.val p)) v12 (some (.val (dueD a T x p))) v14 v15) (cap := [some (.val (MOd a T)), some (.val p), some (.val x)]) rfl rfl rfl rfl rfl
    fun c hc => said_beh ha hT hx hp c (hc.trans (lk1 rfl (beh_end ha hT hx hp)))) rfl (ne_due a T x p))
theorem sd_zero (hT : Tab a.length T) : sd T.length (.int 0) = some 0 := by
  have := hT.pos
  show (if (0 : Int) ≤ 0 ∧ (0 : Int) < T.length then some (0 : Int).toNat else none) = _
  rw [if_pos ⟨by decide, by omega⟩]
  rfl
theorem t13_ok (ha : Abc a) (hT : Tab a.length T) (hx : Giv a x) : bL6c13 (KE ns s a T v4 sg v6 v7 v8 (some (.val x)) v10 v11 (some (.val (.bl (gd a x)))) v13 v14 v15) =
    .nx (KE ns s a T v4 sg v6 v7 v8 (some (.val x)) v10 v11 (some (.val (.bl (gd a x)))) (some (.val (dueD a T x (.int 0)))) v14 v15) := by
  unfold dueD bL6c13
  rw [sd_zero hT]
  cases hg : gd a x with
  | false => rfl
  | true =>
    obtain ⟨w, rfl, lw, hw⟩ := gd_str hg
    have hb := (behind_ok hT w hw (by omega) 0 hT.pos).1
    have e2 : mCall mf_zlaw_behind [false, false, false, false] [] (mCons (mVar 2) (mCons (mVar 3) (mCons (mC (.int 0)) (mCons (mVar 9) (mNil))))) (KE ns s a T v4 sg v6 v7 v8 (some (.val (.str w))) v10 v11 (some (.val (.bl true))) v13 v14 v15) = .ok (.ob (.val (natD (walk a T 0 w))), KE ns s a T v4 sg v6 v7 v8 (some (.val (.str w))) v10 v11 (some (.val (.bl true))) v13 v14 v15) := call4 mf_zlaw_behind rfl rfl rfl rfl hb
    refine (set_ok (o := .val (.tup [.str TOLD, natD (walk a T 0 w)])) (e2 := KE ns s a T v4 sg v6 v7 v8 (some (.val (.str w))) v10 v11 (some (.val (.bl true))) v13 v14 v15) ?_ (by simp [KE])).trans rfl
    show R.bind (.ok (true, _)) _ = _
    rw [bind_ok, if_pos rfl]
    exact tup2_ch rfl e2
theorem t14_ok (ha : Abc a) (hT : Tab a.length T) (hx : Giv a x) : bL6c14 (KE ns s a T (some (.val (MOd a T))) sg v6 v7 v8 (some (.val x)) v10 v11 v12 (some (.val (dueD a T x (.int 0)))) v14 v15) =
    .nx (KE ns s a T (some (.val (MOd a T))) sg v6 v7 v8 (some (.val x)) v10 v11 v12 (some (.val (dueD a T x (.int 0)))) v14 v15) :=
  if_no (ne_nox (callL1x (d := lam_law_2) (e1 := KE ns s a T (some (.val (MOd a T))) sg v6 v7 v8 (some (.val x)) v10 v11 v12 (some (.val (dueD a T x (.int 0)))) v14 v15) (cap := [some (.val x), some (.val (MOd a T))]) rfl rfl rfl rfl rfl
    fun c hc => said_beh ha hT hx (.int 0) c (hc.trans (lk2 rfl (beh_end ha hT hx (.int 0))))) rfl (ne_due a T x (.int 0)))
theorem t15_ok (ha : Abc a) (hT : Tab a.length T) (hx : Giv a x) : bL6c15 (KE ns s a T v4 sg v6 v7 v8 v9 v10 v11 (some (.val (.bl (gd a x)))) (some (.val (dueD a T x (.int 0)))) v14 v15) =
    .nx (KE ns s a T v4 sg v6 v7 v8 v9 v10 v11 (some (.val (.bl (gd a x)))) (some (.val (dueT a T x))) v14 v15) := by
  unfold dueD dueT bL6c15
  rw [sd_zero hT]
  cases hg : gd a x with
  | false => rfl
  | true =>
    obtain ⟨w, rfl, lw, hw⟩ := gd_str hg
    have hl := (behind_ok hT w hw (by omega) 0 hT.pos).2
    have e2 : mOp2 fIx (mOp2 fIx (mVar 3) (mOp2 fIx (mVar 13) (mC (.int 1)))) (mC (.int 0)) (KE ns s a T v4 sg v6 v7 v8 v9 v10 v11 (some (.val (.bl true))) (some (.val (.tup [.str TOLD, natD (walk a T 0 w)]))) v14 v15) = .ok (.ob (.val (.bl (endB T (walk a T 0 w)))), KE ns s a T v4 sg v6 v7 v8 v9 v10 v11 (some (.val (.bl true))) (some (.val (.tup [.str TOLD, natD (walk a T 0 w)]))) v14 v15) :=
      op2_ok (op2_ok rfl (op2_ok (o := .val (natD (walk a T 0 w))) rfl rfl rfl) (ix_row hl)) rfl (ix_end hl)
    refine (set_ok (o := .val (.tup [.str TOLD, .bl (endB T (walk a T 0 w))])) (e2 := KE ns s a T v4 sg v6 v7 v8 v9 v10 v11 (some (.val (.bl true))) (some (.val (.tup [.str TOLD, natD (walk a T 0 w)]))) v14 v15) ?_ (by simp [KE])).trans rfl
    show R.bind (.ok (true, _)) _ = _
    rw [bind_ok, if_pos rfl]
    exact tup2_ch rfl e2
theorem t16_ok (ha : Abc a) (hT : Tab a.length T) (hx : Giv a x) : bL6c16 (KE ns s a T (some (.val (MOd a T))) sg v6 v7 v8 (some (.val x)) v10 v11 v12 v13 v14 v15) =
    .nx (KE ns s a T (some (.val (MOd a T))) sg v6 v7 v8 (some (.val x)) v10 v11 v12 v13 (some (.lst [dueT a T x])) v15) := by
  have l1 : 1 ≤ LIM := by decide
  have e1 := callL1x (ds := lams_law) (id := 3) (d := lam_law_3) (mfc := mf_zlaw_said) (env := KE ns s a T (some (.val (MOd a T))) sg v6 v7 v8 (some (.val x)) v10 v11 v12 v13 v14 v15) (e1 := KE ns s a T (some (.val (MOd a T))) sg v6 v7 v8 (some (.val x)) v10 v11 v12 v13 v14 v15) (cap := [some (.val x), some (.val (MOd a T))]) (r := dueT a T x) rfl rfl rfl rfl rfl
    fun c hc => said_takes ha hT hx c (hc.trans (lk3 rfl (takes_end ha hT hx)))
  refine (set_ok (o := .lst [dueT a T x]) (e2 := KE ns s a T (some (.val (MOd a T))) sg v6 v7 v8 (some (.val x)) v10 v11 v12 v13 v14 v15) ?_ (by simp [KE])).trans rfl
  simp only [mLst_eq, mCons_eq, mNil_eq]
  rw [show mCallC mf_zlaw_said (closL lams_law [some 3]) [some 3] [false] [] (mCons (mLam 3 [9, 4]) mNil) (KE ns s a T (some (.val (MOd a T))) sg v6 v7 v8 (some (.val x)) v10 v11 v12 v13 v14 v15) = _ from e1]
  simp [l1]
theorem t17_ok (ha : Abc a) (hT : Tab a.length T) (hx : Giv a x) : bL6c17 (KE ns s a T (some (.val (MOd a T))) sg v6 v7 v8 (some (.val x)) v10 v11 v12 v13 (some (.lst [dueT a T x])) v15) =
    .nx (KE ns s a T (some (.val (MOd a T))) sg v6 v7 v8 (some (.val x)) v10 v11 v12 v13 (some (.lst [dueT a T x, dueT a T x])) v15) := by
  have l1 : 1 < LIM := by decide
  have e1 := callL1x (ds := lams_law) (id := 4) (d := lam_law_4) (mfc := mf_zlaw_said) (env := KE ns s a T (some (.val (MOd a T))) sg v6 v7 v8 (some (.val x)) v10 v11 v12 v13 (some (.lst [dueT a T x])) v15) (e1 := KE ns s a T (some (.val (MOd a T))) sg v6 v7 v8 (some (.val x)) v10 v11 v12 v13 (some (.lst [dueT a T x])) v15) (cap := [some (.val (MOd a T)), some (.val x)]) (r := dueT a T x) rfl rfl rfl rfl rfl
    fun c hc => said_takes ha hT hx c (hc.trans (lk4 rfl (takes_end ha hT hx)))
  have e1 : mCallC mf_zlaw_said (closL lams_law [some 4]) [some 4] [false] [] (mCons (mLam 4 [4, 9]) mNil) (KE ns s a T (some (.val (MOd a T))) sg v6 v7 v8 (some (.val x)) v10 v11 v12 v13 (some (.lst [dueT a T x])) v15) = _ := e1
  unfold bL6c17
  generalize mCallC mf_zlaw_said (closL lams_law [some 4]) [some 4] [false] [] (mCons (mLam 4 [4, 9]) mNil) = A at e1
  simp only [KE] at e1 ⊢
  simp [e1, l1]
theorem t18_ok : bL6c18 (KE ns s a T v4 sg v6 v7 v8 v9 v10 v11 v12 (some (.val (dueT a T x))) (some (.lst [dueT a T x, dueT a T x])) v15) =
    .nx (KE ns s a T v4 sg v6 v7 v8 v9 v10 v11 v12 (some (.val (dueT a T x))) (some (.val (.lst [dueT a T x, dueT a T x]))) (some (.val (dueT a T x)))) := by
  have hb : ∀ v15, bL6c18c ((KE ns s a T v4 sg v6 v7 v8 v9 v10 v11 v12 (some (.val (dueT a T x))) (some (.val (.lst [dueT a T x, dueT a T x]))) v15).set 15 (some (.val (dueT a T x)))) = .nx (KE ns s a T v4 sg v6 v7 v8 v9 v10 v11 v12 (some (.val (dueT a T x))) (some (.val (.lst [dueT a T x, dueT a T x]))) (some (.val (dueT a T x)))) := fun v15 => by
    have i1 : isTy "tuple" "tuple" = true := by decide
    have i2 : isTy "bool" "bool" = true := by decide
    have i3 : isTy "str" "tuple" = false := by decide
    have i4 : isTy "str" "bool" = false := by decide
    refine if_no ?_
    have n1 := ne_dueT a T x
    show mOr _ _ (KE ns s a T v4 sg v6 v7 v8 v9 v10 v11 v12 (some (.val (dueT a T x))) (some (.val (.lst [dueT a T x, dueT a T x]))) (some (.val (dueT a T x)))) = _
    rw [mOr_eq, ne_no (x := dueT a T x) (y := dueT a T x) rfl rfl n1, bind_ok, if_neg Bool.false_ne_true]
    unfold dueT
    split
    · have x1 : fIx (.tup [.str TOLD, .bl (endB T (walk a T 0 (wrd x)))]) (.int 1) = some (.val (.bl (endB T (walk a T 0 (wrd x))))) := rfl
      simp [KE, tyD, i1, i2, x1]
    · have x1 : fIx (.str WORD) (.int 1) = some (.val (.str [111])) := rfl
      simp [KE, tyD, i3, i4, x1]
  unfold bL6c18
  rw [mFor_eq]
  show forLoop (.nm 15) bL6c18c [dueT a T x, dueT a T x] (KE ns s a T v4 sg v6 v7 v8 v9 v10 v11 v12 (some (.val (dueT a T x))) (some (.val (.lst [dueT a T x, dueT a T x]))) v15) = _
  unfold forLoop
  rw [asgT_nm, if_pos (by simp [KE])]
  simp only [hb]
  unfold forLoop
  rw [asgT_nm, if_pos (by simp [KE])]
  simp only [hb]
  rfl
theorem turn_ok (k : Nat) (h : s.ok (k + 20)) (ha : Abc a) (hT : Tab a.length T) (hs : sg.length = 1) (h4 : HasM v4 a T) (j : Nat) : ∃ (s' : Sd) (u7 u8 u9 u10 u11 u12 u13 u14 u15 : Option O), bL6c (KE ns s a T v4 sg (some (.val (.int j))) v7 v8 v9 v10 v11 v12 v13 v14 v15) = .nx (KE ns s' a T (some (.val (MOd a T))) sg (some (.val (.int j))) u7 u8 u9 u10 u11 u12 u13 u14 u15) ∧ s'.ok k := by
  obtain ⟨w, s1, e1, k1, lw, hw⟩ := t1_ok (ns := ns) (T := T) (sg := sg) (v4 := v4) (v6 := some (.val (.int j))) (v7 := v7) (v8 := v8) (v9 := v9) (v10 := v10) (v11 := v11) (v12 := v12) (v13 := v13) (v14 := v14) (v15 := v15) (k + 7) (h.le (by omega)) ha
  have e2 := t2_ok (ns := ns) (s := s1) (a := a) (T := T) (v4 := v4) (v6 := some (.val (.int j))) (v8 := v8) (v9 := v9) (v10 := v10) (v11 := v11) (v12 := v12) (v13 := v13) (v14 := v14) (v15 := v15) lw hs
  have e3 := t3_ok (ns := ns) (s := s1) (T := T) (sg := sg) (v4 := v4) (v6 := some (.val (.int j))) (v9 := v9) (v10 := v10) (v11 := v11) (v12 := v12) (v13 := v13) (v14 := v14) (v15 := v15) lw ha hw
  obtain ⟨s2, L, e4, k2, g4, n4, l4⟩ := t4_ok (ns := ns) (T := T) (sg := sg) (v4 := v4) (v7 := some (.val (.str w))) (v9 := v9) (v10 := v10) (v11 := v11) (v12 := v12) (v13 := v13) (v14 := v14) (v15 := v15) (k + 6) k1 ha j _ (some_giv lw hs) (by simp [some1]) (by simp [some1])
  obtain ⟨s3, x, e5, k3, m5⟩ := t5_ok (ns := ns) (a := a) (T := T) (sg := sg) (v4 := v4) (v6 := some (.val (.int j))) (v7 := some (.val (.str w))) (v9 := v9) (v10 := v10) (v11 := v11) (v12 := v12) (v13 := v13) (v14 := v14) (v15 := v15) (k + 5) k2 L n4 l4
  have hx := g4 x m5
  have e6 := t6_ok (ns := ns) (s := s3) (a := a) (T := T) (sg := sg) (v4 := v4) (v6 := some (.val (.int j))) (v7 := some (.val (.str w))) (v8 := some (.val (.lst L))) (v9 := some (.val x)) (v10 := v10) (v11 := v11) (v12 := v12) (v13 := v13) (v14 := v14) (v15 := v15)
  obtain ⟨s4, p, e7, k4, hp⟩ := t7_ok (ns := ns) (a := a) (T := T) (sg := sg) (v4 := v4) (v6 := some (.val (.int j))) (v7 := some (.val (.str w))) (v8 := some (.val (.lst L))) (v9 := some (.val x)) (v11 := v11) (v12 := v12) (v13 := v13) (v14 := v14) (v15 := v15) (k + 4) k3 hT
  exact ⟨s4, _, _, _, _, _, _, _, _, _, seq_nx e1 (seq_nx e2 (seq_nx e3 (seq_nx e4 (seq_nx e5 (seq_nx e6 (seq_nx e7 (seq_nx (t8_ok ha hx) (seq_nx (t9_ok _) (seq_nx (t10_ok ha hT hx hp) (seq_nx (t11_ok ha hT hx hp h4) (seq_nx (t12_ok ha hT hx hp) (seq_nx (t13_ok ha hT hx) (seq_nx (t14_ok ha hT hx) (seq_nx (t15_ok ha hT hx) (seq_nx (t16_ok ha hT hx) (seq_nx (t17_ok ha hT hx) t18_ok)))))))))))))))), k4.le (by omega)⟩
end
end SW

namespace SW
open PySem L2
/-! k08: the law -/
theorem plain_rows (T : List Row) (n : Nat) : plains (T.map rowD) (n + 2) = true := by
  have nat : ∀ (l : List Nat) (m : Nat), plains (l.map natD) m = true := fun l m => by
    induction l with
    | nil => rfl
    | cons x l ih => simp [plains, plain, natD, ih]
  induction T with
  | nil => rfl
  | cons r T ih => simp [plains, plain, rowD, nat, ih]
theorem eqD_nats : ∀ l : List Nat, eqDs (l.map natD) (l.map natD) = true
  | [] => rfl
  | x :: l => by
    have := eqD_nats l
    simp [eqDs, eqD, natD, this]
theorem eqD_rows : ∀ T : List Row, eqDs (T.map rowD) (T.map rowD) = true
  | [] => rfl
  | r :: T => by
    have := eqD_rows T
    simp [eqDs, eqD, rowD, eqD_nats, this]
theorem eq_rows (T : List Row) : fEq (.lst (T.map rowD)) (.lst (T.map rowD)) = some (.val (.bl true)) := by
  unfold fEq
  have := plain_rows T 61
  simp [plain, this, eqD, eqD_rows]
theorem eq_mach (a : List Nat) (T : List Row) : mf_Machine___eq__ [.val (MOd a T), .val (MOd a T)] = .ok (.val (.bl true)) [] := by
  have f1 : ∀ i, i = 0 ∨ i = 1 → mOp1 (fFld "Machine" "letters_told") (mVar i) [some (.val (MOd a T)), some (.val (MOd a T))] = .ok (.ob (.val (.str a)), [some (.val (MOd a T)), some (.val (MOd a T))]) := fun i h => by rcases h with rfl | rfl <;> rfl
  have f2 : ∀ i, i = 0 ∨ i = 1 → mOp1 (fFld "Machine" "stand_rows") (mVar i) [some (.val (MOd a T)), some (.val (MOd a T))] = .ok (.ob (.val (.lst (T.map rowD))), [some (.val (MOd a T)), some (.val (MOd a T))]) := fun i h => by rcases h with rfl | rfl <;> rfl
  have e1 : mTru (mIs (tabOf [("NoneType", false), ("bool", false), ("int", false), ("str", false), ("list", false), ("tuple", false), ("dict", false)] [("Machine", true)] []) (mVar 1)) [some (.val (MOd a T)), some (.val (MOd a T))] = .ok (true, [some (.val (MOd a T)), some (.val (MOd a T))]) := rfl
  have e2 : m_Machine___eq__ [some (.val (MOd a T)), some (.val (MOd a T))] = .rt (.ob (.val (.bl true))) [some (.val (MOd a T)), some (.val (MOd a T))] := by
    refine seq_nx (if_no (by rw [mNot_eq, e1]; rfl)) ?_
    rw [mRet_eq, andv_tt (op2_ok (f1 0 (.inl rfl)) (f1 1 (.inr rfl)) (by rw [fEq_str, beq_self_eq_true])) (op2_ok (f2 0 (.inl rfl)) (f2 1 (.inr rfl)) (eq_rows T))]
    rfl
  unfold mf_Machine___eq__
  rw [mDef_eq]
  exact (congrArg (endF _) e2).trans rfl
section
variable {ns : List Int} {s : Sd} {a : List Nat} {T : List Row}
theorem strange_ok {env : Env} (ha : Abc a) (hi : env[2]? = some (some (.val (.str a)))) (h16 : env[16]? = some none) (h5 : 5 < env.length) : ∃ sg : List Nat, sg.length = 1 ∧ bL5 env = .nx (env.set 5 (some (.val (.str sg)))) := by
  have hcm : mComp (mItems (mC (.str [120, 121, 122, 119, 118]))) (.nm 16) [16] (mBool (mOp2 (fIn true) (mVar 16) (mVar 2))) (mVar 16) env =
      .ok (.ob (.lst ((([120, 121, 122, 119, 118] : List Nat).filter fun c => !decide (c ∈ a)).map fun c => .str [c])), env) := by
    have l16 : 16 < env.length := (List.getElem?_eq_some_iff.mp h16).1
    have g16 : ∀ o : Option O, (env.set 16 o)[16]? = some o := fun o => List.getElem?_set_self l16
    have g2 : ∀ o : Option O, (env.set 16 o)[2]? = some (some (.val (.str a))) := fun o => by rw [List.getElem?_set_ne (by decide)]; exact hi
    refine comp_filt 16 (fun c => .str [c]) (fun c => .str [c]) (fun c => !decide (c ∈ a)) [120, 121, 122, 119, 118] (by simp) (.inl h16) (by decide) (fun c _ => ?_) (fun c _ _ => var_ok (g16 _))
    rw [mBool_eq, op2_ok (o := .val (.bl (!decide (c ∈ a)))) (var_ok (g16 _)) (var_ok (g2 _)) (by simp [fIn])]
    rfl
  have hne : (([120, 121, 122, 119, 118] : List Nat).filter fun c => !decide (c ∈ a)) ≠ [] := fun e => by
    have h2 : ∀ x ∈ ([120, 121, 122, 119, 118] : List Nat), x ∈ a := fun x hx => by
      have := (List.filter_eq_nil_iff.mp e) x hx
      simpa using this
    have := nodup_len (by decide : ([120, 121, 122, 119, 118] : List Nat).Nodup) h2
    have := ha.le
    simp at *
    omega
  generalize (([120, 121, 122, 119, 118] : List Nat).filter fun c => !decide (c ∈ a)) = F at hcm hne
  cases F with
  | nil => exact absurd rfl hne
  | cons c F =>
    refine ⟨[c], rfl, ?_⟩
    unfold bL5
    generalize mComp (mItems (mC (.str [120, 121, 122, 119, 118]))) (.nm 16) [16] (mBool (mOp2 (fIn true) (mVar 16) (mVar 2))) (mVar 16) = A at hcm
    have x0 : fIx (.lst ((c :: F).map fun c => D.str [c])) (.int 0) = some (.val (.str [c])) := by
      show ((ixN _ 0).bind fun j => ((c :: F).map fun c => D.str [c])[j]?).map O.val = _
      rw [show ixN ((c :: F).map fun c => D.str [c]).length 0 = some 0 from ixN_nat (g := 0) (by simp)]
      rfl
    have x1 : mOp2 fIx A (mC (.int 0)) env = .ok (.ob (.val (.str [c])), env) := by
      simp only [mOp2_eq, hcm, bind_ok, mC_eq, rd_ob, frz_lst, frz_val, ap2_eq, x0, ofO_eq]
    exact set_ok x1 h5
theorem l4_ok (ha : Abc a) (hT : Tab a.length T) {v5 v6 v7 v8 v9 v10 v11 v12 v13 v14 v15 v16 : Option O} : bL4 [some (.scr ns), some (stO s), some (.val (.str a)), some (.lst (T.map rowD)), none, v5, v6, v7, v8, v9, v10, v11, v12, v13, v14, v15, v16] = .nx [some (.scr ns), some (stO s), some (.val (.str a)), some (.val (.lst (T.map rowD))), some (.ins "Machine" (mcO a T)), v5, v6, v7, v8, v9, v10, v11, v12, v13, v14, v15, v16] := by
  have h := init_ok a T ha hT
  unfold bL4
  rw [mSet_eq, mNew_eq]
  simp [h]
theorem l7_ok (ha : Abc a) (hT : Tab a.length T) {sg : List Nat} {v6 v7 v8 v9 v10 v11 v12 v13 v14 v15 : Option O} : bL7 (KE ns s a T (some (.val (MOd a T))) sg v6 v7 v8 v9 v10 v11 v12 v13 v14 v15) = .rt (.ob (.val (.bl true))) (KE ns s a T (some (.val (MOd a T))) sg v6 v7 v8 v9 v10 v11 v12 v13 v14 v15) := by
  have h := init_ok a T ha hT
  have e1 : mNew "Machine" mf_Machine___init__ [false, false] [] (mCons (mVar 2) (mCons (mVar 3) (mNil))) (KE ns s a T (some (.val (MOd a T))) sg v6 v7 v8 v9 v10 v11 v12 v13 v14 v15) = .ok (.ob (.ins "Machine" (mcO a T)), KE ns s a T (some (.val (MOd a T))) sg v6 v7 v8 v9 v10 v11 v12 v13 v14 v15) := by
    simp [KE, h]
  have h2 := eq_mach a T
  unfold bL7
  generalize mNew "Machine" mf_Machine___init__ [false, false] [] (mCons (mVar 2) (mCons (mVar 3) (mNil))) = A at e1
  simp only [KE] at e1 ⊢
  simp [mEqOwn, e1, h2]
end
theorem law_holds (ns : List Int) (hl : ns.length ≤ 63) : mf_law [.scr ns] = .ok (.val (.bl true)) [.scr ns] := by
  obtain ⟨s, h1, k1⟩ := begun_ok ns hl
  obtain ⟨a, s2, h2, k2, ha, _, _⟩ := abc_ok s 1000 (k1.le (by decide)) 1 4 (by decide) (by decide) (by decide)
  obtain ⟨T, s3, h3, k3, hT, _⟩ := table_ok s2 500 8 a (by have := ha.le; omega) (k2.le (by decide)) (by decide) (by decide)
  have b1 : bL1 [some (.scr ns), none, none, none, none, none, none, none, none, none, none, none, none, none, none, none, none] = .nx [some (.scr ns), some (stO s), none, none, none, none, none, none, none, none, none, none, none, none, none, none, none] := by
    unfold bL1
    simp [link_begun, h1]
  have b2 : bL2 [some (.scr ns), some (stO s), none, none, none, none, none, none, none, none, none, none, none, none, none, none, none] = .nx [some (.scr ns), some (stO s2), some (.val (.str a)), none, none, none, none, none, none, none, none, none, none, none, none, none, none] :=
    (set_ok (callS3 (s2 := s2) mf_zlaw_abc rfl rfl rfl h2 rfl) (by simp)).trans rfl
  have b3 : bL3 [some (.scr ns), some (stO s2), some (.val (.str a)), none, none, none, none, none, none, none, none, none, none, none, none, none, none] = .nx [some (.scr ns), some (stO s3), some (.val (.str a)), some (.lst (T.map rowD)), none, none, none, none, none, none, none, none, none, none, none, none, none] :=
    (set_ok (callS3 (s2 := s3) mf_zlaw_table rfl rfl rfl h3 rfl) (by simp)).trans rfl
  have b4 := l4_ok (ns := ns) (s := s3) ha hT (v5 := none) (v6 := none) (v7 := none) (v8 := none) (v9 := none) (v10 := none) (v11 := none) (v12 := none) (v13 := none) (v14 := none) (v15 := none) (v16 := none)
  obtain ⟨sg, hsg, b5⟩ := strange_ok (env := [some (.scr ns), some (stO s3), some (.val (.str a)), some (.val (.lst (T.map rowD))), some (.ins "Machine" (mcO a T)), none, none, none, none, none, none, none, none, none, none, none, none]) ha rfl rfl (by simp)
  have r6 : mRange1 (mCons (mC (.int 12)) mNil) (KE ns s3 a T (some (.ins "Machine" (mcO a T))) sg none none none none none none none none none none) = .ok ((List.range 12).map fun j : Nat => D.int (j : Int), KE ns s3 a T (some (.ins "Machine" (mcO a T))) sg none none none none none none none none none none) := range_ok (n := 12) rfl (by decide)
  obtain ⟨e', h6, s6, v4, u6, u7, u8, u9, u10, u11, u12, u13, u14, u15, rfl, hv4, _⟩ := for_inv (t := .nm 6) (body := bL6c) (fun i e => ∃ (s : Sd) (v4 u6 u7 u8 u9 u10 u11 u12 u13 u14 u15 : Option O), e = KE ns s a T v4 sg u6 u7 u8 u9 u10 u11 u12 u13 u14 u15 ∧ (HasM v4 a T ∧ (0 < i → v4 = some (.val (MOd a T)))) ∧ s.ok (20 * (12 - i)))
    ((List.range 12).map fun j : Nat => D.int (j : Int)) 0 (KE ns s3 a T (some (.ins "Machine" (mcO a T))) sg none none none none none none none none none none)
    (fun j d e _ hd => by
      rintro ⟨s, v4, u6, u7, u8, u9, u10, u11, u12, u13, u14, u15, rfl, ⟨hv, _⟩, hk⟩
      have hj : j < 12 := by
        have := (List.getElem?_eq_some_iff.mp hd).1
        simpa using this
      have hd' : d = .int (j : Nat) := by
        rw [Nat.sub_zero, List.getElem?_map, List.getElem?_range hj] at hd
        simpa using hd.symm
      subst hd'
      obtain ⟨s', w7, w8, w9, w10, w11, w12, w13, w14, w15, h4, h5⟩ := turn_ok (ns := ns) (s := s) (v4 := v4) (v7 := u7) (v8 := u8) (v9 := u9) (v10 := u10) (v11 := u11) (v12 := u12) (v13 := u13) (v14 := u14) (v15 := u15) (20 * (12 - (j + 1))) (hk.le (by omega)) ha hT hsg hv j
      exact ⟨KE ns s a T v4 sg (some (.val (.int (j : Nat)))) u7 u8 u9 u10 u11 u12 u13 u14 u15, by simp [KE], _, .inl h4, s', _, _, _, _, _, _, _, _, _, _, _, rfl, ⟨.inr rfl, fun _ => rfl⟩, h5⟩)
    ⟨s3, _, none, none, none, none, none, none, none, none, none, none, rfl, ⟨.inl rfl, fun h => absurd h (by decide)⟩, k3.le (by decide)⟩
  have hv := hv4.2 (by simp)
  subst hv
  have b0 : m_law [some (.scr ns), none, none, none, none, none, none, none, none, none, none, none, none, none, none, none, none] = .rt (.ob (.val (.bl true))) (KE ns s6 a T (some (.val (MOd a T))) sg u6 u7 u8 u9 u10 u11 u12 u13 u14 u15) := by
    rw [bL_is]
    exact seq_nx b1 (seq_nx b2 (seq_nx b3 (seq_nx b4 (seq_nx b5 (seq_nx (for_nx r6 h6) (l7_ok ha hT))))))
  unfold mf_law
  rw [mDef_eq]
  exact (congrArg (endF _) b0).trans rfl
end SW


namespace SW
open PySem PySem.Spec L2 PyProof.Rows SWZ LamX NdefX
def spLaw (K : PySem.W.Frag) (T : List NTab) : Sp := fun vs H Q _ => ∃ (a : Addr) (ns : List Int), vs = [.ref a] ∧ SqL K H a (ns.map V.int) ∧ ns.length ≤ 63 ∧ (∀ p ∈ T, H p.1 = some (.tbl #[])) ∧ ∀ H2, Q (.bl true) H2
theorem spLaw_ok {K : PySem.W.Frag} {g : Str → Option Addr} {T : List NTab} (vs : List V) (H : Hp) (Q : VK) (E : XK) (h : spLaw K T vs H Q E) : spM ⟨K, g, fun _ => none, T, noL⟩ [true] mf_law vs H Q E := by
  obtain ⟨a, ns, rfl, hS, hl, hT, q⟩ := h
  refine ⟨rfl, fun b => match H b with | some (.tbl _) => none | o => o, fun _ => none, [.scr ns], ⟨fun b o hb => ?_, (fun _ _ h => by cases h), ⟨(fun _ h => absurd rfl h), (fun _ _ h => by cases h), fun p hp => ⟨by simp only [hT p hp], rfl, #[], hT p hp, True.intro, fun pos cv hc => ?_⟩⟩, [], .yes (l1 := []) (.scr ?_) .nil, List.nodup_nil, (fun a h => by simp at h)⟩, ?_⟩
  · split at hb
    · cases hb
    · exact hb
  · have z : codeAmong pos [] = some cv := hc
    simp [codeAmong] at z
  · rcases hS with (hS | ⟨o, hS⟩) | hS
    · exact .inl (.inl (by show (match H a with | some (.tbl _) => none | o => o) = _; rw [hS]))
    · exact .inl (.inr ⟨o, by show (match H a with | some (.tbl _) => none | o => o) = _; rw [hS]⟩)
    · exact .inr hS
  rw [law_holds ns hl]
  intro v Hk2 H2 ex w
  have r := w.topV
  cases r
  exact q H2
theorem all_mk {l : PySem.W.OpenLaw} {w : World} {K : PySem.W.Frag} {h : Heap} {mg mb : Str → Option Value} {fa : Addr} {qq : Program} {loose : List Str} {XP : (Str → Option Value) → Heap → Prop} {s₀ : Shared} (GR : PySem.W.Ground qq loose [] XP w s₀ mg mb h) (X : K.In h) (G : h.Ns mainGlobals mg) (hfa : mg "law" = some (.ref fa))
    {f19 : Addr} (a19 : PySem.W.nsIn K mainGlobals "Machine" = some (some (.ref f19))) (u19 : PySem.W.plainGet K f19 Str.empty = true) (h19 : PySem.W.hasDictIn K f19 = true) (v19 : PySem.W.plainOver K f19 = true) (w19 : PySem.W.findIn K (.ref f19) "__setattr__" = some (some (.builtin "object.__setattr__"))) (x19 : PySem.W.makesIn K f19 = true) (k19 : PySem.W.keepIn K (.ref f19) = true)
      (ia19 : PySem.W.findIn K (.ref f19) "__class__" = some (some (.builtin "object.__class__"))) (im19 : PySem.W.mroIn K f19 (.type "object") = some true) (it19 : PySem.W.typeIn K (.ref f19) = some (.type "type"))
      (y19_0 : PySem.W.findIn K (.ref f19) "letters_told" = some none)
      (y19_1 : PySem.W.findIn K (.ref f19) "stand_rows" = some none)
    {f11 : Addr} {od11 an11 : Option Addr} {sl11 : Array (Option Value)} {oc11 kV11 dc11 pm11 cd11 ct11 : Value}
      (a11 : PySem.W.nsIn K mainGlobals "is_number" = some (some (.ref f11))) (l11 : K.lookup f11 = some ⟨oc11, od11, .func (PySem.W.fnOf "is_number" "is_number" (defArgs s_is_number) (defBody s_is_number) (defScope s_is_number) .none kV11 dc11 pm11 an11 cd11 ct11), sl11⟩) (c11 : PySem.W.codeIn K cd11 "is_number" = true) (k11 : PySem.W.keepIn K (.ref f11) = true)
    {f12 : Addr} {od12 an12 : Option Addr} {sl12 : Array (Option Value)} {oc12 kV12 dc12 pm12 cd12 ct12 : Value}
      (a12 : PySem.W.nsIn K mainGlobals "is_letters" = some (some (.ref f12))) (l12 : K.lookup f12 = some ⟨oc12, od12, .func (PySem.W.fnOf "is_letters" "is_letters" (defArgs s_is_letters) (defBody s_is_letters) (defScope s_is_letters) .none kV12 dc12 pm12 an12 cd12 ct12), sl12⟩) (c12 : PySem.W.codeIn K cd12 "is_letters" = true) (k12 : PySem.W.keepIn K (.ref f12) = true)
    {f13 : Addr} {od13 an13 : Option Addr} {sl13 : Array (Option Value)} {oc13 kV13 dc13 pm13 cd13 ct13 : Value}
      (a13 : PySem.W.nsIn K mainGlobals "need_letters" = some (some (.ref f13))) (l13 : K.lookup f13 = some ⟨oc13, od13, .func (PySem.W.fnOf "need_letters" "need_letters" (defArgs s_need_letters) (defBody s_need_letters) (defScope s_need_letters) .none kV13 dc13 pm13 an13 cd13 ct13), sl13⟩) (c13 : PySem.W.codeIn K cd13 "need_letters" = true) (k13 : PySem.W.keepIn K (.ref f13) = true)
    {f14 : Addr} {od14 an14 : Option Addr} {sl14 : Array (Option Value)} {oc14 kV14 dc14 pm14 cd14 ct14 : Value}
      (a14 : PySem.W.nsIn K mainGlobals "is_word_to" = some (some (.ref f14))) (l14 : K.lookup f14 = some ⟨oc14, od14, .func (PySem.W.fnOf "is_word_to" "is_word_to" (defArgs s_is_word_to) (defBody s_is_word_to) (defScope s_is_word_to) .none kV14 dc14 pm14 an14 cd14 ct14), sl14⟩) (c14 : PySem.W.codeIn K cd14 "is_word_to" = true) (k14 : PySem.W.keepIn K (.ref f14) = true)
    {f15 : Addr} {od15 an15 : Option Addr} {sl15 : Array (Option Value)} {oc15 dc15 pm15 cd15 ct15 : Value} {D15 : Addr} {t15_0 : Nat}
      (a15 : PySem.W.nsIn K mainGlobals "need_word" = some (some (.ref f15))) (l15 : K.lookup f15 = some ⟨oc15, od15, .func (PySem.W.fnOf "need_word" "need_word" (defArgs s_need_word) (defBody s_need_word) (defScope s_need_word) .none (.ref D15) dc15 pm15 an15 cd15 ct15), sl15⟩) (c15 : PySem.W.codeIn K cd15 "need_word" = true) (k15 : PySem.W.keepIn K (.ref f15) = true)
      (d15_0 : PySem.W.nsIn K D15 "most" = some (some (.int 20000 t15_0)))
    {f18 : Addr} {od18 an18 : Option Addr} {sl18 : Array (Option Value)} {oc18 kV18 dc18 pm18 cd18 ct18 : Value}
      (a18 : PySem.W.nsIn K mainGlobals "is_stand" = some (some (.ref f18))) (l18 : K.lookup f18 = some ⟨oc18, od18, .func (PySem.W.fnOf "is_stand" "is_stand" (defArgs s_is_stand) (defBody s_is_stand) (defScope s_is_stand) .none kV18 dc18 pm18 an18 cd18 ct18), sl18⟩) (c18 : PySem.W.codeIn K cd18 "is_stand" = true) (k18 : PySem.W.keepIn K (.ref f18) = true)
    {f21 : Addr} {od21 an21 : Option Addr} {sl21 : Array (Option Value)} {oc21 kV21 dc21 pm21 cd21 ct21 : Value}
      (a21 : PySem.W.nsIn K mainGlobals "_law_begun" = some (some (.ref f21))) (l21 : K.lookup f21 = some ⟨oc21, od21, .func (PySem.W.fnOf "_law_begun" "_law_begun" (defArgs s_zlaw_begun) (defBody s_zlaw_begun) (defScope s_zlaw_begun) .none kV21 dc21 pm21 an21 cd21 ct21), sl21⟩) (c21 : PySem.W.codeIn K cd21 "_law_begun" = true) (k21 : PySem.W.keepIn K (.ref f21) = true)
    {f22 : Addr} {od22 an22 : Option Addr} {sl22 : Array (Option Value)} {oc22 kV22 dc22 pm22 cd22 ct22 : Value}
      (a22 : PySem.W.nsIn K mainGlobals "_law_mixed" = some (some (.ref f22))) (l22 : K.lookup f22 = some ⟨oc22, od22, .func (PySem.W.fnOf "_law_mixed" "_law_mixed" (defArgs s_zlaw_mixed) (defBody s_zlaw_mixed) (defScope s_zlaw_mixed) .none kV22 dc22 pm22 an22 cd22 ct22), sl22⟩) (c22 : PySem.W.codeIn K cd22 "_law_mixed" = true) (k22 : PySem.W.keepIn K (.ref f22) = true)
    {f23 : Addr} {od23 an23 : Option Addr} {sl23 : Array (Option Value)} {oc23 kV23 dc23 pm23 cd23 ct23 : Value}
      (a23 : PySem.W.nsIn K mainGlobals "_law_take" = some (some (.ref f23))) (l23 : K.lookup f23 = some ⟨oc23, od23, .func (PySem.W.fnOf "_law_take" "_law_take" (defArgs s_zlaw_take) (defBody s_zlaw_take) (defScope s_zlaw_take) .none kV23 dc23 pm23 an23 cd23 ct23), sl23⟩) (c23 : PySem.W.codeIn K cd23 "_law_take" = true) (k23 : PySem.W.keepIn K (.ref f23) = true)
    {f24 : Addr} {od24 an24 : Option Addr} {sl24 : Array (Option Value)} {oc24 kV24 dc24 pm24 cd24 ct24 : Value}
      (a24 : PySem.W.nsIn K mainGlobals "_law_pick" = some (some (.ref f24))) (l24 : K.lookup f24 = some ⟨oc24, od24, .func (PySem.W.fnOf "_law_pick" "_law_pick" (defArgs s_zlaw_pick) (defBody s_zlaw_pick) (defScope s_zlaw_pick) .none kV24 dc24 pm24 an24 cd24 ct24), sl24⟩) (c24 : PySem.W.codeIn K cd24 "_law_pick" = true) (k24 : PySem.W.keepIn K (.ref f24) = true)
    {f25 : Addr} {od25 an25 : Option Addr} {sl25 : Array (Option Value)} {oc25 kV25 dc25 pm25 cd25 ct25 : Value}
      (a25 : PySem.W.nsIn K mainGlobals "_law_abc" = some (some (.ref f25))) (l25 : K.lookup f25 = some ⟨oc25, od25, .func (PySem.W.fnOf "_law_abc" "_law_abc" (defArgs s_zlaw_abc) (defBody s_zlaw_abc) (defScope s_zlaw_abc) .none kV25 dc25 pm25 an25 cd25 ct25), sl25⟩) (c25 : PySem.W.codeIn K cd25 "_law_abc" = true) (k25 : PySem.W.keepIn K (.ref f25) = true)
    {f26 : Addr} {od26 an26 : Option Addr} {sl26 : Array (Option Value)} {oc26 kV26 dc26 pm26 cd26 ct26 : Value}
      (a26 : PySem.W.nsIn K mainGlobals "_law_table" = some (some (.ref f26))) (l26 : K.lookup f26 = some ⟨oc26, od26, .func (PySem.W.fnOf "_law_table" "_law_table" (defArgs s_zlaw_table) (defBody s_zlaw_table) (defScope s_zlaw_table) .none kV26 dc26 pm26 an26 cd26 ct26), sl26⟩) (c26 : PySem.W.codeIn K cd26 "_law_table" = true) (k26 : PySem.W.keepIn K (.ref f26) = true)
    {f27 : Addr} {od27 an27 : Option Addr} {sl27 : Array (Option Value)} {oc27 kV27 dc27 pm27 cd27 ct27 : Value}
      (a27 : PySem.W.nsIn K mainGlobals "_law_token" = some (some (.ref f27))) (l27 : K.lookup f27 = some ⟨oc27, od27, .func (PySem.W.fnOf "_law_token" "_law_token" (defArgs s_zlaw_token) (defBody s_zlaw_token) (defScope s_zlaw_token) .none kV27 dc27 pm27 an27 cd27 ct27), sl27⟩) (c27 : PySem.W.codeIn K cd27 "_law_token" = true) (k27 : PySem.W.keepIn K (.ref f27) = true)
    {f28 : Addr} {od28 an28 : Option Addr} {sl28 : Array (Option Value)} {oc28 kV28 dc28 pm28 cd28 ct28 : Value}
      (a28 : PySem.W.nsIn K mainGlobals "_law_behind" = some (some (.ref f28))) (l28 : K.lookup f28 = some ⟨oc28, od28, .func (PySem.W.fnOf "_law_behind" "_law_behind" (defArgs s_zlaw_behind) (defBody s_zlaw_behind) (defScope s_zlaw_behind) .none kV28 dc28 pm28 an28 cd28 ct28), sl28⟩) (c28 : PySem.W.codeIn K cd28 "_law_behind" = true) (k28 : PySem.W.keepIn K (.ref f28) = true)
    {f29 : Addr} {od29 an29 : Option Addr} {sl29 : Array (Option Value)} {oc29 kV29 dc29 pm29 cd29 ct29 : Value}
      (a29 : PySem.W.nsIn K mainGlobals "_law_said" = some (some (.ref f29))) (l29 : K.lookup f29 = some ⟨oc29, od29, .func (PySem.W.fnOf "_law_said" "_law_said" (defArgs s_zlaw_said) (defBody s_zlaw_said) (defScope s_zlaw_said) .none kV29 dc29 pm29 an29 cd29 ct29), sl29⟩) (c29 : PySem.W.codeIn K cd29 "_law_said" = true) (k29 : PySem.W.keepIn K (.ref f29) = true)
    {f30 : Addr} {od30 an30 : Option Addr} {sl30 : Array (Option Value)} {oc30 kV30 dc30 pm30 cd30 ct30 : Value}
      (a30 : PySem.W.nsIn K mainGlobals "_law_is_token" = some (some (.ref f30))) (l30 : K.lookup f30 = some ⟨oc30, od30, .func (PySem.W.fnOf "_law_is_token" "_law_is_token" (defArgs s_zlaw_is_token) (defBody s_zlaw_is_token) (defScope s_zlaw_is_token) .none kV30 dc30 pm30 an30 cd30 ct30), sl30⟩) (c30 : PySem.W.codeIn K cd30 "_law_is_token" = true) (k30 : PySem.W.keepIn K (.ref f30) = true)
    {f31 : Addr} {od31 an31 : Option Addr} {sl31 : Array (Option Value)} {oc31 kV31 dc31 pm31 cd31 ct31 : Value}
      (a31 : PySem.W.nsIn K mainGlobals "_law_is_stood" = some (some (.ref f31))) (l31 : K.lookup f31 = some ⟨oc31, od31, .func (PySem.W.fnOf "_law_is_stood" "_law_is_stood" (defArgs s_zlaw_is_stood) (defBody s_zlaw_is_stood) (defScope s_zlaw_is_stood) .none kV31 dc31 pm31 an31 cd31 ct31), sl31⟩) (c31 : PySem.W.codeIn K cd31 "_law_is_stood" = true) (k31 : PySem.W.keepIn K (.ref f31) = true)
    {f33 : Addr} {od33 an33 : Option Addr} {sl33 : Array (Option Value)} {oc33 kV33 dc33 pm33 cd33 ct33 : Value}
      (a33 : PySem.W.findIn K (.ref f19) "__init__" = some (some (.ref f33))) (i33 : PySem.W.isFn K (.ref f33) = true) (l33 : K.lookup f33 = some ⟨oc33, od33, .func (PySem.W.fnOf "__init__" "Machine.__init__" (defArgs s_Machine___init__) (defBody s_Machine___init__) (defScope s_Machine___init__) .none kV33 dc33 pm33 an33 cd33 ct33), sl33⟩) (c33 : PySem.W.codeIn K cd33 "Machine.__init__" = true) (k33 : PySem.W.keepIn K (.ref f33) = true)
    {f36 : Addr} {od36 an36 : Option Addr} {sl36 : Array (Option Value)} {oc36 kV36 dc36 pm36 cd36 ct36 : Value}
      (a36 : PySem.W.findIn K (.ref f19) "__eq__" = some (some (.ref f36))) (i36 : PySem.W.isFn K (.ref f36) = true) (l36 : K.lookup f36 = some ⟨oc36, od36, .func (PySem.W.fnOf "__eq__" "Machine.__eq__" (defArgs s_Machine___eq__) (defBody s_Machine___eq__) (defScope s_Machine___eq__) .none kV36 dc36 pm36 an36 cd36 ct36), sl36⟩) (c36 : PySem.W.codeIn K cd36 "Machine.__eq__" = true) (k36 : PySem.W.keepIn K (.ref f36) = true)
    {f34 : Addr} {od34 an34 : Option Addr} {sl34 : Array (Option Value)} {oc34 dc34 pm34 cd34 ct34 : Value} {D34 : Addr} {t34_0 : Nat}
      (a34 : PySem.W.findIn K (.ref f19) "behind" = some (some (.ref f34))) (i34 : PySem.W.isFn K (.ref f34) = true) (l34 : K.lookup f34 = some ⟨oc34, od34, .func (PySem.W.fnOf "behind" "Machine.behind" (defArgs s_Machine_behind) (defBody s_Machine_behind) (defScope s_Machine_behind) .none (.ref D34) dc34 pm34 an34 cd34 ct34), sl34⟩) (c34 : PySem.W.codeIn K cd34 "Machine.behind" = true) (k34 : PySem.W.keepIn K (.ref f34) = true)
      (d34_0 : PySem.W.nsIn K D34 "stand" = some (some (.int 0 t34_0)))
    {f35 : Addr} {od35 an35 : Option Addr} {sl35 : Array (Option Value)} {oc35 kV35 dc35 pm35 cd35 ct35 : Value}
      (a35 : PySem.W.findIn K (.ref f19) "takes" = some (some (.ref f35))) (i35 : PySem.W.isFn K (.ref f35) = true) (l35 : K.lookup f35 = some ⟨oc35, od35, .func (PySem.W.fnOf "takes" "Machine.takes" (defArgs s_Machine_takes) (defBody s_Machine_takes) (defScope s_Machine_takes) .none kV35 dc35 pm35 an35 cd35 ct35), sl35⟩) (c35 : PySem.W.codeIn K cd35 "Machine.takes" = true) (k35 : PySem.W.keepIn K (.ref f35) = true)
    {f32 : Addr} {od32 an32 : Option Addr} {sl32 : Array (Option Value)} {oc32 kV32 dc32 pm32 ct32 : Value} {cc32 PP32 : Addr} {oq32 : Value} {dq32 : Option Addr} {vq32 : Array Value} {sq32 : Array (Option Value)} {dr32 : DefRec}
      (a32 : PySem.W.nsIn K mainGlobals "law" = some (some (.ref f32))) (l32 : K.lookup f32 = some ⟨oc32, od32, .func (PySem.W.fnOf "law" "law" (defArgs s_law) (defBody s_law) (defScope s_law) .none kV32 dc32 pm32 an32 (.ref cc32) ct32), sl32⟩) (c32 : PySem.W.codeIn K (.ref cc32) "law" = true) (k32 : PySem.W.keepIn K (.ref f32) = true)
      (q32 : K.lookup cc32 = some ⟨oq32, dq32, .fields vq32, sq32⟩) (v32 : vq32[11]? = some (.ref PP32)) (r32 : (recsOf qq).find? (fun e => e.name == ("law" : Str)) = some dr32)
    {f1 : Addr} (a1 : PySem.W.nsIn K mainGlobals "SwingError" = some (some (.ref f1))) (x1 : PySem.W.excIn K f1 [.type "ValueError", .type "Exception", .type "BaseException", .type "object"] "ValueError.__new__" = true) (k1 : PySem.W.keepIn K (.ref f1) = true) (y1 : PySem.W.subIn K (.ref f1) (.type "BaseException") = some true) (t1 : PySem.W.typeIn K (.ref f1) = some (.type "type"))
    {f2 : Addr} (a2 : PySem.W.nsIn K mainGlobals "NoLetters" = some (some (.ref f2))) (x2 : PySem.W.excIn K f2 [.type "ValueError", .type "Exception", .type "BaseException", .type "object"] "ValueError.__new__" = true) (k2 : PySem.W.keepIn K (.ref f2) = true) (y2 : PySem.W.subIn K (.ref f2) (.type "BaseException") = some true) (t2 : PySem.W.typeIn K (.ref f2) = some (.type "type"))
    {f3 : Addr} (a3 : PySem.W.nsIn K mainGlobals "NoWord" = some (some (.ref f3))) (x3 : PySem.W.excIn K f3 [.type "ValueError", .type "Exception", .type "BaseException", .type "object"] "ValueError.__new__" = true) (k3 : PySem.W.keepIn K (.ref f3) = true) (y3 : PySem.W.subIn K (.ref f3) (.type "BaseException") = some true) (t3 : PySem.W.typeIn K (.ref f3) = some (.type "type"))
    {f4 : Addr} (a4 : PySem.W.nsIn K mainGlobals "NoNumber" = some (some (.ref f4))) (x4 : PySem.W.excIn K f4 [.type "ValueError", .type "Exception", .type "BaseException", .type "object"] "ValueError.__new__" = true) (k4 : PySem.W.keepIn K (.ref f4) = true) (y4 : PySem.W.subIn K (.ref f4) (.type "BaseException") = some true) (t4 : PySem.W.typeIn K (.ref f4) = some (.type "type"))
    {f5 : Addr} (a5 : PySem.W.nsIn K mainGlobals "NoMachine" = some (some (.ref f5))) (x5 : PySem.W.excIn K f5 [.type "ValueError", .type "Exception", .type "BaseException", .type "object"] "ValueError.__new__" = true) (k5 : PySem.W.keepIn K (.ref f5) = true) (y5 : PySem.W.subIn K (.ref f5) (.type "BaseException") = some true) (t5 : PySem.W.typeIn K (.ref f5) = some (.type "type"))
    {f6 : Addr} (a6 : PySem.W.nsIn K mainGlobals "TooGreat" = some (some (.ref f6))) (x6 : PySem.W.excIn K f6 [.type "ValueError", .type "Exception", .type "BaseException", .type "object"] "ValueError.__new__" = true) (k6 : PySem.W.keepIn K (.ref f6) = true) (y6 : PySem.W.subIn K (.ref f6) (.type "BaseException") = some true) (t6 : PySem.W.typeIn K (.ref f6) = some (.type "type"))
      (h2 : PySem.W.hasDictIn K f2 = true)
      (h3 : PySem.W.hasDictIn K f3 = true)
      (h5 : PySem.W.hasDictIn K f5 = true)
      (h4 : PySem.W.hasDictIn K f4 = true)
      (h6 : PySem.W.hasDictIn K f6 = true)
      (h1 : PySem.W.hasDictIn K f1 = true)
      (SN : PySem.W.specialIn K (.builtin "object.__class__") "__get__" = some (some (.builtin "getset_descriptor.__get__"))) (TK : PySem.W.takesIn K (.builtin "object.__class__") = some true)
      (G1_2 : PySem.W.findIn K (.ref f2) "__getattribute__" = some (some (.builtin "BaseException.__getattribute__"))) (G2_2 : PySem.W.findIn K (.ref f2) "__getattr__" = some none) (G3_2 : PySem.W.findIn K (.ref f2) "__class__" = some (some (.builtin "object.__class__"))) (G4_2 : PySem.W.mroIn K f2 (.type "object") = some true)
      (G1_3 : PySem.W.findIn K (.ref f3) "__getattribute__" = some (some (.builtin "BaseException.__getattribute__"))) (G2_3 : PySem.W.findIn K (.ref f3) "__getattr__" = some none) (G3_3 : PySem.W.findIn K (.ref f3) "__class__" = some (some (.builtin "object.__class__"))) (G4_3 : PySem.W.mroIn K f3 (.type "object") = some true)
      (G1_5 : PySem.W.findIn K (.ref f5) "__getattribute__" = some (some (.builtin "BaseException.__getattribute__"))) (G2_5 : PySem.W.findIn K (.ref f5) "__getattr__" = some none) (G3_5 : PySem.W.findIn K (.ref f5) "__class__" = some (some (.builtin "object.__class__"))) (G4_5 : PySem.W.mroIn K f5 (.type "object") = some true)
      (G1_4 : PySem.W.findIn K (.ref f4) "__getattribute__" = some (some (.builtin "BaseException.__getattribute__"))) (G2_4 : PySem.W.findIn K (.ref f4) "__getattr__" = some none) (G3_4 : PySem.W.findIn K (.ref f4) "__class__" = some (some (.builtin "object.__class__"))) (G4_4 : PySem.W.mroIn K f4 (.type "object") = some true)
      (J_NoneType_19 : PySem.W.subIn K (.type "NoneType") (.ref f19) = some false)
      (J_bool_19 : PySem.W.subIn K (.type "bool") (.ref f19) = some false)
      (J_int_19 : PySem.W.subIn K (.type "int") (.ref f19) = some false)
      (J_str_19 : PySem.W.subIn K (.type "str") (.ref f19) = some false)
      (J_list_19 : PySem.W.subIn K (.type "list") (.ref f19) = some false)
      (J_tuple_19 : PySem.W.subIn K (.type "tuple") (.ref f19) = some false)
      (J_dict_19 : PySem.W.subIn K (.type "dict") (.ref f19) = some false)
      (JO_19_19 : PySem.W.subIn K (.ref f19) (.ref f19) = some true)
      (S_2_3 : PySem.W.subIn K (.ref f2) (.ref f3) = some false)
      (S_3_3 : PySem.W.subIn K (.ref f3) (.ref f3) = some true)
      (S_5_3 : PySem.W.subIn K (.ref f5) (.ref f3) = some false)
      (S_4_3 : PySem.W.subIn K (.ref f4) (.ref f3) = some false)
      (S_2_4 : PySem.W.subIn K (.ref f2) (.ref f4) = some false)
      (S_3_4 : PySem.W.subIn K (.ref f3) (.ref f4) = some false)
      (S_5_4 : PySem.W.subIn K (.ref f5) (.ref f4) = some false)
      (S_4_4 : PySem.W.subIn K (.ref f4) (.ref f4) = some true)
      (S_2_2 : PySem.W.subIn K (.ref f2) (.ref f2) = some true)
      (S_3_2 : PySem.W.subIn K (.ref f3) (.ref f2) = some false)
      (S_5_2 : PySem.W.subIn K (.ref f5) (.ref f2) = some false)
      (S_4_2 : PySem.W.subIn K (.ref f4) (.ref f2) = some false)
      (S_2_5 : PySem.W.subIn K (.ref f2) (.ref f5) = some false)
      (S_3_5 : PySem.W.subIn K (.ref f3) (.ref f5) = some false)
      (S_5_5 : PySem.W.subIn K (.ref f5) (.ref f5) = some true)
      (S_4_5 : PySem.W.subIn K (.ref f4) (.ref f5) = some false)
      (S_2_6 : PySem.W.subIn K (.ref f2) (.ref f6) = some false)
      (S_3_6 : PySem.W.subIn K (.ref f3) (.ref f6) = some false)
      (S_5_6 : PySem.W.subIn K (.ref f5) (.ref f6) = some false)
      (S_4_6 : PySem.W.subIn K (.ref f4) (.ref f6) = some false)
      (S_2_1 : PySem.W.subIn K (.ref f2) (.ref f1) = some true)
      (S_3_1 : PySem.W.subIn K (.ref f3) (.ref f1) = some true)
      (S_5_1 : PySem.W.subIn K (.ref f5) (.ref f1) = some true)
      (S_4_1 : PySem.W.subIn K (.ref f4) (.ref f1) = some true)
      (E_2_3 : (Value.ref f2 == Value.ref f3) = false)
      (E_5_3 : (Value.ref f5 == Value.ref f3) = false)
      (E_4_3 : (Value.ref f4 == Value.ref f3) = false)
      (E_2_4 : (Value.ref f2 == Value.ref f4) = false)
      (E_3_4 : (Value.ref f3 == Value.ref f4) = false)
      (E_5_4 : (Value.ref f5 == Value.ref f4) = false)
      (E_3_2 : (Value.ref f3 == Value.ref f2) = false)
      (E_5_2 : (Value.ref f5 == Value.ref f2) = false)
      (E_4_2 : (Value.ref f4 == Value.ref f2) = false)
      (E_2_5 : (Value.ref f2 == Value.ref f5) = false)
      (E_3_5 : (Value.ref f3 == Value.ref f5) = false)
      (E_4_5 : (Value.ref f4 == Value.ref f5) = false)
      (E_2_6 : (Value.ref f2 == Value.ref f6) = false)
      (E_3_6 : (Value.ref f3 == Value.ref f6) = false)
      (E_5_6 : (Value.ref f5 == Value.ref f6) = false)
      (E_4_6 : (Value.ref f4 == Value.ref f6) = false)
      (V_2 : PySem.W.subIn K (.ref f2) (.type "ValueError") = some true)
      (V_3 : PySem.W.subIn K (.ref f3) (.type "ValueError") = some true)
      (V_5 : PySem.W.subIn K (.ref f5) (.type "ValueError") = some true)
      (V_4 : PySem.W.subIn K (.ref f4) (.type "ValueError") = some true)
    {zSMALL : Nat} (mSMALL : PySem.W.nsIn K mainGlobals "SMALL" = some (some (.str "abcdefghijklmnopqrstuvwxyz" zSMALL)))
    {zMOST_LETTERS : Nat} (mMOST_LETTERS : PySem.W.nsIn K mainGlobals "MOST_LETTERS" = some (some (.int 4 zMOST_LETTERS)))
    {zMOST_IN_WORD : Nat} (mMOST_IN_WORD : PySem.W.nsIn K mainGlobals "MOST_IN_WORD" = some (some (.int 20000 zMOST_IN_WORD)))
    {zMOST_STANDS : Nat} (mMOST_STANDS : PySem.W.nsIn K mainGlobals "MOST_STANDS" = some (some (.int 60 zMOST_STANDS)))
    (n_ValueError : PySem.W.nsIn K mainGlobals "ValueError" = some none)
    (n_all : PySem.W.nsIn K mainGlobals "all" = some none)
    (n_bool : PySem.W.nsIn K mainGlobals "bool" = some none)
    (n_int : PySem.W.nsIn K mainGlobals "int" = some none)
    (n_isinstance : PySem.W.nsIn K mainGlobals "isinstance" = some none)
    (n_len : PySem.W.nsIn K mainGlobals "len" = some none)
    (n_list : PySem.W.nsIn K mainGlobals "list" = some none)
    (n_min : PySem.W.nsIn K mainGlobals "min" = some none)
    (n_range : PySem.W.nsIn K mainGlobals "range" = some none)
    (n_set : PySem.W.nsIn K mainGlobals "set" = some none)
    (n_sorted : PySem.W.nsIn K mainGlobals "sorted" = some none)
    (n_str : PySem.W.nsIn K mainGlobals "str" = some none)
    (n_tuple : PySem.W.nsIn K mainGlobals "tuple" = some none)
    (n_zip : PySem.W.nsIn K mainGlobals "zip" = some none)
      (nt : PySem.W.noTabs K = true)
    : LamX.LawAtS l w K (L2.CX l.prog w) 10 63 "_law_script" mg fa h := by
  have e := hfa.symm.trans (PySem.W.mg_of X G a32)
  cases e
  let AL : List Addr := [0, f1, f2, f3, f4, f5, f6, 0, 0, 0, 0, f11, f12, f13, f14, f15, 0, 0, f18, f19, 0, f21, f22, f23, f24, f25, f26, f27, f28, f29, f30, f31, fa, f33, f34, f35, f36]
  let d11 : FuncData := PySem.W.fnOf "is_number" "is_number" (defArgs s_is_number) (defBody s_is_number) (defScope s_is_number) .none kV11 dc11 pm11 an11 cd11 ct11
  let d12 : FuncData := PySem.W.fnOf "is_letters" "is_letters" (defArgs s_is_letters) (defBody s_is_letters) (defScope s_is_letters) .none kV12 dc12 pm12 an12 cd12 ct12
  let d13 : FuncData := PySem.W.fnOf "need_letters" "need_letters" (defArgs s_need_letters) (defBody s_need_letters) (defScope s_need_letters) .none kV13 dc13 pm13 an13 cd13 ct13
  let d14 : FuncData := PySem.W.fnOf "is_word_to" "is_word_to" (defArgs s_is_word_to) (defBody s_is_word_to) (defScope s_is_word_to) .none kV14 dc14 pm14 an14 cd14 ct14
  let d15 : FuncData := PySem.W.fnOf "need_word" "need_word" (defArgs s_need_word) (defBody s_need_word) (defScope s_need_word) .none (.ref D15) dc15 pm15 an15 cd15 ct15
  let d18 : FuncData := PySem.W.fnOf "is_stand" "is_stand" (defArgs s_is_stand) (defBody s_is_stand) (defScope s_is_stand) .none kV18 dc18 pm18 an18 cd18 ct18
  let d21 : FuncData := PySem.W.fnOf "_law_begun" "_law_begun" (defArgs s_zlaw_begun) (defBody s_zlaw_begun) (defScope s_zlaw_begun) .none kV21 dc21 pm21 an21 cd21 ct21
  let d22 : FuncData := PySem.W.fnOf "_law_mixed" "_law_mixed" (defArgs s_zlaw_mixed) (defBody s_zlaw_mixed) (defScope s_zlaw_mixed) .none kV22 dc22 pm22 an22 cd22 ct22
  let d23 : FuncData := PySem.W.fnOf "_law_take" "_law_take" (defArgs s_zlaw_take) (defBody s_zlaw_take) (defScope s_zlaw_take) .none kV23 dc23 pm23 an23 cd23 ct23
  let d24 : FuncData := PySem.W.fnOf "_law_pick" "_law_pick" (defArgs s_zlaw_pick) (defBody s_zlaw_pick) (defScope s_zlaw_pick) .none kV24 dc24 pm24 an24 cd24 ct24
  let d25 : FuncData := PySem.W.fnOf "_law_abc" "_law_abc" (defArgs s_zlaw_abc) (defBody s_zlaw_abc) (defScope s_zlaw_abc) .none kV25 dc25 pm25 an25 cd25 ct25
  let d26 : FuncData := PySem.W.fnOf "_law_table" "_law_table" (defArgs s_zlaw_table) (defBody s_zlaw_table) (defScope s_zlaw_table) .none kV26 dc26 pm26 an26 cd26 ct26
  let d27 : FuncData := PySem.W.fnOf "_law_token" "_law_token" (defArgs s_zlaw_token) (defBody s_zlaw_token) (defScope s_zlaw_token) .none kV27 dc27 pm27 an27 cd27 ct27
  let d28 : FuncData := PySem.W.fnOf "_law_behind" "_law_behind" (defArgs s_zlaw_behind) (defBody s_zlaw_behind) (defScope s_zlaw_behind) .none kV28 dc28 pm28 an28 cd28 ct28
  let d29 : FuncData := PySem.W.fnOf "_law_said" "_law_said" (defArgs s_zlaw_said) (defBody s_zlaw_said) (defScope s_zlaw_said) .none kV29 dc29 pm29 an29 cd29 ct29
  let d30 : FuncData := PySem.W.fnOf "_law_is_token" "_law_is_token" (defArgs s_zlaw_is_token) (defBody s_zlaw_is_token) (defScope s_zlaw_is_token) .none kV30 dc30 pm30 an30 cd30 ct30
  let d31 : FuncData := PySem.W.fnOf "_law_is_stood" "_law_is_stood" (defArgs s_zlaw_is_stood) (defBody s_zlaw_is_stood) (defScope s_zlaw_is_stood) .none kV31 dc31 pm31 an31 cd31 ct31
  let d33 : FuncData := PySem.W.fnOf "__init__" "Machine.__init__" (defArgs s_Machine___init__) (defBody s_Machine___init__) (defScope s_Machine___init__) .none kV33 dc33 pm33 an33 cd33 ct33
  let d36 : FuncData := PySem.W.fnOf "__eq__" "Machine.__eq__" (defArgs s_Machine___eq__) (defBody s_Machine___eq__) (defScope s_Machine___eq__) .none kV36 dc36 pm36 an36 cd36 ct36
  let d34 : FuncData := PySem.W.fnOf "behind" "Machine.behind" (defArgs s_Machine_behind) (defBody s_Machine_behind) (defScope s_Machine_behind) .none (.ref D34) dc34 pm34 an34 cd34 ct34
  let d35 : FuncData := PySem.W.fnOf "takes" "Machine.takes" (defArgs s_Machine_takes) (defBody s_Machine_takes) (defScope s_Machine_takes) .none kV35 dc35 pm35 an35 cd35 ct35
  let d32 : FuncData := PySem.W.fnOf "law" "law" (defArgs s_law) (defBody s_law) (defScope s_law) .none kV32 dc32 pm32 an32 (.ref cc32) ct32
  let FL : List FuncData := [d32, d32, d32, d32, d32, d32, d32, d32, d32, d32, d32, d11, d12, d13, d14, d15, d32, d32, d18, d32, d32, d21, d22, d23, d24, d25, d26, d27, d28, d29, d30, d31, d32, d33, d34, d35, d36]
  let CL : List Addr := [0, 0, 0, 0, 0, 0, 0, 0, 0, 0, 0, 0, 0, 0, 0, 0, 0, 0, 0, 0, 0, 0, 0, 0, 0, 0, 0, 0, 0, 0, 0, 0, cc32, 0, 0, 0, 0]
  let PL : List Addr := [0, 0, 0, 0, 0, 0, 0, 0, 0, 0, 0, 0, 0, 0, 0, 0, 0, 0, 0, 0, 0, 0, 0, 0, 0, 0, 0, 0, 0, 0, 0, 0, PP32, 0, 0, 0, 0]
  have W32 := PySem.W.tab_of (x := "law") GR.T X r32 (tabIn_of (oda := none) a32 l32 rfl q32 v32)
  have F11 : Fun K "is_number" "is_number" s_is_number f11 d11 := fun_mk (st := s_is_number) l11 c11 k11
  have b11 : Binds K d11 p_is_number [] := F11.binds (ps := p_is_number) fun _ _ _ _ _ _ us hl => match us, hl with | [_, _, _], _ => rfl
  have F12 : Fun K "is_letters" "is_letters" s_is_letters f12 d12 := fun_mk (st := s_is_letters) l12 c12 k12
  have b12 : Binds K d12 p_is_letters [] := F12.binds (ps := p_is_letters) fun _ _ _ _ _ _ us hl => match us, hl with | [_], _ => rfl
  have F13 : Fun K "need_letters" "need_letters" s_need_letters f13 d13 := fun_mk (st := s_need_letters) l13 c13 k13
  have b13 : Binds K d13 p_need_letters [] := F13.binds (ps := p_need_letters) fun _ _ _ _ _ _ us hl => match us, hl with | [_], _ => rfl
  have F14 : Fun K "is_word_to" "is_word_to" s_is_word_to f14 d14 := fun_mk (st := s_is_word_to) l14 c14 k14
  have b14 : Binds K d14 p_is_word_to [] := F14.binds (ps := p_is_word_to) fun _ _ _ _ _ _ us hl => match us, hl with | [_, _, _], _ => rfl
  have F15 : FunKw K "need_word" "need_word" s_need_word [("most", .int 20000)] f15 d15 := ⟨⟨_, _, _, _, _, _, _, _, _, _, rfl, l15, c15, .inl ⟨rfl, rfl⟩, .inr ⟨D15, rfl, (fun q hq => by simp at hq; subst hq; exact ⟨_, d15_0, ⟨_, rfl⟩⟩)⟩⟩, k15⟩
  have b15 : ∃ ds, Vals [V.int 20000] ds ∧ Binds K d15 p_need_word ds := FunD.binds0 F15 2 (fun z => by cases z) rfl (fun _ _ _ _ _ _ us ks h1 h2 => match us, h1, ks, h2 with | [_, _], _, [_], _ => ⟨_, _, _, _, _, _, rfl, rfl, rfl⟩)
  have F18 : Fun K "is_stand" "is_stand" s_is_stand f18 d18 := fun_mk (st := s_is_stand) l18 c18 k18
  have b18 : Binds K d18 p_is_stand [] := F18.binds (ps := p_is_stand) fun _ _ _ _ _ _ us hl => match us, hl with | [_, _, _], _ => rfl
  have F21 : Fun K "_law_begun" "_law_begun" s_zlaw_begun f21 d21 := fun_mk (st := s_zlaw_begun) l21 c21 k21
  have b21 : Binds K d21 p_zlaw_begun [] := F21.binds (ps := p_zlaw_begun) fun _ _ _ _ _ _ us hl => match us, hl with | [_], _ => rfl
  have F22 : Fun K "_law_mixed" "_law_mixed" s_zlaw_mixed f22 d22 := fun_mk (st := s_zlaw_mixed) l22 c22 k22
  have b22 : Binds K d22 p_zlaw_mixed [] := F22.binds (ps := p_zlaw_mixed) fun _ _ _ _ _ _ us hl => match us, hl with | [_], _ => rfl
  have F23 : Fun K "_law_take" "_law_take" s_zlaw_take f23 d23 := fun_mk (st := s_zlaw_take) l23 c23 k23
  have b23 : Binds K d23 p_zlaw_take [] := F23.binds (ps := p_zlaw_take) fun _ _ _ _ _ _ us hl => match us, hl with | [_, _], _ => rfl
  have F24 : Fun K "_law_pick" "_law_pick" s_zlaw_pick f24 d24 := fun_mk (st := s_zlaw_pick) l24 c24 k24
  have b24 : Binds K d24 p_zlaw_pick [] := F24.binds (ps := p_zlaw_pick) fun _ _ _ _ _ _ us hl => match us, hl with | [_, _], _ => rfl
  have F25 : Fun K "_law_abc" "_law_abc" s_zlaw_abc f25 d25 := fun_mk (st := s_zlaw_abc) l25 c25 k25
  have b25 : Binds K d25 p_zlaw_abc [] := F25.binds (ps := p_zlaw_abc) fun _ _ _ _ _ _ us hl => match us, hl with | [_, _, _], _ => rfl
  have F26 : Fun K "_law_table" "_law_table" s_zlaw_table f26 d26 := fun_mk (st := s_zlaw_table) l26 c26 k26
  have b26 : Binds K d26 p_zlaw_table [] := F26.binds (ps := p_zlaw_table) fun _ _ _ _ _ _ us hl => match us, hl with | [_, _, _], _ => rfl
  have F27 : Fun K "_law_token" "_law_token" s_zlaw_token f27 d27 := fun_mk (st := s_zlaw_token) l27 c27 k27
  have b27 : Binds K d27 p_zlaw_token [] := F27.binds (ps := p_zlaw_token) fun _ _ _ _ _ _ us hl => match us, hl with | [_, _, _], _ => rfl
  have F28 : Fun K "_law_behind" "_law_behind" s_zlaw_behind f28 d28 := fun_mk (st := s_zlaw_behind) l28 c28 k28
  have b28 : Binds K d28 p_zlaw_behind [] := F28.binds (ps := p_zlaw_behind) fun _ _ _ _ _ _ us hl => match us, hl with | [_, _, _, _], _ => rfl
  have F29 : Fun K "_law_said" "_law_said" s_zlaw_said f29 d29 := fun_mk (st := s_zlaw_said) l29 c29 k29
  have b29 : Binds K d29 p_zlaw_said [] := F29.binds (ps := p_zlaw_said) fun _ _ _ _ _ _ us hl => match us, hl with | [_], _ => rfl
  have F30 : Fun K "_law_is_token" "_law_is_token" s_zlaw_is_token f30 d30 := fun_mk (st := s_zlaw_is_token) l30 c30 k30
  have b30 : Binds K d30 p_zlaw_is_token [] := F30.binds (ps := p_zlaw_is_token) fun _ _ _ _ _ _ us hl => match us, hl with | [_, _], _ => rfl
  have F31 : Fun K "_law_is_stood" "_law_is_stood" s_zlaw_is_stood f31 d31 := fun_mk (st := s_zlaw_is_stood) l31 c31 k31
  have b31 : Binds K d31 p_zlaw_is_stood [] := F31.binds (ps := p_zlaw_is_stood) fun _ _ _ _ _ _ us hl => match us, hl with | [_, _], _ => rfl
  have F33 : Fun K "__init__" "Machine.__init__" s_Machine___init__ f33 d33 := fun_mk (st := s_Machine___init__) l33 c33 k33
  have b33 : Binds K d33 p_Machine___init__ [] := F33.binds (ps := p_Machine___init__) fun _ _ _ _ _ _ us hl => match us, hl with | [_, _, _], _ => rfl
  have F36 : Fun K "__eq__" "Machine.__eq__" s_Machine___eq__ f36 d36 := fun_mk (st := s_Machine___eq__) l36 c36 k36
  have b36 : Binds K d36 p_Machine___eq__ [] := F36.binds (ps := p_Machine___eq__) fun _ _ _ _ _ _ us hl => match us, hl with | [_, _], _ => rfl
  have F34 : FunKw K "behind" "Machine.behind" s_Machine_behind [("stand", .int 0)] f34 d34 := ⟨⟨_, _, _, _, _, _, _, _, _, _, rfl, l34, c34, .inl ⟨rfl, rfl⟩, .inr ⟨D34, rfl, (fun q hq => by simp at hq; subst hq; exact ⟨_, d34_0, ⟨_, rfl⟩⟩)⟩⟩, k34⟩
  have b34 : ∃ ds, Vals [V.int 0] ds ∧ Binds K d34 p_Machine_behind ds := FunD.binds0 F34 2 (fun z => by cases z) rfl (fun _ _ _ _ _ _ us ks h1 h2 => match us, h1, ks, h2 with | [_, _], _, [_], _ => ⟨_, _, _, _, _, _, rfl, rfl, rfl⟩)
  have F35 : Fun K "takes" "Machine.takes" s_Machine_takes f35 d35 := fun_mk (st := s_Machine_takes) l35 c35 k35
  have b35 : Binds K d35 p_Machine_takes [] := F35.binds (ps := p_Machine_takes) fun _ _ _ _ _ _ us hl => match us, hl with | [_, _], _ => rfl
  have F32 : Fun K "law" "law" s_law fa d32 := fun_mk (st := s_law) l32 c32 k32
  have b32 : Binds K d32 p_law [] := F32.binds (ps := p_law) fun _ _ _ _ _ _ us hl => match us, hl with | [_], _ => rfl
  have Z32 : FunC K "law" "law" s_law fa d32 cc32 := ⟨⟨_, _, _, _, _, _, _, _, rfl, l32, c32⟩⟩
  have T : Txt K mg (fun i => AL.getD i 0) (fun i => FL.getD i d32) (fun i => CL.getD i 0) := { n_ValueError := PySem.W.mg_none_of X G n_ValueError, n_all := PySem.W.mg_none_of X G n_all, n_bool := PySem.W.mg_none_of X G n_bool, n_int := PySem.W.mg_none_of X G n_int, n_isinstance := PySem.W.mg_none_of X G n_isinstance, n_len := PySem.W.mg_none_of X G n_len, n_list := PySem.W.mg_none_of X G n_list, n_min := PySem.W.mg_none_of X G n_min, n_range := PySem.W.mg_none_of X G n_range, n_set := PySem.W.mg_none_of X G n_set, n_sorted := PySem.W.mg_none_of X G n_sorted, n_str := PySem.W.mg_none_of X G n_str, n_tuple := PySem.W.mg_none_of X G n_tuple, n_zip := PySem.W.mg_none_of X G n_zip, c_SMALL := ⟨zSMALL, by rw [show S [97, 98, 99, 100, 101, 102, 103, 104, 105, 106, 107, 108, 109, 110, 111, 112, 113, 114, 115, 116, 117, 118, 119, 120, 121, 122] = ("abcdefghijklmnopqrstuvwxyz" : Str) from by decide +kernel]; exact PySem.W.mg_of X G mSMALL⟩, c_MOST_LETTERS := ⟨_, PySem.W.mg_of X G mMOST_LETTERS⟩, c_MOST_IN_WORD := ⟨_, PySem.W.mg_of X G mMOST_IN_WORD⟩, c_MOST_STANDS := ⟨_, PySem.W.mg_of X G mMOST_STANDS⟩, g_SwingError := PySem.W.mg_of X G a1, x_SwingError := x1, k_SwingError := k1, y_SwingError := y1, t_SwingError := t1, g_NoLetters := PySem.W.mg_of X G a2, x_NoLetters := x2, k_NoLetters := k2, y_NoLetters := y2, t_NoLetters := t2, g_NoWord := PySem.W.mg_of X G a3, x_NoWord := x3, k_NoWord := k3, y_NoWord := y3, t_NoWord := t3, g_NoNumber := PySem.W.mg_of X G a4, x_NoNumber := x4, k_NoNumber := k4, y_NoNumber := y4, t_NoNumber := t4, g_NoMachine := PySem.W.mg_of X G a5, x_NoMachine := x5, k_NoMachine := k5, y_NoMachine := y5, t_NoMachine := t5, g_TooGreat := PySem.W.mg_of X G a6, x_TooGreat := x6, k_TooGreat := k6, y_TooGreat := y6, t_TooGreat := t6, g_Machine := PySem.W.mg_of X G a19, cl_Machine := ⟨u19, h19, v19, w19⟩, mk_Machine := ⟨x19, a33, i33, k19⟩, na_Machine_letters_told := y19_0, na_Machine_stand_rows := y19_1, in_Machine := ⟨⟨u19, h19, v19, w19⟩, ia19, SN, TK, im19⟩, j_NoneType_Machine := kit_tyown h19 it19 J_NoneType_19, j_bool_Machine := kit_tyown h19 it19 J_bool_19, j_int_Machine := kit_tyown h19 it19 J_int_19, j_str_Machine := kit_tyown h19 it19 J_str_19, j_list_Machine := kit_tyown h19 it19 J_list_19, j_tuple_Machine := kit_tyown h19 it19 J_tuple_19, j_dict_Machine := kit_tyown h19 it19 J_dict_19, jo_Machine_Machine := kit_own h19 it19 JO_19_19 (.inl rfl), e_NoLetters := ⟨G1_2, G2_2, y2, h2, G3_2, SN, TK, G4_2⟩, e_NoWord := ⟨G1_3, G2_3, y3, h3, G3_3, SN, TK, G4_3⟩, e_NoMachine := ⟨G1_5, G2_5, y5, h5, G3_5, SN, TK, G4_5⟩, e_NoNumber := ⟨G1_4, G2_4, y4, h4, G3_4, SN, TK, G4_4⟩, i_NoLetters_NoWord := kit_own h3 t3 S_2_3 (.inr E_2_3), i_NoWord_NoWord := kit_own h3 t3 S_3_3 (.inl rfl), i_NoMachine_NoWord := kit_own h3 t3 S_5_3 (.inr E_5_3), i_NoNumber_NoWord := kit_own h3 t3 S_4_3 (.inr E_4_3), i_NoLetters_NoNumber := kit_own h4 t4 S_2_4 (.inr E_2_4), i_NoWord_NoNumber := kit_own h4 t4 S_3_4 (.inr E_3_4), i_NoMachine_NoNumber := kit_own h4 t4 S_5_4 (.inr E_5_4), i_NoNumber_NoNumber := kit_own h4 t4 S_4_4 (.inl rfl), i_NoLetters_NoLetters := kit_own h2 t2 S_2_2 (.inl rfl), i_NoWord_NoLetters := kit_own h2 t2 S_3_2 (.inr E_3_2), i_NoMachine_NoLetters := kit_own h2 t2 S_5_2 (.inr E_5_2), i_NoNumber_NoLetters := kit_own h2 t2 S_4_2 (.inr E_4_2), i_NoLetters_NoMachine := kit_own h5 t5 S_2_5 (.inr E_2_5), i_NoWord_NoMachine := kit_own h5 t5 S_3_5 (.inr E_3_5), i_NoMachine_NoMachine := kit_own h5 t5 S_5_5 (.inl rfl), i_NoNumber_NoMachine := kit_own h5 t5 S_4_5 (.inr E_4_5), i_NoLetters_TooGreat := kit_own h6 t6 S_2_6 (.inr E_2_6), i_NoWord_TooGreat := kit_own h6 t6 S_3_6 (.inr E_3_6), i_NoMachine_TooGreat := kit_own h6 t6 S_5_6 (.inr E_5_6), i_NoNumber_TooGreat := kit_own h6 t6 S_4_6 (.inr E_4_6), i_NoLetters_ValueError := kit_blt (by decide +kernel) V_2, i_NoWord_ValueError := kit_blt (by decide +kernel) V_3, i_NoMachine_ValueError := kit_blt (by decide +kernel) V_5, i_NoNumber_ValueError := kit_blt (by decide +kernel) V_4, m_NoLetters_SwingError := PySem.W.exm_ref y1 h1 t1 S_2_1, m_NoWord_SwingError := PySem.W.exm_ref y1 h1 t1 S_3_1, m_NoMachine_SwingError := PySem.W.exm_ref y1 h1 t1 S_5_1, m_NoNumber_SwingError := PySem.W.exm_ref y1 h1 t1 S_4_1, g_is_number := PySem.W.mg_of X G a11, f_is_number := F11, b_is_number := b11, g_is_letters := PySem.W.mg_of X G a12, f_is_letters := F12, b_is_letters := b12, g_need_letters := PySem.W.mg_of X G a13, f_need_letters := F13, b_need_letters := b13, g_is_word_to := PySem.W.mg_of X G a14, f_is_word_to := F14, b_is_word_to := b14, g_need_word := PySem.W.mg_of X G a15, f_need_word := F15, b_need_word := b15, g_is_stand := PySem.W.mg_of X G a18, f_is_stand := F18, b_is_stand := b18, g_zlaw_begun := PySem.W.mg_of X G a21, f_zlaw_begun := F21, b_zlaw_begun := b21, g_zlaw_mixed := PySem.W.mg_of X G a22, f_zlaw_mixed := F22, b_zlaw_mixed := b22, g_zlaw_take := PySem.W.mg_of X G a23, f_zlaw_take := F23, b_zlaw_take := b23, g_zlaw_pick := PySem.W.mg_of X G a24, f_zlaw_pick := F24, b_zlaw_pick := b24, g_zlaw_abc := PySem.W.mg_of X G a25, f_zlaw_abc := F25, b_zlaw_abc := b25, g_zlaw_table := PySem.W.mg_of X G a26, f_zlaw_table := F26, b_zlaw_table := b26, g_zlaw_token := PySem.W.mg_of X G a27, f_zlaw_token := F27, b_zlaw_token := b27, g_zlaw_behind := PySem.W.mg_of X G a28, f_zlaw_behind := F28, b_zlaw_behind := b28, g_zlaw_said := PySem.W.mg_of X G a29, f_zlaw_said := F29, b_zlaw_said := b29, g_zlaw_is_token := PySem.W.mg_of X G a30, f_zlaw_is_token := F30, b_zlaw_is_token := b30, g_zlaw_is_stood := PySem.W.mg_of X G a31, f_zlaw_is_stood := F31, b_zlaw_is_stood := b31, me_Machine___init__ := ⟨a33, i33, k33⟩, f_Machine___init__ := F33, b_Machine___init__ := b33, me_Machine___eq__ := ⟨a36, i36, k36⟩, f_Machine___eq__ := F36, b_Machine___eq__ := b36, me_Machine_behind := ⟨a34, i34, k34⟩, f_Machine_behind := F34, b_Machine_behind := b34, me_Machine_takes := ⟨a35, i35, k35⟩, f_Machine_takes := F35, b_Machine_takes := b35, g_law := PySem.W.mg_of X G a32, f_law := F32, b_law := b32, z_law := Z32, k_Machine_behind_2_stand := fun_kwbD F34 (fun _ _ _ _ _ _ us ws h1 h2 => match us, h1, ws, h2 with | [_, _], _, [_], _ => rfl), k_Machine_behind_1_stand_word := fun_kwbD F34 (fun _ _ _ _ _ _ us ws h1 h2 => match us, h1, ws, h2 with | [_], _, [_, _], _ => rfl), k_Machine_takes_1_word := fun_kwb F35 (fun _ _ _ _ _ _ us ws h1 h2 => match us, h1, ws, h2 with | [_], _, [_], _ => rfl) }
  refine ⟨d32, [(cc32, PP32)], spLaw K (TT fun i => PL.getD i 0), (List.forall_mem_cons.mpr ⟨W32.2, (fun _ z => nomatch z)⟩), (List.forall_mem_cons.mpr ⟨noTab X nt W32.2, (fun _ z => nomatch z)⟩), (List.forall_mem_cons.mpr ⟨W32.1, (fun _ z => nomatch z)⟩), fun s v => .of_eq rfl, fun H a ns hl _ hcs hS => ⟨a, ns, rfl, hS, hl, ?_, fun _ => rfl⟩, fun base _ _ hB => ?_⟩
  · intro p hp
    simp only [TT, List.mem_cons, List.not_mem_nil, or_false] at hp
    rcases hp with rfl
    · exact hcs (cc32, PP32) (by simp)
  · have U : Tbs mg base (fun i => CL.getD i 0) (fun i => PL.getD i 0) := { t_law := hB (cc32, PP32) (by simp), m_law := by simp [TT], u := fun p hp _ => by simp only [TT, List.mem_cons, List.not_mem_nil, or_false] at hp; rcases hp with rfl <;> rfl }
    exact (ok_law (B := fun _ => none) T U).imp spLaw_ok
end SW
open PySem PySem.W PyProof.Rows in
set_option maxRecDepth 100000 in
set_option maxHeartbeats 0 in
theorem PySem.Challenge.cw_swingwords_k08_words_walked_holds : PySem.Challenge.rw_swingwords_k08_words_walked.Holds := by
  w_on; o_law; k_head; (case hw => w_witness2)
  k_fill
  refine SW.walk_T (l := PySem.Challenge.rw_swingwords_k08_words_walked) (n := 63) (k := 10) (x := "_law_script") (CX := fun w => L2.CX PySem.Challenge.rw_swingwords_k08_words_walked.prog w) rfl (by decide) rfl ⟨rfl, by decide, by decide⟩ (fun w h Y => PySem.W.km_in_of Y) ?F (fun _ _ _ _ _ ⟨_, _, _, _, _, _, _, _, _, _, _, _, z⟩ => z)
  case F =>
    intro w s₀ mg mb fa h GR KX G hmg
    refine' SW.all_mk GR KX G hmg ?a19 ?u19 ?h19 ?v19 ?w19 ?x19 ?k19 ?ia19 ?im19 ?it19 ?y19_0 ?y19_1 ?a11 ?l11 ?c11 ?k11 ?a12 ?l12 ?c12 ?k12 ?a13 ?l13 ?c13 ?k13 ?a14 ?l14 ?c14 ?k14 ?a15 ?l15 ?c15 ?k15 ?d15_0 ?a18 ?l18 ?c18 ?k18 ?a21 ?l21 ?c21 ?k21 ?a22 ?l22 ?c22 ?k22 ?a23 ?l23 ?c23 ?k23 ?a24 ?l24 ?c24 ?k24 ?a25 ?l25 ?c25 ?k25 ?a26 ?l26 ?c26 ?k26 ?a27 ?l27 ?c27 ?k27 ?a28 ?l28 ?c28 ?k28 ?a29 ?l29 ?c29 ?k29 ?a30 ?l30 ?c30 ?k30 ?a31 ?l31 ?c31 ?k31 ?a33 ?i33 ?l33 ?c33 ?k33 ?a36 ?i36 ?l36 ?c36 ?k36 ?a34 ?i34 ?l34 ?c34 ?k34 ?d34_0 ?a35 ?i35 ?l35 ?c35 ?k35 ?a32 ?l32 ?c32 ?k32 ?q32 ?v32 ?r32 ?a1 ?x1 ?k1 ?y1 ?t1 ?a2 ?x2 ?k2 ?y2 ?t2 ?a3 ?x3 ?k3 ?y3 ?t3 ?a4 ?x4 ?k4 ?y4 ?t4 ?a5 ?x5 ?k5 ?y5 ?t5 ?a6 ?x6 ?k6 ?y6 ?t6 ?h2 ?h3 ?h5 ?h4 ?h6 ?h1 ?SN ?TK ?G1_2 ?G2_2 ?G3_2 ?G4_2 ?G1_3 ?G2_3 ?G3_3 ?G4_3 ?G1_5 ?G2_5 ?G3_5 ?G4_5 ?G1_4 ?G2_4 ?G3_4 ?G4_4 ?J_NoneType_19 ?J_bool_19 ?J_int_19 ?J_str_19 ?J_list_19 ?J_tuple_19 ?J_dict_19 ?JO_19_19 ?S_2_3 ?S_3_3 ?S_5_3 ?S_4_3 ?S_2_4 ?S_3_4 ?S_5_4 ?S_4_4 ?S_2_2 ?S_3_2 ?S_5_2 ?S_4_2 ?S_2_5 ?S_3_5 ?S_5_5 ?S_4_5 ?S_2_6 ?S_3_6 ?S_5_6 ?S_4_6 ?S_2_1 ?S_3_1 ?S_5_1 ?S_4_1 ?E_2_3 ?E_5_3 ?E_4_3 ?E_2_4 ?E_3_4 ?E_5_4 ?E_3_2 ?E_5_2 ?E_4_2 ?E_2_5 ?E_3_5 ?E_4_5 ?E_2_6 ?E_3_6 ?E_5_6 ?E_4_6 ?V_2 ?V_3 ?V_5 ?V_4 ?mSMALL ?mMOST_LETTERS ?mMOST_IN_WORD ?mMOST_STANDS ?n_ValueError ?n_all ?n_bool ?n_int ?n_isinstance ?n_len ?n_list ?n_min ?n_range ?n_set ?n_sorted ?n_str ?n_tuple ?n_zip ?nt
    (case a19 => k_is)
    (case u19 => k_is)
    (case h19 => k_is)
    (case v19 => k_is)
    (case w19 => k_is)
    (case x19 => k_is)
    (case k19 => k_is)
    (case ia19 => k_is)
    (case im19 => k_is)
    (case it19 => k_is)
    (case y19_0 => k_is)
    (case y19_1 => k_is)
    (case a11 => k_is)
    (case l11 => k_is)
    (case c11 => k_is)
    (case k11 => k_is)
    (case a12 => k_is)
    (case l12 => k_is)
    (case c12 => k_is)
    (case k12 => k_is)
    (case a13 => k_is)
    (case l13 => k_is)
    (case c13 => k_is)
    (case k13 => k_is)
    (case a14 => k_is)
    (case l14 => k_is)
    (case c14 => k_is)
    (case k14 => k_is)
    (case a15 => k_is)
    (case l15 => k_is)
    (case c15 => k_is)
    (case k15 => k_is)
    (case d15_0 => k_is)
    (case a18 => k_is)
    (case l18 => k_is)
    (case c18 => k_is)
    (case k18 => k_is)
    (case a21 => k_is)
    (case l21 => k_is)
    (case c21 => k_is)
    (case k21 => k_is)
    (case a22 => k_is)
    (case l22 => k_is)
    (case c22 => k_is)
    (case k22 => k_is)
    (case a23 => k_is)
    (case l23 => k_is)
    (case c23 => k_is)
    (case k23 => k_is)
    (case a24 => k_is)
    (case l24 => k_is)
    (case c24 => k_is)
    (case k24 => k_is)
    (case a25 => k_is)
    (case l25 => k_is)
    (case c25 => k_is)
    (case k25 => k_is)
    (case a26 => k_is)
    (case l26 => k_is)
    (case c26 => k_is)
    (case k26 => k_is)
    (case a27 => k_is)
    (case l27 => k_is)
    (case c27 => k_is)
    (case k27 => k_is)
    (case a28 => k_is)
    (case l28 => k_is)
    (case c28 => k_is)
    (case k28 => k_is)
    (case a29 => k_is)
    (case l29 => k_is)
    (case c29 => k_is)
    (case k29 => k_is)
    (case a30 => k_is)
    (case l30 => k_is)
    (case c30 => k_is)
    (case k30 => k_is)
    (case a31 => k_is)
    (case l31 => k_is)
    (case c31 => k_is)
    (case k31 => k_is)
    (case a33 => k_is)
    (case i33 => k_is)
    (case l33 => k_is)
    (case c33 => k_is)
    (case k33 => k_is)
    (case a36 => k_is)
    (case i36 => k_is)
    (case l36 => k_is)
    (case c36 => k_is)
    (case k36 => k_is)
    (case a34 => k_is)
    (case i34 => k_is)
    (case l34 => k_is)
    (case c34 => k_is)
    (case k34 => k_is)
    (case d34_0 => k_is)
    (case a35 => k_is)
    (case i35 => k_is)
    (case l35 => k_is)
    (case c35 => k_is)
    (case k35 => k_is)
    (case a32 => k_is)
    (case l32 => k_is)
    (case c32 => k_is)
    (case k32 => k_is)
    (case q32 => k_is)
    (case v32 => exact rfl)
    (case r32 => exact rfl)
    (case a1 => k_is)
    (case x1 => k_exc)
    (case k1 => k_is)
    (case y1 => k_is)
    (case t1 => k_is)
    (case a2 => k_is)
    (case x2 => k_exc)
    (case k2 => k_is)
    (case y2 => k_is)
    (case t2 => k_is)
    (case a3 => k_is)
    (case x3 => k_exc)
    (case k3 => k_is)
    (case y3 => k_is)
    (case t3 => k_is)
    (case a4 => k_is)
    (case x4 => k_exc)
    (case k4 => k_is)
    (case y4 => k_is)
    (case t4 => k_is)
    (case a5 => k_is)
    (case x5 => k_exc)
    (case k5 => k_is)
    (case y5 => k_is)
    (case t5 => k_is)
    (case a6 => k_is)
    (case x6 => k_exc)
    (case k6 => k_is)
    (case y6 => k_is)
    (case t6 => k_is)
    (case h2 => k_is)
    (case h3 => k_is)
    (case h5 => k_is)
    (case h4 => k_is)
    (case h6 => k_is)
    (case h1 => k_is)
    (case SN => k_is)
    (case TK => k_is)
    (case G1_2 => k_is)
    (case G2_2 => k_is)
    (case G3_2 => k_is)
    (case G4_2 => k_is)
    (case G1_3 => k_is)
    (case G2_3 => k_is)
    (case G3_3 => k_is)
    (case G4_3 => k_is)
    (case G1_5 => k_is)
    (case G2_5 => k_is)
    (case G3_5 => k_is)
    (case G4_5 => k_is)
    (case G1_4 => k_is)
    (case G2_4 => k_is)
    (case G3_4 => k_is)
    (case G4_4 => k_is)
    (case J_NoneType_19 => k_is)
    (case J_bool_19 => k_is)
    (case J_int_19 => k_is)
    (case J_str_19 => k_is)
    (case J_list_19 => k_is)
    (case J_tuple_19 => k_is)
    (case J_dict_19 => k_is)
    (case JO_19_19 => k_is)
    (case S_2_3 => k_is)
    (case S_3_3 => k_is)
    (case S_5_3 => k_is)
    (case S_4_3 => k_is)
    (case S_2_4 => k_is)
    (case S_3_4 => k_is)
    (case S_5_4 => k_is)
    (case S_4_4 => k_is)
    (case S_2_2 => k_is)
    (case S_3_2 => k_is)
    (case S_5_2 => k_is)
    (case S_4_2 => k_is)
    (case S_2_5 => k_is)
    (case S_3_5 => k_is)
    (case S_5_5 => k_is)
    (case S_4_5 => k_is)
    (case S_2_6 => k_is)
    (case S_3_6 => k_is)
    (case S_5_6 => k_is)
    (case S_4_6 => k_is)
    (case S_2_1 => k_is)
    (case S_3_1 => k_is)
    (case S_5_1 => k_is)
    (case S_4_1 => k_is)
    (case E_2_3 => exact rfl)
    (case E_5_3 => exact rfl)
    (case E_4_3 => exact rfl)
    (case E_2_4 => exact rfl)
    (case E_3_4 => exact rfl)
    (case E_5_4 => exact rfl)
    (case E_3_2 => exact rfl)
    (case E_5_2 => exact rfl)
    (case E_4_2 => exact rfl)
    (case E_2_5 => exact rfl)
    (case E_3_5 => exact rfl)
    (case E_4_5 => exact rfl)
    (case E_2_6 => exact rfl)
    (case E_3_6 => exact rfl)
    (case E_5_6 => exact rfl)
    (case E_4_6 => exact rfl)
    (case V_2 => k_is)
    (case V_3 => k_is)
    (case V_5 => k_is)
    (case V_4 => k_is)
    (case mSMALL => k_is)
    (case mMOST_LETTERS => k_is)
    (case mMOST_IN_WORD => k_is)
    (case mMOST_STANDS => k_is)
    (case n_ValueError => k_is)
    (case n_all => k_is)
    (case n_bool => k_is)
    (case n_int => k_is)
    (case n_isinstance => k_is)
    (case n_len => k_is)
    (case n_list => k_is)
    (case n_min => k_is)
    (case n_range => k_is)
    (case n_set => k_is)
    (case n_sorted => k_is)
    (case n_str => k_is)
    (case n_tuple => k_is)
    (case n_zip => k_is)
    (case nt => kernel_rfl)
#print axioms PySem.Challenge.cw_swingwords_k08_words_walked_holds
