import PyProof.Rows.All
import Wide.All
import OpenK.AllK
import Wide.FinOn
import HandS.ForMost
import HandS.ForSpec
import HandS.CallSlots
import HandS.CallLocal
import HandS.Zip
import HandS.IsInst
import HandS.TupAny
import HandS.TupMul
import HandS.Deep
import HandS.Wide
import HandS.Style
import HandS.Text
import HandS.Flow
import HandS.Codes
import HandS.NoneIn
import HandS.Ends
import PySem.Challenge.RW_makes_k03_longs
set_option Elab.async false
set_option linter.all false
set_option maxRecDepth 100000
/-! the D layer, 1: plain data, how it stands in the heap, what a step keeps -/
namespace DL
open PySem PySem.Spec L2

/-- plain data. tup, lst, dic: never changed any more; ref: a shared object of the store; fn: a def or class of the module;
own, owd: an owned list, dict (at a slot, or fresh); slot: what stands at a slot (an operand) -/
inductive D where
  | non | bl (b : Bool) | int (i : Int) | str (s : Str)
  | tup (xs : List D) | lst (xs : List D) | dic (es : List D)
  | ref (a : Addr) | fn (f : Str) | ty (n : String)
  | own (xs : List D) | owd (es : List D) | slot (i : Nat)
  deriving Inhabited

/-- an object of the store -/
inductive DO where
  | lst (xs : List D) | dic (es : List D) | ins (c : Str) (fs : List (Str × D))
abbrev Sto := Addr → Option DO
def Sto.put (S : Sto) (a : Addr) (o : DO) : Sto := fun b => if b = a then some o else S b
structure DSt where
  env : List (Option D)
  sto : Sto
/-- an exception -/
structure Exn where
  cls : Str
  fs : List (Str × D)

def isOwn : D → Bool
  | .own _ => true
  | .owd _ => true
  | _ => false
/-- owned: from now on never changed -/
def fz : D → D
  | .own xs => .lst xs
  | .owd es => .dic es
  | d => d
/-- a value that may be kept anywhere -/
def plain1 : D → Bool
  | .own _ => false
  | .owd _ => false
  | .slot _ => false
  | _ => true

section
variable (K : PySem.W.Frag) (mg : Str → Option Value) (F : Hp)
mutual
inductive RepV : D → V → Prop
  | non : RepV .non .non
  | bl (b) : RepV (.bl b) (.bl b)
  | int (i) : RepV (.int i) (.int i)
  | str {s} : PyData.strOk s = true → RepV (.str s) (.str s)
  | tup {ds a xs} : ds.length ≤ sizeLine → SqT K F a xs → RepVs ds xs → RepV (.tup ds) (.ref a)
  | lst {ds a xs} : ds.length ≤ sizeLine → SqL K F a xs → RepVs ds xs → RepV (.lst ds) (.ref a)
  | dic {es a kvs} : Rd F a (.dK kvs) → RepEs es kvs → RepV (.dic es) (.ref a)
  | ref (a) : RepV (.ref a) (.ref a)
  | fn {f a} : mg f = some (.ref a) → RepV (.fn f) (.ref a)
  | ty (n) : RepV (.ty n) (.ty n)
inductive RepVs : List D → List V → Prop
  | nil : RepVs [] []
  | cons {d v ds vs} : RepV d v → RepVs ds vs → RepVs (d :: ds) (v :: vs)
inductive RepEs : List D → List (Key × V) → Prop
  | nil : RepEs [] []
  | cons {dk d k v es kvs} : RepV dk (kV k) → RepV d v → RepEs es kvs → RepEs (.tup [dk, d] :: es) ((k, v) :: kvs)
end
end

section
variable {K : PySem.W.Frag} {mg : Str → Option Value} {F F' : Hp}
def Ext (F F' : Hp) : Prop := ∀ a o, F a = some o → F' a = some o
theorem Ext.refl : Ext F F := fun _ _ h => h
theorem Ext.trans {F'' : Hp} (a : Ext F F') (b : Ext F' F'') : Ext F F'' := fun x o h => b x o (a x o h)
theorem Ext.rd (e : Ext F F') {a : Addr} {o : HO} (h : Rd F a o) : Rd F' a o := by
  rcases h with h | ⟨u, h⟩
  · exact .inl (e _ _ h)
  · exact .inr ⟨u, e _ _ h⟩
theorem Ext.sqL (e : Ext F F') {a : Addr} {xs : List V} (h : SqL K F a xs) : SqL K F' a xs := by
  rcases h with h | h
  · exact .inl (e.rd h)
  · exact .inr h
theorem Ext.sqT (e : Ext F F') {a : Addr} {xs : List V} (h : SqT K F a xs) : SqT K F' a xs := by
  rcases h with h | h
  · exact .inl (e.rd h)
  · exact .inr h
mutual
theorem RepV.mono (e : Ext F F') : ∀ {d : D} {v : V}, RepV K mg F d v → RepV K mg F' d v
  | _, _, .non => .non
  | _, _, .bl b => .bl b
  | _, _, .int i => .int i
  | _, _, .str h => .str h
  | _, _, .tup l h r => .tup l (e.sqT h) (RepVs.mono e r)
  | _, _, .lst l h r => .lst l (e.sqL h) (RepVs.mono e r)
  | _, _, .dic h r => .dic (e.rd h) (RepEs.mono e r)
  | _, _, .ref a => .ref a
  | _, _, .fn h => .fn h
  | _, _, .ty n => .ty n
theorem RepVs.mono (e : Ext F F') : ∀ {ds : List D} {vs : List V}, RepVs K mg F ds vs → RepVs K mg F' ds vs
  | _, _, .nil => .nil
  | _, _, .cons h r => .cons (RepV.mono e h) (RepVs.mono e r)
theorem RepEs.mono (e : Ext F F') : ∀ {es : List D} {kvs : List (Key × V)}, RepEs K mg F es kvs → RepEs K mg F' es kvs
  | _, _, .nil => .nil
  | _, _, .cons h1 h2 r => .cons (RepV.mono e h1) (RepV.mono e h2) (RepEs.mono e r)
end
theorem RepVs.length : ∀ {ds : List D} {vs : List V}, RepVs K mg F ds vs → ds.length = vs.length
  | _, _, .nil => rfl
  | _, _, .cons _ r => by simp only [List.length_cons, RepVs.length r]
theorem RepVs.append : ∀ {ds es : List D} {vs ws : List V}, RepVs K mg F ds vs → RepVs K mg F es ws → RepVs K mg F (ds ++ es) (vs ++ ws)
  | _, _, _, _, .nil, s => s
  | _, _, _, _, .cons h r, s => .cons h (RepVs.append r s)
theorem RepVs.get : ∀ {ds : List D} {vs : List V} {i : Nat} {d : D}, RepVs K mg F ds vs → ds[i]? = some d → ∃ v, vs[i]? = some v ∧ RepV K mg F d v
  | _, _, _, _, .nil, e => by simp at e
  | _, _, 0, _, .cons h _, e => by simp at e; subst e; exact ⟨_, rfl, h⟩
  | _, _, i + 1, d, .cons _ r, e => by
    obtain ⟨v, h1, h2⟩ := RepVs.get (i := i) (d := d) r (by simpa using e)
    exact ⟨v, by simpa using h1, h2⟩
theorem RepVs.get' : ∀ {ds : List D} {vs : List V} {i : Nat} {v : V}, RepVs K mg F ds vs → vs[i]? = some v → ∃ d, ds[i]? = some d ∧ RepV K mg F d v
  | _, _, _, _, .nil, e => by simp at e
  | _, _, 0, _, .cons h _, e => by simp at e; subst e; exact ⟨_, rfl, h⟩
  | _, _, i + 1, v, .cons _ r, e => by
    obtain ⟨d, h1, h2⟩ := RepVs.get' (i := i) (v := v) r (by simpa using e)
    exact ⟨d, by simpa using h1, h2⟩
theorem RepVs.set : ∀ {ds : List D} {vs : List V} {d : D} {v : V} (i : Nat), RepVs K mg F ds vs → RepV K mg F d v → RepVs K mg F (ds.set i d) (vs.set i v)
  | _, _, _, _, _, .nil, _ => .nil
  | _, _, _, _, 0, .cons _ r, h => .cons h r
  | _, _, _, _, i + 1, .cons q r, h => .cons q (RepVs.set i r h)
theorem RepVs.take : ∀ {ds : List D} {vs : List V} (n : Nat), RepVs K mg F ds vs → RepVs K mg F (ds.take n) (vs.take n)
  | _, _, 0, _ => by simp only [List.take_zero]; exact .nil
  | _, _, _ + 1, .nil => .nil
  | _, _, n + 1, .cons h r => .cons h (RepVs.take n r)
theorem RepVs.drop : ∀ {ds : List D} {vs : List V} (n : Nat), RepVs K mg F ds vs → RepVs K mg F (ds.drop n) (vs.drop n)
  | _, _, 0, r => r
  | _, _, _ + 1, .nil => .nil
  | _, _, n + 1, .cons _ r => RepVs.drop n r
theorem RepVs.reverse : ∀ {ds : List D} {vs : List V}, RepVs K mg F ds vs → RepVs K mg F ds.reverse vs.reverse
  | _, _, .nil => .nil
  | _, _, .cons h r => by
    rw [List.reverse_cons, List.reverse_cons]
    exact (RepVs.reverse r).append (.cons h .nil)
theorem RepVs.dropLast : ∀ {ds : List D} {vs : List V}, RepVs K mg F ds vs → RepVs K mg F ds.dropLast vs.dropLast
  | _, _, .nil => .nil
  | _, _, .cons h .nil => .nil
  | _, _, .cons h (.cons h2 r) => .cons h (RepVs.dropLast (.cons h2 r))
theorem RepV.plain {d : D} {v : V} (h : RepV K mg F d v) : plain1 d = true := by cases h <;> rfl
theorem RepV.notOwn {d : D} {v : V} (h : RepV K mg F d v) : isOwn d = false := by cases h <;> rfl
theorem RepV.fz {d : D} {v : V} (h : RepV K mg F d v) : fz d = d := by cases h <;> rfl
/-- a value of no object: its V -/
def flat? : D → Option V
  | .non => some .non
  | .bl b => some (.bl b)
  | .int i => some (.int i)
  | .str s => some (.str s)
  | _ => none
theorem RepV.flat {d : D} {v u : V} (h : RepV K mg F d v) (e : flat? d = some u) : v = u := by
  cases h <;> simp [flat?] at e <;> exact e
end

/-! ### the store, the slots -/
section
variable (K : PySem.W.Frag) (mg : Str → Option Value)
def RepF (F : Hp) : List (Str × D) → List (Str × V) → Prop := Paired fun (p : Str × D) (q : Str × V) => p.1 = q.1 ∧ RepV K mg F p.2 q.2
def RepO (F H : Hp) (a : Addr) : DO → Prop
  | .lst ds => ∃ xs, H a = some (.lst xs) ∧ RepVs K mg F ds xs ∧ ds.length ≤ sizeLine
  | .dic es => ∃ kvs, H a = some (.dK kvs) ∧ RepEs K mg F es kvs
  | .ins c fs => ∃ C dx fv, H a = some (.ins C dx fv) ∧ mg c = some (.ref C) ∧ RepF K mg F fs fv
/-- F: what never changes; T: what may -/
structure RepSto (F : Hp) (T : Sto) (H : Hp) (S : Sto) : Prop where
  fr : ∀ a o, F a = some o → H a = some o ∨ ∃ w, H a = some (.frz w o) ∧ Mut (some o)
  ob : ∀ a o, T a = some o → F a = none ∧ RepO K mg F H a o
  sub : ∀ a o, S a = some o → T a = some o
/-- a result: it may be fresh and owned -/
def RepQ (F : Hp) (T S : Sto) (d : D) (v : V) : Prop := match d with
  | .own ds => ∃ a, v = .ref a ∧ T a = some (.lst ds) ∧ S a = none
  | .owd es => ∃ a, v = .ref a ∧ T a = some (.dic es) ∧ S a = none
  | d => RepV K mg F d v
structure Rep (F : Hp) (T : Sto) (H : Hp) (st : DSt) (σ : L2.St) : Prop extends RepSto K mg F T H st.sto where
  env : ∀ (i : Nat) (d : D), st.env[i]? = some (some d) → ∃ v, σ[i]? = some (some v) ∧ RepQ K mg F T st.sto d v
  inj : ∀ (i j : Nat) (d e : D) (a : Addr), st.env[i]? = some (some d) → isOwn d = true → st.env[j]? = some (some e) → isOwn e = true → σ[i]? = some (some (V.ref a)) → σ[j]? = some (some (V.ref a)) → i = j
  len : st.env.length = σ.length
/-- no slot owns it -/
def NotAt (st : DSt) (σ : L2.St) (a : Addr) : Prop := ∀ (i : Nat) (e : D), st.env[i]? = some (some e) → isOwn e = true → σ[i]? ≠ some (some (V.ref a))
def RepR (F : Hp) (T : Sto) (st : DSt) (σ : L2.St) (d : D) (v : V) : Prop := RepQ K mg F T st.sto d v ∧ (isOwn d = true → ∀ a, v = .ref a → NotAt st σ a)
/-- an operand: a slot's name, or a value -/
def RepP (F : Hp) (σ : L2.St) (d : D) (v : V) : Prop := match d with
  | .slot i => σ[i]? = some (some v)
  | d => RepV K mg F d v
/-- what an operand is now -/
def RepW (F : Hp) (T : Sto) (d : D) (v : V) : Prop := RepV K mg F d v ∨ ∃ a, v = .ref a ∧ ((∃ ds, d = .lst ds ∧ T a = some (.lst ds)) ∨ ∃ es, d = .dic es ∧ T a = some (.dic es))
end

/-- what a step keeps: F grows; what is neither in F nor in T stays -/
structure G (F : Hp) (T : Sto) (H F' : Hp) (T' : Sto) (H' : Hp) : Prop where
  g1 : Ext F F'
  g2 : ∀ a o, H a = some o → T a = none → F a = none → H' a = some o
  g3 : ∀ a, F' a ≠ none → F a ≠ none ∨ T a ≠ none ∨ H a = none
  g4 : ∀ a, T' a ≠ none → T a ≠ none ∨ H a = none
  g5 : ∀ a, H' a = none → H a = none
section
variable {F F' F'' H H' H'' : Hp} {T T' T'' : Sto}
theorem G.refl : G F T H F T H := ⟨.refl, fun _ _ h _ _ => h, fun _ h => .inl h, fun _ h => .inl h, fun _ h => h⟩
theorem ne_none {α : Type} {x : Option α} (h : x ≠ none) : ∃ y, x = some y := by
  cases x with
  | none => exact absurd rfl h
  | some y => exact ⟨y, rfl⟩
theorem ne_some {α : Type} {x : Option α} {y : α} (h : x = some y) : x ≠ none := by rw [h]; simp
theorem not_none {α : Type} {x : Option α} (h : ¬ x ≠ none) : x = none := by
  cases x with
  | none => rfl
  | some y => exact absurd (by simp) h
theorem G.trans (a : G F T H F' T' H') (b : G F' T' H' F'' T'' H'') : G F T H F'' T'' H'' := by
  refine ⟨a.g1.trans b.g1, fun x o h1 h2 h3 => b.g2 x o (a.g2 x o h1 h2 h3) (not_none fun z => ?_) (not_none fun z => ?_), fun x h => ?_, fun x h => ?_, fun x h => a.g5 x (b.g5 x h)⟩
  · rcases a.g4 x z with y | y
    · exact y h2
    · rw [y] at h1; cases h1
  · rcases a.g3 x z with y | y | y
    · exact y h3
    · exact y h2
    · rw [y] at h1; cases h1
  · rcases b.g3 x h with z | z | z
    · exact a.g3 x z
    · rcases a.g4 x z with y | y
      · exact .inr (.inl y)
      · exact .inr (.inr y)
    · exact .inr (.inr (a.g5 x z))
  · rcases b.g4 x h with z | z
    · exact a.g4 x z
    · exact .inr (a.g5 x z)
end

/-! ### changes -/
def putF' (F : Hp) (a : Addr) (o : HO) : Hp := upd F a o
def Sto.del (S : Sto) (a : Addr) : Sto := fun b => if b = a then none else S b
theorem Sto.put_same {S : Sto} {a : Addr} {o : DO} : S.put a o a = some o := by unfold Sto.put; rw [if_pos rfl]
theorem Sto.put_ne {S : Sto} {a b : Addr} {o : DO} (h : b ≠ a) : S.put a o b = S b := by unfold Sto.put; rw [if_neg h]
theorem Sto.del_same {S : Sto} {a : Addr} : S.del a a = none := by unfold Sto.del; rw [if_pos rfl]
theorem Sto.del_ne {S : Sto} {a b : Addr} (h : b ≠ a) : S.del a b = S b := by unfold Sto.del; rw [if_neg h]
section
variable {K : PySem.W.Frag} {mg : Str → Option Value} {F F' H H' : Hp} {T T' S S' : Sto} {st : DSt} {σ : L2.St} {a : Addr} {o : HO} {u : DO}
theorem RepF.mono (e : Ext F F') {fs : List (Str × D)} {fv : List (Str × V)} (r : RepF K mg F fs fv) : RepF K mg F' fs fv := Paired.mapP r fun _ _ z => ⟨z.1, z.2.mono e⟩
theorem RepO.mono (e : Ext F F') (h : H' a = H a) (r : RepO K mg F H a u) : RepO K mg F' H' a u := by
  cases u with
  | lst ds => obtain ⟨xs, h1, h2, h3⟩ := r; exact ⟨xs, h.trans h1, h2.mono e, h3⟩
  | dic es => obtain ⟨xs, h1, h2⟩ := r; exact ⟨xs, h.trans h1, h2.mono e⟩
  | ins c fs => obtain ⟨C, dx, fv, h1, h2, h3⟩ := r; exact ⟨C, dx, fv, h.trans h1, h2, h3.mono e⟩
theorem RepO.there (r : RepO K mg F H a u) : ∃ o, H a = some o ∧ Mut (some o) := by
  cases u with
  | lst ds => obtain ⟨xs, h1, h2, _⟩ := r; exact ⟨_, h1, trivial⟩
  | dic es => obtain ⟨xs, h1, h2⟩ := r; exact ⟨_, h1, trivial⟩
  | ins c fs => obtain ⟨C, dx, fv, h1, h2, h3⟩ := r; exact ⟨_, h1, trivial⟩
theorem RepSto.rd (R : RepSto K mg F T H S) {o : HO} (h : Rd F a o) : Rd H a o := by
  rcases h with h | ⟨w, h⟩
  · rcases R.fr a o h with z | ⟨w, z, _⟩
    · exact .inl z
    · exact .inr ⟨w, z⟩
  · rcases R.fr a _ h with z | ⟨w', z, m⟩
    · exact .inr ⟨w, z⟩
    · exact m.elim
theorem RepSto.noF (R : RepSto K mg F T H S) (h : H a = none) : F a = none := not_none fun z => by
  obtain ⟨o, ho⟩ := ne_none z
  rcases R.fr a o ho with q | ⟨w, q, _⟩
  · rw [h] at q; cases q
  · rw [h] at q; cases q
theorem RepSto.noT (R : RepSto K mg F T H S) (h : H a = none) : T a = none := not_none fun z => by
  obtain ⟨o, ho⟩ := ne_none z
  obtain ⟨q, hq, _⟩ := (R.ob a o ho).2.there
  rw [h] at hq; cases hq
theorem RepSto.noS (R : RepSto K mg F T H S) (h : T a = none) : S a = none := not_none fun z => by
  obtain ⟨o, ho⟩ := ne_none z
  rw [R.sub a o ho] at h; cases h
theorem RepSto.weak (R : RepSto K mg F T H S) (h : ∀ a o, S' a = some o → S a = some o) : RepSto K mg F T H S' := ⟨R.fr, R.ob, fun a o q => R.sub a o (h a o q)⟩
/-- a new object that never changes -/
theorem RepSto.newF (R : RepSto K mg F T H S) (hn : H a = none) : RepSto K mg (upd F a o) T (upd H a o) S ∧ G F T H (upd F a o) T (upd H a o) := by
  have x : Ext F (upd F a o) := fun b w h => by rw [upd_ne (fun z => by subst z; rw [R.noF hn] at h; cases h)]; exact h
  refine ⟨⟨fun b w h => ?_, fun b w h => ?_, R.sub⟩, x, fun b w h1 h2 h3 => ?_, fun b h => ?_, fun b h => .inl h, fun b h => ?_⟩
  · by_cases e : b = a
    · subst e; rw [upd_same] at h; cases h; exact .inl upd_same
    · rw [upd_ne e] at h
      rcases R.fr b w h with z | ⟨w', z, m⟩
      · exact .inl (by rw [upd_ne e]; exact z)
      · exact .inr ⟨w', by rw [upd_ne e]; exact z, m⟩
  · have ne : b ≠ a := fun z => by subst z; rw [R.noT hn] at h; cases h
    obtain ⟨h1, h2⟩ := R.ob b w h
    exact ⟨by rw [upd_ne ne]; exact h1, h2.mono x (upd_ne ne)⟩
  · rw [upd_ne (fun z => by subst z; rw [hn] at h1; cases h1)]; exact h1
  · by_cases e : b = a
    · subst e; exact .inr (.inr hn)
    · rw [upd_ne e] at h; exact .inl h
  · by_cases e : b = a
    · subst e; exact hn
    · rw [upd_ne e] at h; exact h
/-- an object that may change: new, or changed -/
theorem RepSto.setT (R : RepSto K mg F T H S) (hn : H a = none ∨ T a ≠ none) (ro : RepO K mg F (upd H a o) a u) (hs : ∀ b w, S' b = some w → (b = a ∧ w = u) ∨ (b ≠ a ∧ S b = some w)) :
    RepSto K mg F (T.put a u) (upd H a o) S' ∧ G F T H F (T.put a u) (upd H a o) := by
  have Fa : F a = none := by
    rcases hn with h | h
    · exact R.noF h
    · obtain ⟨w, hw⟩ := ne_none h; exact (R.ob a w hw).1
  refine ⟨⟨fun b w h => ?_, fun b w h => ?_, fun b w h => ?_⟩, .refl, fun b w h1 h2 h3 => ?_, fun b h => .inl h, fun b h => ?_, fun b h => ?_⟩
  · have e : b ≠ a := fun z => by subst z; rw [Fa] at h; cases h
    rcases R.fr b w h with z | ⟨w', z, m⟩
    · exact .inl (by rw [upd_ne e]; exact z)
    · exact .inr ⟨w', by rw [upd_ne e]; exact z, m⟩
  · by_cases e : b = a
    · subst e; rw [Sto.put_same] at h; cases h; exact ⟨Fa, ro⟩
    · rw [Sto.put_ne e] at h
      obtain ⟨h1, h2⟩ := R.ob b w h
      exact ⟨h1, h2.mono .refl (upd_ne e)⟩
  · rcases hs b w h with ⟨rfl, rfl⟩ | ⟨e, q⟩
    · exact Sto.put_same
    · rw [Sto.put_ne e]; exact R.sub b w q
  · have e : b ≠ a := fun z => by
      subst z
      rcases hn with h | h
      · rw [h] at h1; cases h1
      · exact h h2
    rw [upd_ne e]; exact h1
  · by_cases e : b = a
    · subst e
      rcases hn with h | h
      · exact .inr h
      · exact .inl h
    · rw [Sto.put_ne e] at h; exact .inl h
  · by_cases e : b = a
    · subst e; rw [upd_same] at h; cases h
    · rw [upd_ne e] at h; exact h
/-- from now on never changed -/
theorem RepSto.freeze (R : RepSto K mg F T H S) (ha : T a = some u) (hS : S a = none) (ho : H a = some o) : RepSto K mg (upd F a o) (T.del a) H S ∧ G F T H (upd F a o) (T.del a) H := by
  have Fa : F a = none := (R.ob a u ha).1
  have x : Ext F (upd F a o) := fun b w h => by rw [upd_ne (fun z => by subst z; rw [Fa] at h; cases h)]; exact h
  refine ⟨⟨fun b w h => ?_, fun b w h => ?_, fun b w h => ?_⟩, x, fun _ _ h _ _ => h, fun b h => ?_, fun b h => ?_, fun _ h => h⟩
  · by_cases e : b = a
    · subst e; rw [upd_same] at h; cases h; exact .inl ho
    · rw [upd_ne e] at h; exact R.fr b w h
  · by_cases e : b = a
    · subst e; rw [Sto.del_same] at h; cases h
    · rw [Sto.del_ne e] at h
      obtain ⟨h1, h2⟩ := R.ob b w h
      exact ⟨by rw [upd_ne e]; exact h1, h2.mono x rfl⟩
  · have e : b ≠ a := fun z => by subst z; rw [hS] at h; cases h
    rw [Sto.del_ne e]; exact R.sub b w h
  · by_cases e : b = a
    · subst e; exact .inr (.inl (by rw [ha]; simp))
    · rw [upd_ne e] at h; exact .inl h
  · by_cases e : b = a
    · subst e; rw [Sto.del_same] at h; exact absurd rfl h
    · rw [Sto.del_ne e] at h; exact .inl h
/-- what F and T grow or change to, the slots as they are -/
theorem RepQ.mono {d : D} {v : V} (e : Ext F F') (ht : ∀ a u, T a = some u → S a = none → v = .ref a → isOwn d = true → T' a = some u ∧ S' a = none) (r : RepQ K mg F T S d v) : RepQ K mg F' T' S' d v := by
  cases d with
  | own ds => obtain ⟨a, h1, h2, h3⟩ := r; obtain ⟨q1, q2⟩ := ht a _ h2 h3 h1 rfl; exact ⟨a, h1, q1, q2⟩
  | owd ds => obtain ⟨a, h1, h2, h3⟩ := r; obtain ⟨q1, q2⟩ := ht a _ h2 h3 h1 rfl; exact ⟨a, h1, q1, q2⟩
  | _ => exact RepV.mono e r
theorem Rep.of (R : Rep K mg F T H st σ) (R' : RepSto K mg F' T' H' S') (e : Ext F F')
    (ht : ∀ a u, T a = some u → st.sto a = none → (∃ (i : Nat) (d : D), st.env[i]? = some (some d) ∧ isOwn d = true ∧ σ[i]? = some (some (V.ref a))) → T' a = some u ∧ S' a = none) : Rep K mg F' T' H' { st with sto := S' } σ := by
  refine ⟨R', fun i d h => ?_, R.inj, R.len⟩
  obtain ⟨v, h1, h2⟩ := R.env i d h
  exact ⟨v, h1, h2.mono e fun a u q1 q2 q3 q4 => ht a u q1 q2 ⟨i, d, h, q4, by rw [← q3]; exact h1⟩⟩
end
end DL
/-! the D layer, 2: readings of D, expressions -/
namespace DL
open PySem PySem.Spec L2

abbrev PQ := D → DSt → Prop
abbrev PX := Exn → DSt → Prop
abbrev DE := DSt → PQ → PX → Prop
abbrev DA := DSt → (List D → DSt → Prop) → PX → Prop
abbrev DT := DSt → (Bool → DSt → Prop) → PX → Prop
def opt {α : Type} (o : Option α) (k : α → Prop) : Prop := match o with
  | some a => k a
  | none => False
@[simp] theorem opt_some {α : Type} {a : α} {k : α → Prop} : opt (some a) k = k a := rfl
@[simp] theorem opt_none {α : Type} {k : α → Prop} : opt none k = False := rfl
theorem opt_elim {α : Type} {o : Option α} {k : α → Prop} (h : opt o k) : ∃ a, o = some a ∧ k a := by
  cases o with
  | some a => exact ⟨a, rfl, h⟩
  | none => exact h.elim
/-- a shared list or dict, an owned one: as it is now -/
def deref (S : Sto) : D → D
  | .ref a => match S a with
    | some (.lst ds) => .lst ds
    | some (.dic es) => .dic es
    | _ => .ref a
  | d => fz d
def res (st : DSt) : D → Option D
  | .slot i => match st.env[i]? with
    | some (some d) => some (deref st.sto d)
    | _ => none
  | d => some (deref st.sto d)
/-- a name as an operand -/
def dTok (i : Nat) : DE := fun st Q _ => match st.env[i]? with
  | some (some _) => Q (.slot i) st
  | _ => False
/-- a name whose value is kept: an owned one is frozen -/
def dVar (i : Nat) : DE := fun st Q _ => match st.env[i]? with
  | some (some d) => if isOwn d then Q (fz d) { st with env := st.env.set i (some (fz d)) } else Q d st
  | _ => False
/-- a name that is given away -/
def dMove (i : Nat) : DE := fun st Q _ => match st.env[i]? with
  | some (some d) => Q d { st with env := st.env.set i none }
  | _ => False
def dC (d : D) : DE := fun st Q _ => Q d st
def dFz (t : DE) : DE := fun st Q E => t st (fun d st' => Q (fz d) st') E
def dOp1 (f : D → Option D) (a : DE) : DE := fun st Q E => a st (fun x st1 => opt (res st1 x) fun x' => opt (f x') fun r => Q r st1) E
def dOp2 (f : D → D → Option D) (a b : DE) : DE := fun st Q E => a st (fun x st1 => b st1 (fun y st2 => opt (res st2 x) fun x' => opt (res st2 y) fun y' => opt (f x' y') fun r => Q r st2) E) E
def aNil : DA := fun st Q _ => Q [] st
def aCons (a : DE) (t : DA) : DA := fun st Q E => a st (fun x st1 => t st1 (fun xs st2 => Q (x :: xs) st2) E) E

section
variable (K : PySem.W.Frag) (mg : Str → Option Value)
def RepX (F H : Hp) (x : Exn) (cls : Value) (dd : Option Addr) : Prop := mg x.cls = some cls ∧ ((x.fs = [] ∧ dd = none) ∨ ∃ dx fv, dd = some dx ∧ H dx = some (.xd fv) ∧ RepF K mg F x.fs fv)
def KX (W : WX) (F : Hp) (T : Sto) (H : Hp) (σ : L2.St) (Ed : PX) : Prop :=
  ∀ x st' F' T' H' cls dd, G F T H F' T' H' → Rep K mg F' T' H' st' σ → RepX K mg F' H' x cls dd → Ed x st' → W cls dd σ H'
def LE (W : WX) (t : DE) : TE := fun σ H Q => ∃ F T st Qd Ed, Rep K mg F T H st σ ∧ t st Qd Ed ∧
  (∀ F' T' H' d st' v, G F T H F' T' H' → Rep K mg F' T' H' st' σ → RepR K mg F' T' st' σ d v → Qd d st' → Q v H') ∧ KX K mg W F T H σ Ed
def LO (W : WX) (t : DE) : TE := fun σ H Q => ∃ F T st Qd Ed, Rep K mg F T H st σ ∧ t st Qd Ed ∧
  (∀ F' T' H' d st' v, G F T H F' T' H' → Rep K mg F' T' H' st' σ → RepP K mg F' σ d v → Qd d st' → Q v H') ∧ KX K mg W F T H σ Ed
def RepPs (F : Hp) (σ : L2.St) : List D → List V → Prop := Paired (RepP K mg F σ)
def LA (W : WX) (t : DA) : TA := fun σ H Q => ∃ F T st Qd Ed, Rep K mg F T H st σ ∧ t st Qd Ed ∧
  (∀ F' T' H' ds st' vs, G F T H F' T' H' → Rep K mg F' T' H' st' σ → RepPs K mg F' σ ds vs → Qd ds st' → Q vs H') ∧ KX K mg W F T H σ Ed
def LT (W : WX) (t : DT) : TT := fun σ H Q => ∃ F T st Qd Ed, Rep K mg F T H st σ ∧ t st Qd Ed ∧
  (∀ F' T' H' b st', G F T H F' T' H' → Rep K mg F' T' H' st' σ → Qd b st' → Q b H') ∧ KX K mg W F T H σ Ed
end
def QE (X : Cx) (W : WX) (e : Expr) (t : DE) : Prop := PE X e (LE X.K X.mg W t)
def QO (X : Cx) (W : WX) (e : Expr) (t : DE) : Prop := PE X e (LO X.K X.mg W t)
def QA (X : Cx) (W : WX) (es : List Expr) (t : DA) : Prop := PA X es (LA X.K X.mg W t)
def QT (X : Cx) (W : WX) (e : Expr) (t : DT) : Prop := PT X e (LT X.K X.mg W t)
theorem PE.imp {X : Cx} {e : Expr} {t t' : TE} (h : PE X e t) (hi : ∀ σ H Q, t' σ H Q → t σ H Q) : PE X e t' := ⟨fun pins s σ H Q I q => h.run pins s σ H Q I (hi _ _ _ q)⟩
theorem PA.imp {X : Cx} {e : List Expr} {t t' : TA} (h : PA X e t) (hi : ∀ σ H Q, t' σ H Q → t σ H Q) : PA X e t' := ⟨fun pos pins s σ H Q I q => h.run pos pins s σ H Q I (hi _ _ _ q)⟩
theorem PT.imp {X : Cx} {e : Expr} {t t' : TT} (h : PT X e t) (hi : ∀ σ H Q, t' σ H Q → t σ H Q) : PT X e t' := ⟨fun pins s σ H Q I q => h.run pins s σ H Q I (hi _ _ _ q)⟩
theorem PE.never {X : Cx} {e : Expr} {t : TE} (hi : ∀ σ H Q, ¬ t σ H Q) : PE X e t := ⟨fun _ _ σ H Q _ q => (hi σ H Q q).elim⟩

section
variable {K : PySem.W.Frag} {mg : Str → Option Value} {W : WX} {F F' H H' : Hp} {T T' : Sto} {σ : L2.St} {st st' : DSt} {d : D} {v : V}
theorem KX.step {Ed : PX} (h : KX K mg W F T H σ Ed) (g : G F T H F' T' H') : KX K mg W F' T' H' σ Ed := fun x st'' F'' T'' H'' cls dd g' R r q => h x st'' F'' T'' H'' cls dd (g.trans g') R r q
theorem RepP.mono (e : Ext F F') (r : RepP K mg F σ d v) : RepP K mg F' σ d v := by
  cases d with
  | slot i => exact r
  | _ => exact RepV.mono e r
theorem RepPs.mono (e : Ext F F') {ds : List D} {vs : List V} (r : RepPs K mg F σ ds vs) : RepPs K mg F' σ ds vs := Paired.mapP r fun _ _ z => z.mono e
theorem RepV.toP (h : RepV K mg F d v) : RepP K mg F σ d v := by
  cases d with
  | slot i => cases h
  | _ => exact h
theorem RepQ.deref (R : RepSto K mg F T H st.sto) (r : RepQ K mg F T st.sto d v) : RepW K mg F T (deref st.sto d) v := by
  cases d with
  | own ds => obtain ⟨a, h1, h2, _⟩ := r; exact .inr ⟨a, h1, .inl ⟨ds, rfl, h2⟩⟩
  | owd ds => obtain ⟨a, h1, h2, _⟩ := r; exact .inr ⟨a, h1, .inr ⟨ds, rfl, h2⟩⟩
  | ref a =>
    cases r
    show RepW K mg F T (match st.sto a with
      | some (.lst ds) => .lst ds
      | some (.dic es) => .dic es
      | _ => .ref a) _
    cases hs : st.sto a with
    | none => exact .inl (.ref a)
    | some o =>
      cases o with
      | lst ds => exact .inr ⟨a, rfl, .inl ⟨ds, rfl, R.sub _ _ hs⟩⟩
      | dic ds => exact .inr ⟨a, rfl, .inr ⟨ds, rfl, R.sub _ _ hs⟩⟩
      | ins c fs => exact .inl (.ref a)
  | slot i => cases r
  | _ => exact .inl r
theorem RepV.toQ (h : RepV K mg F d v) : RepQ K mg F T st.sto d v := by
  cases d with
  | own ds => cases h
  | owd ds => cases h
  | _ => exact h
theorem RepV.toR (h : RepV K mg F d v) : RepR K mg F T st σ d v := ⟨h.toQ, fun e => by rw [h.notOwn] at e; cases e⟩
theorem res_rep (R : Rep K mg F T H st σ) (r : RepP K mg F σ d v) {d' : D} (e : res st d = some d') : RepW K mg F T d' v := by
  cases d with
  | slot i =>
    unfold res at e
    simp only at e
    split at e
    · rename_i d hd
      cases e
      obtain ⟨u, h1, h2⟩ := R.env i d hd
      have hr : σ[i]? = some (some v) := r
      rw [h1] at hr; cases hr
      exact h2.deref R.toRepSto
    · cases e
  | _ =>
    have e' : d' = DL.deref st.sto _ := (Option.some.inj e).symm
    subst e'
    exact (RepV.toQ (st := st) r).deref R.toRepSto
/-- what the list at an address is, as it is read -/
theorem RepW.lst (R : RepSto K mg F T H st.sto) {ds : List D} (r : RepW K mg F T (.lst ds) v) : ∃ a xs, v = .ref a ∧ SqL K H a xs ∧ RepVs K mg F ds xs ∧ ds.length ≤ sizeLine := by
  rcases r with r | ⟨a, h1, ⟨es, h2, h3⟩ | ⟨es, h2, h3⟩⟩
  · cases r with
    | lst l h q =>
      refine ⟨_, _, rfl, ?_, q, l⟩
      rcases h with h | h
      · exact .inl (R.rd h)
      · exact .inr h
  · cases h2
    obtain ⟨_, xs, h4, h5, h6⟩ := R.ob a _ h3
    exact ⟨a, xs, h1, SqL.of h4, h5, h6⟩
  · cases h2
theorem RepV.tupD (R : RepSto K mg F T H st.sto) {ds : List D} (r : RepW K mg F T (.tup ds) v) : ∃ a xs, v = .ref a ∧ SqT K H a xs ∧ RepVs K mg F ds xs ∧ ds.length ≤ sizeLine := by
  rcases r with r | ⟨a, h1, ⟨es, h2, h3⟩ | ⟨es, h2, h3⟩⟩
  · cases r with
    | tup l h q =>
      refine ⟨_, _, rfl, ?_, q, l⟩
      rcases h with h | h
      · exact .inl (R.rd h)
      · exact .inr h
  · cases h2
  · cases h2
theorem Rep.own_at (R : Rep K mg F T H st σ) {i : Nat} {d : D} (h : st.env[i]? = some (some d)) (ho : isOwn d = true) : ∃ a u, σ[i]? = some (some (V.ref a)) ∧ T a = some u ∧ st.sto a = none ∧ (u = .lst (match d with | .own ds => ds | _ => []) ∧ d = .own (match d with | .own ds => ds | _ => []) ∨ u = .dic (match d with | .owd ds => ds | _ => []) ∧ d = .owd (match d with | .owd ds => ds | _ => [])) := by
  obtain ⟨v, h1, h2⟩ := R.env i d h
  cases d with
  | own ds => obtain ⟨a, rfl, q1, q2⟩ := h2; exact ⟨a, _, h1, q1, q2, .inl ⟨rfl, rfl⟩⟩
  | owd ds => obtain ⟨a, rfl, q1, q2⟩ := h2; exact ⟨a, _, h1, q1, q2, .inr ⟨rfl, rfl⟩⟩
  | _ => cases ho
/-- the frozen form of what stands at an owned address -/
theorem freeze_ho (R : RepSto K mg F T H st.sto) {a : Addr} (r : RepQ K mg F T st.sto d (.ref a)) (ho : isOwn d = true) : ∃ u o, T a = some u ∧ st.sto a = none ∧ H a = some o ∧ RepV K mg (upd F a o) (fz d) (.ref a) := by
  cases d with
  | own ds =>
    obtain ⟨b, e, q1, q2⟩ := r; cases e
    obtain ⟨q0, xs, q3, q4, q5⟩ := R.ob a _ q1
    have x : Ext F (upd F a (.lst xs)) := fun b w h => by rw [upd_ne (fun z => by subst z; rw [q0] at h; cases h)]; exact h
    exact ⟨_, _, q1, q2, q3, .lst q5 (SqL.of upd_same) (q4.mono x)⟩
  | owd ds =>
    obtain ⟨b, e, q1, q2⟩ := r; cases e
    obtain ⟨q0, xs, q3, q4⟩ := R.ob a _ q1
    have x : Ext F (upd F a (.dK xs)) := fun b w h => by rw [upd_ne (fun z => by subst z; rw [q0] at h; cases h)]; exact h
    exact ⟨_, _, q1, q2, q3, .dic (.inl upd_same) (q4.mono x)⟩
  | _ => cases ho
theorem own_ref (r : RepQ K mg F T st.sto d v) (ho : isOwn d = true) : ∃ a, v = .ref a := by
  cases d with
  | own ds => obtain ⟨a, h, _⟩ := r; exact ⟨a, h⟩
  | owd ds => obtain ⟨a, h, _⟩ := r; exact ⟨a, h⟩
  | _ => cases ho
theorem freezeR (R : Rep K mg F T H st σ) (r : RepR K mg F T st σ d v) : ∃ F' T', G F T H F' T' H ∧ Rep K mg F' T' H st σ ∧ RepV K mg F' (fz d) v := by
  by_cases ho : isOwn d = true
  · obtain ⟨a, rfl⟩ := own_ref r.1 ho
    obtain ⟨u, o, h1, h2, h3, h4⟩ := freeze_ho R.toRepSto r.1 ho
    obtain ⟨R', g⟩ := R.toRepSto.freeze h1 h2 h3
    refine ⟨_, _, g, R.of R' g.g1 fun b w q1 q2 ⟨i, e, q3, q4, q5⟩ => ⟨?_, q2⟩, h4⟩
    rw [Sto.del_ne (fun z => by subst z; exact r.2 ho b rfl i e q3 q4 q5)]
    exact q1
  · refine ⟨F, T, .refl, R, ?_⟩
    cases d with
    | own ds => exact absurd rfl ho
    | owd ds => exact absurd rfl ho
    | _ => exact r.1
/-- a slot set to what is frozen, or to nothing -/
theorem Rep.setEnv (R : Rep K mg F T H st σ) (i : Nat) (o : Option D) (h : ∀ d, o = some d → isOwn d = false ∧ ∃ v, σ[i]? = some (some v) ∧ RepV K mg F d v) : Rep K mg F T H { st with env := st.env.set i o } σ := by
  have hn : ∀ (j : Nat) (e : D), (st.env.set i o)[j]? = some (some e) → isOwn e = true → i ≠ j ∧ st.env[j]? = some (some e) := fun j e q ho => by
    by_cases hj : i = j
    · subst hj
      by_cases hl : i < st.env.length
      · rw [List.getElem?_set_self hl] at q
        cases o with
        | none => cases q
        | some d => cases q; rw [(h _ rfl).1] at ho; cases ho
      · rw [List.getElem?_eq_none (by simpa using hl)] at q; cases q
    · rw [List.getElem?_set_ne hj] at q; exact ⟨hj, q⟩
  refine ⟨R.toRepSto, fun j d q => ?_, fun i' j d e a q1 q2 q3 q4 q5 q6 => ?_, by simpa using R.len⟩
  · by_cases hj : i = j
    · subst hj
      by_cases hl : i < st.env.length
      · have q' : (st.env.set i o)[i]? = some (some d) := q
        rw [List.getElem?_set_self hl] at q'
        cases q'
        obtain ⟨_, v, h1, h2⟩ := h _ rfl
        exact ⟨v, h1, h2.toQ (st := st)⟩
      · have q' : (st.env.set i o)[i]? = some (some d) := q
        rw [List.getElem?_eq_none (by simpa using hl)] at q'; cases q'
    · have q' : (st.env.set i o)[j]? = some (some d) := q
      rw [List.getElem?_set_ne hj] at q'
      exact R.env j d q'
  · exact R.inj i' j d e a (hn i' d q1 q2).2 q2 (hn j e q3 q4).2 q4 q5 q6
theorem set_self' {α : Type} {l : List α} {i : Nat} {x : α} (h : l[i]? = some x) : l.set i x = l := by
  apply List.ext_getElem?
  intro j
  by_cases hj : i = j
  · subst hj
    rw [List.getElem?_set_self (List.getElem?_eq_some_iff.mp h).1, h]
  · rw [List.getElem?_set_ne hj]
theorem notOwn_rep (r : RepQ K mg F T st.sto d v) (ho : ¬ isOwn d = true) : RepV K mg F d v := by
  cases d with
  | own ds => exact absurd rfl ho
  | owd ds => exact absurd rfl ho
  | _ => exact r
theorem Rep.notAt (R : Rep K mg F T H st σ) {i : Nat} {d : D} {a : Addr} (h : st.env[i]? = some (some d)) (ho : isOwn d = true) (hv : σ[i]? = some (some (V.ref a))) (o : Option D) (hn : ∀ e, o = some e → isOwn e = false) :
    NotAt { st with env := st.env.set i o } σ a := fun j e q1 q2 q3 => by
  by_cases hj : i = j
  · subst hj
    have q' : (st.env.set i o)[i]? = some (some e) := q1
    by_cases hl : i < st.env.length
    · rw [List.getElem?_set_self hl] at q'
      rw [hn e (Option.some.inj q')] at q2; cases q2
    · rw [List.getElem?_eq_none (by simpa using hl)] at q'; cases q'
  · have q' : (st.env.set i o)[j]? = some (some e) := q1
    rw [List.getElem?_set_ne hj] at q'
    exact hj (R.inj i j d e a h ho q' q2 hv q3)
end

/-! ### names, constants -/
section
variable {X : Cx} {W : WX}
theorem qe_var {i : Nat} {x : Str} {pos : Pos} (hN : X.N[i]? = some x) (hv : Vis X.env.scope x) (hd : (x == ("__debug__" : Str)) = false) (hcd : (x == ("__classdict__" : Str)) = false) : QE X W (.Name x pos) (dVar i) := by
  refine PE.imp (pe_var hN hv hd hcd) ?_
  rintro σ H Q ⟨F, T, st, Qd, Ed, R, h, c, cx⟩
  unfold dVar at h
  cases e : st.env[i]? with
  | none => rw [e] at h; exact h.elim
  | some o =>
    rw [e] at h
    cases o with
    | none => exact h.elim
    | some d =>
      simp only at h
      obtain ⟨v, h1, h2⟩ := R.env i d e
      refine ⟨v, h1, ?_⟩
      by_cases ho : isOwn d = true
      · rw [if_pos ho] at h
        obtain ⟨a, rfl⟩ := own_ref h2 ho
        obtain ⟨u, o, q1, q2, q3, q4⟩ := freeze_ho R.toRepSto h2 ho
        obtain ⟨R', g⟩ := R.toRepSto.freeze q1 q2 q3
        have hz : isOwn (fz d) = false := q4.notOwn
        have R0 : Rep X.K X.mg F T H { st with env := st.env.set i none } σ := R.setEnv i none (fun _ z => by cases z)
        have N0 : NotAt { st with env := st.env.set i none } σ a := R.notAt e ho h1 none (fun _ z => by cases z)
        have R1 : Rep X.K X.mg (upd F a o) (T.del a) H { st with env := st.env.set i none } σ := R0.of (st := { st with env := st.env.set i none }) R' g.g1 fun b w z1 z2 ⟨j, e', z3, z4, z5⟩ => ⟨by
          rw [Sto.del_ne (fun z => by subst z; exact N0 j e' z3 z4 z5)]; exact z1, z2⟩
        have R2 := R1.setEnv i (some (fz d)) (fun d' z => by cases z; exact ⟨hz, _, h1, q4⟩)
        simp only [List.set_set] at R2
        exact c _ _ _ _ _ _ g R2 q4.toR h
      · rw [if_neg ho] at h
        exact c _ _ _ _ _ _ .refl R (notOwn_rep h2 ho).toR h
theorem qo_tok {i : Nat} {x : Str} {pos : Pos} (hN : X.N[i]? = some x) (hv : Vis X.env.scope x) (hd : (x == ("__debug__" : Str)) = false) (hcd : (x == ("__classdict__" : Str)) = false) : QO X W (.Name x pos) (dTok i) := by
  refine PE.imp (pe_var hN hv hd hcd) ?_
  rintro σ H Q ⟨F, T, st, Qd, Ed, R, h, c, cx⟩
  unfold dTok at h
  cases e : st.env[i]? with
  | none => rw [e] at h; exact h.elim
  | some o =>
    rw [e] at h
    cases o with
    | none => exact h.elim
    | some d =>
      obtain ⟨v, h1, h2⟩ := R.env i d e
      exact ⟨v, h1, c _ _ _ _ _ _ .refl R (show RepP X.K X.mg F σ (.slot i) v from h1) h⟩
theorem qe_move {i : Nat} {x : Str} {pos : Pos} (hN : X.N[i]? = some x) (hv : Vis X.env.scope x) (hd : (x == ("__debug__" : Str)) = false) (hcd : (x == ("__classdict__" : Str)) = false) : QE X W (.Name x pos) (dMove i) := by
  refine PE.imp (pe_var hN hv hd hcd) ?_
  rintro σ H Q ⟨F, T, st, Qd, Ed, R, h, c, cx⟩
  unfold dMove at h
  cases e : st.env[i]? with
  | none => rw [e] at h; exact h.elim
  | some o =>
    rw [e] at h
    cases o with
    | none => exact h.elim
    | some d =>
      obtain ⟨v, h1, h2⟩ := R.env i d e
      refine ⟨v, h1, c _ _ _ _ _ _ .refl (R.setEnv i none (fun _ z => by cases z)) ⟨h2, fun ho a hv => ?_⟩ h⟩
      subst hv
      exact R.notAt e ho h1 none (fun _ z => by cases z)
theorem qo_fz {e : Expr} {t : DE} (h : QE X W e t) : QO X W e (dFz t) := by
  refine PE.imp h ?_
  rintro σ H Q ⟨F, T, st, Qd, Ed, R, h, c, cx⟩
  refine ⟨F, T, st, _, Ed, R, h, fun F' T' H' d st' v g R' r q => ?_, cx⟩
  obtain ⟨F'', T'', g', R'', r'⟩ := freezeR R' r
  exact c _ _ _ _ _ _ (g.trans g') R'' r'.toP q
theorem qe_fz {e : Expr} {t : DE} (h : QE X W e t) : QE X W e (dFz t) := by
  refine PE.imp h ?_
  rintro σ H Q ⟨F, T, st, Qd, Ed, R, h, c, cx⟩
  refine ⟨F, T, st, _, Ed, R, h, fun F' T' H' d st' v g R' r q => ?_, cx⟩
  obtain ⟨F'', T'', g', R'', r'⟩ := freezeR R' r
  exact c _ _ _ _ _ _ (g.trans g') R'' r'.toR q
/-- a value that is kept -/
def LV (K : PySem.W.Frag) (mg : Str → Option Value) (W : WX) (t : DE) : TE := fun σ H Q => ∃ F T st Qd Ed, Rep K mg F T H st σ ∧ t st Qd Ed ∧
  (∀ F' T' H' d st' v, G F T H F' T' H' → Rep K mg F' T' H' st' σ → RepV K mg F' d v → Qd d st' → Q v H') ∧ KX K mg W F T H σ Ed
def QV (X : Cx) (W : WX) (e : Expr) (t : DE) : Prop := PE X e (LV X.K X.mg W t)
theorem qv_fz {e : Expr} {t : DE} (h : QE X W e t) : QV X W e (dFz t) := by
  refine PE.imp h ?_
  rintro σ H Q ⟨F, T, st, Qd, Ed, R, h, c, cx⟩
  refine ⟨F, T, st, _, Ed, R, h, fun F' T' H' d st' v g R' r q => ?_, cx⟩
  obtain ⟨F'', T'', g', R'', r'⟩ := freezeR R' r
  exact c _ _ _ _ _ _ (g.trans g') R'' r' q
theorem qe_c {e : Expr} {d : D} {v : V} (h : PE X e (tC v)) (r : ∀ F, RepV X.K X.mg F d v) : QE X W e (dC d) := by
  refine PE.imp h ?_
  rintro σ H Q ⟨F, T, st, Qd, Ed, R, h, c, cx⟩
  exact c _ _ _ _ _ _ .refl R (r F).toR h
theorem qe_int {i j pos} : QE X W (.Constant (.int i) j pos) (dC (.int i)) := qe_c pe_int fun _ => .int i
theorem qe_bl {b j pos} : QE X W (.Constant (.bool b) j pos) (dC (.bl b)) := qe_c pe_bl fun _ => .bl b
theorem qe_non {j pos} : QE X W (.Constant .none j pos) (dC .non) := qe_c pe_non fun _ => .non
theorem qe_str {x j pos} (h : PyData.strOk x = true) : QE X W (.Constant (.str x) j pos) (dC (.str x)) := qe_c pe_str fun _ => .str h
theorem qe_glob {x : Str} {v : V} {u : Value} {pos : Pos} {d : D} (hg : Gl X x) (hm : X.mg x = some u) (r : RelV v u) (hd : (x == ("__debug__" : Str)) = false) (q : ∀ F, RepV X.K X.mg F d v) : QE X W (.Name x pos) (dC d) := qe_c (pe_glob hg hm r hd) q

/-! ### operators by values -/
/-- what a step that changes no slot and no shared object hands on -/
def Out (K : PySem.W.Frag) (mg : Str → Option Value) (F : Hp) (T : Sto) (H : Hp) (S : Sto) (r : D) (Q : VK) : Prop :=
  ∀ F' T' H' v, G F T H F' T' H' → RepSto K mg F' T' H' S → (∀ a u, T a = some u → T' a = some u) → RepQ K mg F' T' S r v → (isOwn r = true → ∀ a, v = .ref a → T a = none) → Q v H'
def LR1 (K : PySem.W.Frag) (mg : Str → Option Value) (f : D → Option D) : V → Hp → VK → Prop := fun x H Q => ∃ F T S d r, RepSto K mg F T H S ∧ RepW K mg F T d x ∧ f d = some r ∧ Out K mg F T H S r Q
def LR2 (K : PySem.W.Frag) (mg : Str → Option Value) (f : D → D → Option D) : R2 := fun x y H Q => ∃ F T S d e r, RepSto K mg F T H S ∧ RepW K mg F T d x ∧ RepW K mg F T e y ∧ f d e = some r ∧ Out K mg F T H S r Q
theorem out_of {K : PySem.W.Frag} {mg : Str → Option Value} {F H : Hp} {T : Sto} {σ : L2.St} {st : DSt} {r : D} {Q : VK} {Qd : PQ} (R : Rep K mg F T H st σ)
    (c : ∀ F' T' H' d st' v, G F T H F' T' H' → Rep K mg F' T' H' st' σ → RepR K mg F' T' st' σ d v → Qd d st' → Q v H') (q : Qd r st) : Out K mg F T H st.sto r Q := fun F' T' H' v g R' hT hr hn => by
  refine c F' T' H' r st v g (R.of R' g.g1 fun a u h1 h2 _ => ⟨hT a u h1, h2⟩) ⟨hr, fun ho a hv j e h1 h2 h3 => ?_⟩ q
  obtain ⟨b, u, k1, k2, _⟩ := R.own_at h1 h2
  rw [h3] at k1; cases k1
  rw [hn ho a hv] at k2; cases k2
theorem lo1 {K : PySem.W.Frag} {mg : Str → Option Value} {f : D → Option D} {ta : DE} {σ : L2.St} {H : Hp} {Q : VK} (h : LE K mg W (dOp1 f ta) σ H Q) : LO K mg W ta σ H fun x H1 => LR1 K mg f x H1 Q := by
  obtain ⟨F, T, st, Qd, Ed, R, h, c, cx⟩ := h
  refine ⟨F, T, st, _, Ed, R, h, fun F1 T1 H1 d st1 x g1 R1 p1 q1 => ?_, cx⟩
  obtain ⟨d', e1, q1⟩ := opt_elim q1
  obtain ⟨r, e2, q1⟩ := opt_elim q1
  exact ⟨F1, T1, st1.sto, d', r, R1.toRepSto, res_rep R1 p1 e1, e2, out_of R1 (fun F' T' H' d st' v g R' r q => c F' T' H' d st' v (g1.trans g) R' r q) q1⟩
theorem lo2 {K : PySem.W.Frag} {mg : Str → Option Value} {f : D → D → Option D} {ta tb : DE} {σ : L2.St} {H : Hp} {Q : VK} (h : LE K mg W (dOp2 f ta tb) σ H Q) : LO K mg W ta σ H fun x H1 => LO K mg W tb σ H1 fun y H2 => LR2 K mg f x y H2 Q := by
  obtain ⟨F, T, st, Qd, Ed, R, h, c, cx⟩ := h
  refine ⟨F, T, st, _, Ed, R, h, fun F1 T1 H1 d st1 x g1 R1 p1 q1 => ?_, cx⟩
  refine ⟨F1, T1, st1, _, Ed, R1, q1, fun F2 T2 H2 e st2 y g2 R2 p2 q2 => ?_, cx.step g1⟩
  obtain ⟨d', e1, q2⟩ := opt_elim q2
  obtain ⟨e', e2, q2⟩ := opt_elim q2
  obtain ⟨r, e3, q2⟩ := opt_elim q2
  exact ⟨F2, T2, st2.sto, d', e', r, R2.toRepSto, res_rep R2 (p1.mono g2.g1) e1, res_rep R2 p2 e2, e3, out_of R2 (fun F' T' H' d st' v g R' r q => c F' T' H' d st' v ((g1.trans g2).trans g) R' r q) q2⟩
variable {a b : Expr} {ta tb : DE} {pos : Pos}
theorem qe_op {op : Operator} {f : D → D → Option D} (ho : OpR X (binaryOp op) (LR2 X.K X.mg f)) (ha : QO X W a ta) (hb : QO X W b tb) : QE X W (.BinOp a op b pos) (dOp2 f ta tb) := PE.imp (pe_op ho ha hb) fun _ _ _ h => lo2 h
theorem qe_un {op : UnaryOp} {f : D → Option D} (ho : UnR X (unaryOp op) (LR1 X.K X.mg f)) (ha : QO X W a ta) : QE X W (.UnaryOp op a pos) (dOp1 f ta) := PE.imp (pe_un ho ha) fun _ _ _ h => lo1 h
theorem qe_cmp {op : CmpOp} {f : D → D → Option D} (ho : OpR X (compareOp op) (LR2 X.K X.mg f)) (ha : QO X W a ta) (hb : QO X W b tb) (hm : behindInMarks op b = false) : QE X W (.Compare a [op] [b] pos) (dOp2 f ta tb) := PE.imp (pe_cmpR ho ha hb hm) fun _ _ _ h => lo2 h
theorem qe_ix {f : D → D → Option D} (ho : IxR X (LR2 X.K X.mg f)) (ha : QO X W a ta) (hb : QO X W b tb) (hs : PlainIx b) : QE X W (.Subscript a b pos) (dOp2 f ta tb) := PE.imp (pe_ix ho ha hb hs) fun _ _ _ h => lo2 h
end
end DL
/-! the D layer, 3: operators, comparisons, subscripts by values -/
namespace DL
open PySem PySem.Spec L2

/-! ### data that == takes -/
mutual
def D.py : D → PyData
  | .bl b => .bool b
  | .int i => .int i
  | .str s => .str s
  | .tup xs => .tuple (pys xs)
  | .lst xs => .list (pys xs)
  | _ => .none
def pys : List D → List PyData
  | [] => []
  | d :: ds => D.py d :: pys ds
end
mutual
def D.ok : D → Bool
  | .non => true
  | .bl _ => true
  | .int _ => true
  | .str _ => true
  | .tup xs => oks xs
  | .lst xs => oks xs
  | _ => false
def oks : List D → Bool
  | [] => true
  | d :: ds => D.ok d && oks ds
end
mutual
def D.deep : D → Nat
  | .tup xs => deeps xs + 1
  | .lst xs => deeps xs + 1
  | _ => 0
def deeps : List D → Nat
  | [] => 0
  | d :: ds => max (D.deep d) (deeps ds)
end
def eqv (a b : D) : Bool := PyData.eqv a.py b.py
def eqD (a b : D) : Option D := if a.ok && b.ok && decide (a.deep ≤ 64) then some (.bl (eqv a b)) else none
def neD (a b : D) : Option D := if a.ok && b.ok && decide (a.deep ≤ 64) then some (.bl (!eqv a b)) else none

section
variable {K : PySem.W.Frag} {mg : Str → Option Value} {F H : Hp} {T S : Sto} {d : D} {v : V}
mutual
theorem RepV.dp (R : RepSto K mg F T H S) : ∀ {d : D} {v : V}, RepV K mg F d v → d.ok = true → Dp K H v d.py ∧ d.py.canLay0 = true ∧ d.py.depth = d.deep
  | _, _, .non, _ => ⟨.non, by simp only [D.py, PyData.canLay0], by simp only [D.py, PyData.depth, D.deep]⟩
  | _, _, .bl b, _ => ⟨.bl b, by simp only [D.py, PyData.canLay0], by simp only [D.py, PyData.depth, D.deep]⟩
  | _, _, .int i, _ => ⟨.int i, by simp only [D.py, PyData.canLay0], by simp only [D.py, PyData.depth, D.deep]⟩
  | _, _, .str h, _ => ⟨.str _, by simp only [D.py, PyData.canLay0]; exact h, by simp only [D.py, PyData.depth, D.deep]⟩
  | _, _, .tup l h r, e => by
    obtain ⟨h1, h2, h3⟩ := RepVs.dp R r (by simpa only [D.ok] using e)
    refine ⟨?_, by simp only [D.py, PyData.canLay0]; exact h2, by simp only [D.py, PyData.depth, D.deep, h3]⟩
    simp only [D.py]
    refine .tup ?_ h1
    rcases h with h | h
    · exact .inl (R.rd h)
    · exact .inr h
  | _, _, .lst l h r, e => by
    obtain ⟨h1, h2, h3⟩ := RepVs.dp R r (by simpa only [D.ok] using e)
    refine ⟨?_, by simp only [D.py, PyData.canLay0]; exact h2, by simp only [D.py, PyData.depth, D.deep, h3]⟩
    simp only [D.py]
    refine .lst ?_ h1
    rcases h with h | h
    · exact .inl (R.rd h)
    · exact .inr h
  | _, _, .dic _ _, e => by simp only [D.ok] at e; cases e
  | _, _, .ref _, e => by simp only [D.ok] at e; cases e
  | _, _, .fn _, e => by simp only [D.ok] at e; cases e
  | _, _, .ty _, e => by simp only [D.ok] at e; cases e
theorem RepVs.dp (R : RepSto K mg F T H S) : ∀ {ds : List D} {vs : List V}, RepVs K mg F ds vs → oks ds = true → DpAll K H vs (pys ds) ∧ PyData.canLayAll0 (pys ds) = true ∧ PyData.depthAll (pys ds) = deeps ds
  | _, _, .nil, _ => ⟨.nil, by simp only [pys, PyData.canLayAll0], by simp only [pys, PyData.depthAll, deeps]⟩
  | _, _, .cons h r, e => by
    simp only [oks, Bool.and_eq_true] at e
    obtain ⟨h1, h2, h3⟩ := RepV.dp R h e.1
    obtain ⟨k1, k2, k3⟩ := RepVs.dp R r e.2
    refine ⟨by simp only [pys]; exact .cons h1 k1, by simp only [pys, PyData.canLayAll0, h2, k2, Bool.and_self], by simp only [pys, PyData.depthAll, deeps, h3, k3]⟩
end
theorem RepW.dp (R : RepSto K mg F T H S) (r : RepW K mg F T d v) (e : d.ok = true) : Dp K H v d.py ∧ d.py.canLay0 = true ∧ d.py.depth = d.deep := by
  rcases r with r | ⟨a, h1, ⟨es, rfl, h3⟩ | ⟨es, rfl, h3⟩⟩
  · exact r.dp R e
  · subst h1
    obtain ⟨_, xs, h4, h5, _⟩ := R.ob a _ h3
    obtain ⟨k1, k2, k3⟩ := h5.dp R (by simpa only [D.ok] using e)
    exact ⟨by simp only [D.py]; exact .lst (SqL.of h4) k1, by simp only [D.py, PyData.canLay0]; exact k2, by simp only [D.py, PyData.depth, D.deep, k3]⟩
  · simp only [D.ok] at e; cases e
theorem RepW.flat (r : RepW K mg F T d v) {u : V} (e : flat? d = some u) : v = u := by
  rcases r with r | ⟨a, _, ⟨es, rfl, _⟩ | ⟨es, rfl, _⟩⟩
  · exact r.flat e
  · cases e
  · cases e
theorem RepW.strOk (r : RepW K mg F T (.str s) v) : PyData.strOk s = true := by
  rcases r with r | ⟨a, _, ⟨es, h, _⟩ | ⟨es, h, _⟩⟩
  · cases r; assumption
  · cases h
  · cases h
theorem RepW.lst' (R : RepSto K mg F T H S) {ds : List D} (r : RepW K mg F T (.lst ds) v) : ∃ a xs, v = .ref a ∧ SqL K H a xs ∧ RepVs K mg F ds xs ∧ ds.length ≤ sizeLine := RepW.lst (st := ⟨[], S⟩) R r
theorem RepW.tup' (R : RepSto K mg F T H S) {ds : List D} (r : RepW K mg F T (.tup ds) v) : ∃ a xs, v = .ref a ∧ SqT K H a xs ∧ RepVs K mg F ds xs ∧ ds.length ≤ sizeLine := RepV.tupD (st := ⟨[], S⟩) R r
theorem RepW.valTup {ds : List D} (r : RepW K mg F T (.tup ds) v) : RepV K mg F (.tup ds) v := by
  rcases r with r | ⟨a, _, ⟨es, h, _⟩ | ⟨es, h, _⟩⟩
  · exact r
  · cases h
  · cases h
theorem Out.stay {r : D} {Q : VK} (o : Out K mg F T H S r Q) (R : RepSto K mg F T H S) (h : RepV K mg F r v) : Q v H := o F T H v .refl R (fun _ _ h => h) (RepV.toQ (st := ⟨[], S⟩) h) (fun e => by rw [h.notOwn] at e; cases e)
theorem Out.tup {ds : List D} {vs : List V} {Q : VK} (o : Out K mg F T H S (.tup ds) Q) (R : RepSto K mg F T H S) (h : RepVs K mg F ds vs) (hl : ds.length ≤ sizeLine) {p : Addr} (hp : H p = none) : Q (.ref p) (upd H p (.tup vs)) := by
  obtain ⟨R', g⟩ := R.newF (o := .tup vs) hp
  exact o _ _ _ _ g R' (fun _ _ h => h) (.tup hl (SqT.of upd_same) (h.mono g.g1)) (fun e => by cases e)
theorem Out.own {ds : List D} {vs : List V} {Q : VK} (o : Out K mg F T H S (.own ds) Q) (R : RepSto K mg F T H S) (h : RepVs K mg F ds vs) (hl : ds.length ≤ sizeLine) {p : Addr} (hp : H p = none) : Q (.ref p) (upd H p (.lst vs)) := by
  obtain ⟨R', g⟩ := R.setT (a := p) (o := .lst vs) (u := .lst ds) (S' := S) (.inl hp) ⟨vs, upd_same, h, hl⟩ (fun b w hb => .inr ⟨fun z => (by rw [z, R.noS (R.noT hp)] at hb; cases hb), hb⟩)
  refine o _ _ _ _ g R' (fun a u h => ?_) ⟨p, rfl, Sto.put_same, R.noS (R.noT hp)⟩ (fun _ a e => by cases e; exact R.noT hp)
  rw [Sto.put_ne (fun z => by subst z; rw [R.noT hp] at h; cases h)]
  exact h
end
section
variable {X : Cx}
theorem or_eq (hu : X.A.units + 64 < cLine) : OpR X (compareOp .Eq) (LR2 X.K X.mg eqD) := by
  intro pins s σ H x y v u Q I rx ry ⟨F, T, S, d, e, r, R, p, q, hf, out⟩
  unfold eqD at hf
  split at hf
  · rename_i hc
    cases hf
    simp only [Bool.and_eq_true, decide_eq_true_eq] at hc
    obtain ⟨⟨h1, h2⟩, h3⟩ := hc
    obtain ⟨a1, a2, a3⟩ := p.dp R h1
    obtain ⟨b1, b2, b3⟩ := q.dp R h2
    obtain ⟨as, r1⟩ := Dp.reads I _ x v a1 rx
    obtain ⟨bs, r2⟩ := Dp.reads I _ y u b1 ry
    refine SeqAt.compareEq_reads r1 r2 a2 b2 ?_ ⟨.bl _, H, I, rfl, out.stay R (.bl _)⟩
    have := Nat.min_le_left d.py.depth e.py.depth
    omega
  · cases hf
theorem or_ne (hu : X.A.units + 64 < cLine) : OpR X (compareOp .NotEq) (LR2 X.K X.mg neD) := by
  intro pins s σ H x y v u Q I rx ry ⟨F, T, S, d, e, r, R, p, q, hf, out⟩
  unfold neD at hf
  split at hf
  · rename_i hc
    cases hf
    simp only [Bool.and_eq_true, decide_eq_true_eq] at hc
    obtain ⟨⟨h1, h2⟩, h3⟩ := hc
    obtain ⟨a1, a2, a3⟩ := p.dp R h1
    obtain ⟨b1, b2, b3⟩ := q.dp R h2
    obtain ⟨as, r1⟩ := Dp.reads I _ x v a1 rx
    obtain ⟨bs, r2⟩ := Dp.reads I _ y u b1 ry
    refine SeqAt.compareNe_reads r1 r2 a2 b2 ?_ ⟨.bl _, H, I, rfl, out.stay R (.bl _)⟩
    have := Nat.min_le_left d.py.depth e.py.depth
    omega
  · cases hf
end

/-! ### arithmetic -/
def b2z (b : Bool) : Int := if b then 1 else 0
def small (i : Int) : Bool := decide (-(2 ^ 64) < i ∧ i < 2 ^ 64)
def addD : D → D → Option D
  | .int a, .int b => some (.int (a + b))
  | .str a, .str b => if a.length + b.length ≤ sizeLine then some (.str (a ++ b)) else none
  | .tup a, .tup b => if a.length + b.length ≤ sizeLine then some (.tup (a ++ b)) else none
  | .lst a, .lst b => if a.length + b.length ≤ sizeLine then some (.own (a ++ b)) else none
  | _, _ => none
def subD : D → D → Option D
  | .int a, .int b => some (.int (a - b))
  | _, _ => none
def mulD : D → D → Option D
  | .int a, .int b => if small a || small b then some (.int (a * b)) else none
  | _, _ => none
def modD : D → D → Option D
  | .int a, .int b => if 0 < b then some (.int (a % b)) else none
  | _, _ => none
def fdivD : D → D → Option D
  | .int a, .int b => if 0 < b ∧ b < 1073741824 then some (.int (a / b)) else none
  | _, _ => none
def powD : D → D → Option D
  | .int a, .int b => if 0 ≤ b ∧ b ≤ 1000000 ∧ a.natAbs < 2 ^ 64 then some (.int (a ^ b.toNat)) else none
  | _, _ => none
def negD : D → Option D
  | .int a => some (.int (-a))
  | _ => none
section
variable {X : Cx}
theorem RepW.int {K : PySem.W.Frag} {mg : Str → Option Value} {F : Hp} {T : Sto} {i : Int} {v : V} (r : RepW K mg F T (.int i) v) : v = .int i := r.flat rfl
theorem RepW.str {K : PySem.W.Frag} {mg : Str → Option Value} {F : Hp} {T : Sto} {i : Str} {v : V} (r : RepW K mg F T (.str i) v) : v = .str i := r.flat rfl
theorem strOk_append {a b : Str} (ha : PyData.strOk a = true) (hb : PyData.strOk b = true) : PyData.strOk (a ++ b) = true := by
  show (a.cps ++ b.cps).all _ = true
  rw [Array.all_append]
  simp only [PyData.strOk] at ha hb
  rw [ha, hb]; rfl
theorem op_catL : OpR X (binaryOp .Add) (fun x y H Q => ∃ l b xs zs, x = .ref l ∧ y = .ref b ∧ SqL X.K H l xs ∧ SqL X.K H b zs ∧ xs.length + zs.length ≤ sizeLine ∧ ∀ p, H p = none → Q (.ref p) (upd H p (.lst (xs ++ zs)))) := by
  rintro pins s σ H x y v u Q I rx ry ⟨l, b, xs, zs, rfl, rfl, hH, hB, hz, q⟩
  cases rx
  cases ry
  obtain ⟨its, r, ⟨⟨c1, d1, a1, s1⟩, n, e, k1, k2, k3⟩, _⟩ := I.list hH
  obtain ⟨its2, r2, ⟨⟨c2, d2, a2, s2⟩, n2, e2, j1, j2, j3⟩, _⟩ := I.list hB
  simp only at k1 k2 k3 j1 j2 j3
  subst k1 k2 k3 j1 j2 j3
  have ea : its.toArray ++ its2.toArray = (its ++ its2).toArray := by simp
  have hl := r.length
  have hl2 := r2.length
  refine concat_meets ⟨_, e, rfl⟩ ⟨_, e2, rfl⟩ noFill_list_add seq_list_add PySem.F.slot_list_add PySem.F.entry_list_add (PySem.F.args_list_add_2 _ _) (PyProof.Rows.list_addW l b its.toArray its2.toArray n n2 none none s1 s2 (by rw [List.size_toArray, List.size_toArray]; omega)) ⟨e, e2, ?_⟩
  rw [ea]
  exact ⟨.ref _, _, I.lnew (t' := s.toks) (r.append r2) (by rw [List.length_append]; omega), rfl, q _ I.fresh⟩
theorem or_add : OpR X (binaryOp .Add) (LR2 X.K X.mg addD) := by
  intro pins s σ H x y v u Q I rx ry ⟨F, T, S, d, e, r, R, p, q, hf, out⟩
  cases d <;> cases e <;> simp only [addD] at hf <;> try (cases hf; done)
  · obtain rfl := p.int; obtain rfl := q.int; cases hf
    exact op_add pins s σ H _ _ v u Q I rx ry ⟨_, _, rfl, rfl, out.stay R (.int _)⟩
  · split at hf <;> cases hf
    rename_i hl
    obtain rfl := p.str; obtain rfl := q.str
    exact op_add_str pins s σ H _ _ v u Q I rx ry ⟨_, _, rfl, rfl, hl, out.stay R (.str (strOk_append p.strOk q.strOk))⟩
  · split at hf <;> cases hf
    rename_i hl
    obtain ⟨a, xs, rfl, ha, qa, la⟩ := p.tup' R
    obtain ⟨b, ys, rfl, hb, qb, lb⟩ := q.tup' R
    refine op_catA pins s σ H _ _ v u Q I rx ry ⟨a, b, xs, ys, rfl, rfl, ha, hb, by rw [← qa.length, ← qb.length]; exact hl, fun z => ?_, fun _ z => ?_, fun _ _ t ht => out.tup R (qa.append qb) (by rw [List.length_append]; exact hl) ht⟩
    · have e := qa.length
      rw [z] at e
      have e' := List.eq_nil_of_length_eq_zero e
      subst e'
      exact out.stay R q.valTup
    · have e := qb.length
      rw [z] at e
      have e' := List.eq_nil_of_length_eq_zero e
      subst e'
      rw [List.append_nil] at out
      exact out.stay R p.valTup
  · split at hf <;> cases hf
    rename_i hl
    obtain ⟨a, xs, rfl, ha, qa, la⟩ := p.lst' R
    obtain ⟨b, ys, rfl, hb, qb, lb⟩ := q.lst' R
    exact op_catL pins s σ H _ _ v u Q I rx ry ⟨a, b, xs, ys, rfl, rfl, ha, hb, by rw [← qa.length, ← qb.length]; exact hl, fun t ht => out.own R (qa.append qb) (by rw [List.length_append]; exact hl) ht⟩
theorem or_sub : OpR X (binaryOp .Sub) (LR2 X.K X.mg subD) := by
  intro pins s σ H x y v u Q I rx ry ⟨F, T, S, d, e, r, R, p, q, hf, out⟩
  cases d <;> cases e <;> simp only [subD] at hf <;> try (cases hf; done)
  obtain rfl := p.int; obtain rfl := q.int; cases hf
  exact op_sub pins s σ H _ _ v u Q I rx ry ⟨_, _, rfl, rfl, out.stay R (.int _)⟩
theorem or_mul : OpR X (binaryOp .Mult) (LR2 X.K X.mg mulD) := by
  intro pins s σ H x y v u Q I rx ry ⟨F, T, S, d, e, r, R, p, q, hf, out⟩
  cases d <;> cases e <;> simp only [mulD] at hf <;> try (cases hf; done)
  split at hf <;> cases hf
  rename_i hl
  obtain rfl := p.int; obtain rfl := q.int
  simp only [Bool.or_eq_true, small, decide_eq_true_eq] at hl
  exact op_mul pins s σ H _ _ v u Q I rx ry ⟨_, _, rfl, rfl, hl, out.stay R (.int _)⟩
theorem or_mod : OpR X (binaryOp .Mod) (LR2 X.K X.mg modD) := by
  intro pins s σ H x y v u Q I rx ry ⟨F, T, S, d, e, r, R, p, q, hf, out⟩
  cases d <;> cases e <;> simp only [modD] at hf <;> try (cases hf; done)
  split at hf <;> cases hf
  rename_i hl
  obtain rfl := p.int; obtain rfl := q.int
  exact op_mod pins s σ H _ _ v u Q I rx ry ⟨_, _, rfl, rfl, hl, out.stay R (.int _)⟩
theorem or_fdiv : OpR X (binaryOp .FloorDiv) (LR2 X.K X.mg fdivD) := by
  intro pins s σ H x y v u Q I rx ry ⟨F, T, S, d, e, r, R, p, q, hf, out⟩
  cases d <;> cases e <;> simp only [fdivD] at hf <;> try (cases hf; done)
  split at hf <;> cases hf
  rename_i hl
  obtain rfl := p.int; obtain rfl := q.int
  exact op_fdiv pins s σ H _ _ v u Q I rx ry ⟨_, _, rfl, rfl, hl, out.stay R (.int _)⟩
theorem or_pow : OpR X (binaryOp .Pow) (LR2 X.K X.mg powD) := by
  intro pins s σ H x y v u Q I rx ry ⟨F, T, S, d, e, r, R, p, q, hf, out⟩
  cases d <;> cases e <;> simp only [powD] at hf <;> try (cases hf; done)
  split at hf <;> cases hf
  rename_i hl
  obtain rfl := p.int; obtain rfl := q.int
  exact op_pow pins s σ H _ _ v u Q I rx ry ⟨_, _, rfl, rfl, hl, out.stay R (.int _)⟩
theorem ur_neg : UnR X (unaryOp .USub) (LR1 X.K X.mg negD) := by
  intro pins s σ H x v Q I rx ⟨F, T, S, d, r, R, p, hf, out⟩
  cases d <;> simp only [negD] at hf <;> try (cases hf; done)
  obtain rfl := p.int; cases hf
  exact un_neg pins s σ H _ v Q I rx ⟨_, rfl, out.stay R (.int _)⟩
end
end DL
/-! the D layer, 4: comparisons, truth, tests, subscripts -/
namespace DL
open PySem PySem.Spec L2

/-! ### order, identity, membership -/
def ltS (a b : Str) : Bool := decide (a.cps.toList < b.cps.toList)
def ltD : D → D → Option D
  | .int a, .int b => some (.bl (decide (a < b)))
  | .str a, .str b => some (.bl (ltS a b))
  | _, _ => none
def leD : D → D → Option D
  | .int a, .int b => some (.bl (decide (a ≤ b)))
  | .str a, .str b => some (.bl (!ltS b a))
  | _, _ => none
def gtD : D → D → Option D
  | .int a, .int b => some (.bl (decide (b < a)))
  | .str a, .str b => some (.bl (ltS b a))
  | _, _ => none
def geD : D → D → Option D
  | .int a, .int b => some (.bl (decide (b ≤ a)))
  | .str a, .str b => some (.bl (!ltS a b))
  | _, _ => none
def isNon : D → Bool
  | .non => true
  | _ => false
def isD : D → D → Option D
  | a, .non => some (.bl (isNon a))
  | .bl a, .bl b => some (.bl (decide (a = b)))
  | _, _ => none
def isntD : D → D → Option D
  | a, .non => some (.bl (!isNon a))
  | .bl a, .bl b => some (.bl (!decide (a = b)))
  | _, _ => none
def kOf : D → Option Key
  | .int i => some (.inl i)
  | .str s => some (.inr s)
  | _ => none
def keyD (d e : D) : Bool := match d, e with
  | .int a, .int b => decide (a = b)
  | .str a, .str b => decide (a = b)
  | _, _ => false
def getE (k : D) : List D → Option D
  | [] => none
  | .tup [k', v] :: es => if keyD k' k then some v else getE k es
  | _ :: es => getE k es
def inB : D → D → Option Bool
  | .str c, .str z => match c.cps.toList with
    | [c] => some (decide (c ∈ z.cps.toList))
    | _ => none
  | x, .lst ys => if x.ok && oks ys && decide (deeps ys < 60) then some (ys.any fun y => eqv y x) else none
  | x, .tup ys => if x.ok && oks ys && decide (deeps ys < 60) then some (ys.any fun y => eqv y x) else none
  | k, .dic es => (kOf k).map fun _ => (getE k es).isSome
  | _, _ => none
def inD (a b : D) : Option D := (inB a b).map .bl
def ninD (a b : D) : Option D := (inB a b).map fun k => .bl (!k)

section
variable {X : Cx} {K : PySem.W.Frag} {mg : Str → Option Value} {F H : Hp} {T S : Sto}
theorem or_lt : OpR X (compareOp .Lt) (LR2 X.K X.mg ltD) := by
  intro pins s σ H x y v u Q I rx ry ⟨F, T, S, d, e, r, R, p, q, hf, out⟩
  cases d <;> cases e <;> simp only [ltD] at hf <;> try (cases hf; done)
  · obtain rfl := p.int; obtain rfl := q.int; cases hf
    exact op_lt pins s σ H _ _ v u Q I rx ry ⟨_, _, rfl, rfl, out.stay R (.bl _)⟩
  · obtain rfl := p.str; obtain rfl := q.str; cases hf
    exact op_lt_str pins s σ H _ _ v u Q I rx ry ⟨_, _, rfl, rfl, out.stay R (.bl _)⟩
theorem or_le : OpR X (compareOp .LtE) (LR2 X.K X.mg leD) := by
  intro pins s σ H x y v u Q I rx ry ⟨F, T, S, d, e, r, R, p, q, hf, out⟩
  cases d <;> cases e <;> simp only [leD] at hf <;> try (cases hf; done)
  · obtain rfl := p.int; obtain rfl := q.int; cases hf
    exact op_le pins s σ H _ _ v u Q I rx ry ⟨_, _, rfl, rfl, out.stay R (.bl _)⟩
  · obtain rfl := p.str; obtain rfl := q.str; cases hf
    exact op_le_str pins s σ H _ _ v u Q I rx ry ⟨_, _, rfl, rfl, out.stay R (.bl _)⟩
theorem or_gt : OpR X (compareOp .Gt) (LR2 X.K X.mg gtD) := by
  intro pins s σ H x y v u Q I rx ry ⟨F, T, S, d, e, r, R, p, q, hf, out⟩
  cases d <;> cases e <;> simp only [gtD] at hf <;> try (cases hf; done)
  · obtain rfl := p.int; obtain rfl := q.int; cases hf
    exact op_gt pins s σ H _ _ v u Q I rx ry ⟨_, _, rfl, rfl, out.stay R (.bl _)⟩
  · obtain rfl := p.str; obtain rfl := q.str; cases hf
    exact op_gt_str pins s σ H _ _ v u Q I rx ry ⟨_, _, rfl, rfl, out.stay R (.bl _)⟩
theorem or_ge : OpR X (compareOp .GtE) (LR2 X.K X.mg geD) := by
  intro pins s σ H x y v u Q I rx ry ⟨F, T, S, d, e, r, R, p, q, hf, out⟩
  cases d <;> cases e <;> simp only [geD] at hf <;> try (cases hf; done)
  · obtain rfl := p.int; obtain rfl := q.int; cases hf
    exact op_ge pins s σ H _ _ v u Q I rx ry ⟨_, _, rfl, rfl, out.stay R (.bl _)⟩
  · obtain rfl := p.str; obtain rfl := q.str; cases hf
    exact op_ge_str pins s σ H _ _ v u Q I rx ry ⟨_, _, rfl, rfl, out.stay R (.bl _)⟩
theorem RepW.isNon {d : D} {v : V} (r : RepW K mg F T d v) : decide (v = .non) = isNon d := by
  rcases r with r | ⟨a, rfl, ⟨es, rfl, _⟩ | ⟨es, rfl, _⟩⟩
  · cases r <;> first | rfl | exact decide_eq_false (fun z => nomatch z)
  · exact decide_eq_false (fun z => nomatch z)
  · exact decide_eq_false (fun z => nomatch z)
theorem RepW.non {v : V} (r : RepW K mg F T .non v) : v = .non := r.flat rfl
theorem RepW.bl {b : Bool} {v : V} (r : RepW K mg F T (.bl b) v) : v = .bl b := r.flat rfl
theorem or_is : OpR X (compareOp .Is) (LR2 X.K X.mg isD) := by
  intro pins s σ H x y v u Q I rx ry ⟨F, T, S, d, e, r, R, p, q, hf, out⟩
  cases e with
  | non =>
    have hf' : r = .bl (isNon d) := by cases d <;> exact (Option.some.inj hf).symm
    subst hf'
    obtain rfl := q.non
    exact op_isN pins s σ H _ _ v u Q I rx ry ⟨rfl, by rw [p.isNon]; exact out.stay R (.bl _)⟩
  | bl b =>
    cases d <;> simp only [isD] at hf <;> try (cases hf; done)
    obtain rfl := p.bl; obtain rfl := q.bl; cases hf
    exact op_isBl pins s σ H _ _ v u Q I rx ry ⟨_, _, rfl, rfl, out.stay R (.bl _)⟩
  | _ => cases d <;> simp only [isD] at hf <;> cases hf
theorem or_isnt : OpR X (compareOp .IsNot) (LR2 X.K X.mg isntD) := by
  intro pins s σ H x y v u Q I rx ry ⟨F, T, S, d, e, r, R, p, q, hf, out⟩
  cases e with
  | non =>
    have hf' : r = .bl (!isNon d) := by cases d <;> exact (Option.some.inj hf).symm
    subst hf'
    obtain rfl := q.non
    exact op_notN pins s σ H _ _ v u Q I rx ry ⟨rfl, by rw [p.isNon]; exact out.stay R (.bl _)⟩
  | bl b =>
    cases d <;> simp only [isntD] at hf <;> try (cases hf; done)
    obtain rfl := p.bl; obtain rfl := q.bl; cases hf
    exact op_notBl pins s σ H _ _ v u Q I rx ry ⟨_, _, rfl, rfl, out.stay R (.bl _)⟩
  | _ => cases d <;> simp only [isntD] at hf <;> cases hf

/-! ### truth -/
def truD : D → Option Bool
  | .non => some false
  | .bl b => some b
  | .int i => some (i != 0)
  | .str s => if s.length ≤ sizeLine then some ((s.length : Int) != 0) else none
  | .tup xs => some (!xs.isEmpty)
  | .lst xs => some (!xs.isEmpty)
  | _ => none
theorem RepVs.isEmpty {ds : List D} {vs : List V} (r : RepVs K mg F ds vs) : ds.isEmpty = vs.isEmpty := by cases r <;> rfl
theorem RepW.tru (R : RepSto K mg F T H S) {d : D} {v : V} (r : RepW K mg F T d v) {b : Bool} (h : truD d = some b) : TruV K v H b := by
  cases d <;> simp only [truD] at h <;> try (cases h; done)
  · obtain rfl := r.non; cases h; exact rfl
  · obtain rfl := r.bl; cases h; exact rfl
  · obtain rfl := r.int; cases h; exact rfl
  · obtain rfl := r.str
    split at h <;> cases h
    rename_i hl
    exact ⟨hl, rfl⟩
  · obtain ⟨a, xs, rfl, h1, h2, _⟩ := r.tup' R; cases h
    exact .inr (.inl ⟨xs, h1, by rw [h2.isEmpty]⟩)
  · obtain ⟨a, xs, rfl, h1, h2, _⟩ := r.lst' R; cases h
    exact .inl ⟨xs, h1, by rw [h2.isEmpty]⟩
end

def dTru (t : DE) : DT := fun st Q E => t st (fun x st1 => opt (res st1 x) fun x' => opt (truD x') fun b => Q b st1) E
def tNotD (t : DT) : DT := fun st Q E => t st (fun b st1 => Q (!b) st1) E
def tAndD (t u : DT) : DT := fun st Q E => t st (fun b st1 => if b = true then u st1 Q E else Q false st1) E
def tOrD (t u : DT) : DT := fun st Q E => t st (fun b st1 => if b = true then Q true st1 else u st1 Q E) E
def blD : D → Option Bool
  | .bl b => some b
  | _ => none
/-- a value that is a truth, as a test -/
def dTst (t : DE) : DT := fun st Q E => t st (fun x st1 => opt (blD x) fun b => Q b st1) E
def dNot (t : DE) : DE := fun st Q E => dTru t st (fun b st1 => Q (.bl (!b)) st1) E
def dAnd (t u : DE) : DE := fun st Q E => t st (fun x st1 => opt (truD (fz x)) fun b => if b = true then u st1 Q E else Q (fz x) st1) E
def dOr (t u : DE) : DE := fun st Q E => t st (fun x st1 => opt (truD (fz x)) fun b => if b = true then Q (fz x) st1 else u st1 Q E) E
def dIf (c : DT) (t u : DE) : DE := fun st Q E => c st (fun b st1 => if b = true then t st1 Q E else u st1 Q E) E
def dChain (f g : D → D → Option D) (a b c : DE) : DE := fun st Q E => a st (fun x st1 => b st1 (fun y st2 => opt (res st2 x) fun x' => opt (res st2 y) fun y' => opt (f x' y') fun r => opt (blD r) fun k =>
  if k = true then c st2 (fun z st3 => opt (res st3 y) fun y' => opt (res st3 z) fun z' => opt (g y' z') fun r => Q r st3) E else Q (.bl false) st2) E) E
section
variable {X : Cx} {W : WX} {a b c : Expr} {ta tb tc : DE} {pos : Pos} {t u : DT} {rest : List Expr}
theorem qt_tru (ha : QO X W a ta) (he : ∀ whole, isTrue a X.env whole = (do let v ← whole; standAt a.pos; holding [v] (truthy v))) : QT X W a (dTru ta) := by
  refine PT.imp (pt_truth ha he) ?_
  rintro σ H Q ⟨F, T, st, Qd, Ed, R, h, c, cx⟩
  refine ⟨F, T, st, _, Ed, R, h, fun F1 T1 H1 d st1 x g1 R1 p1 q1 => ?_, cx⟩
  obtain ⟨d', e1, q1⟩ := opt_elim q1
  obtain ⟨k, e2, q1⟩ := opt_elim q1
  exact ⟨k, (res_rep R1 p1 e1).tru R1.toRepSto e2, c _ _ _ _ _ g1 R1 q1⟩
theorem qt_cmp {op : CmpOp} {f : D → D → Option D} (ho : OpR X (compareOp op) (LR2 X.K X.mg f)) (ha : QO X W a ta) (hb : QO X W b tb) (hm : behindInMarks op b = false) : QT X W (.Compare a [op] [b] pos) (dTst (dOp2 f ta tb)) := by
  refine PT.imp (pt_cmpR ho ha hb hm) ?_
  rintro σ H Q ⟨F, T, st, Qd, Ed, R, h, c, cx⟩
  refine lo2 (mg := X.mg) (W := W) (f := f) (Q := fun x H' => ∃ k, x = V.bl k ∧ Q k H') ⟨F, T, st, _, Ed, R, h, fun F1 T1 H1 d st1 x g1 R1 p1 q1 => ?_, cx⟩
  obtain ⟨k, e1, q1⟩ := opt_elim q1
  cases d <;> simp only [blD] at e1 <;> cases e1
  have p := p1.1
  cases p
  exact ⟨_, rfl, c _ _ _ _ _ g1 R1 q1⟩
theorem qt_not (ha : QT X W a t) : QT X W (.UnaryOp .Not a pos) (tNotD t) := by
  refine PT.imp (pt_not ha) ?_
  rintro σ H Q ⟨F, T, st, Qd, Ed, R, h, c, cx⟩
  exact ⟨F, T, st, _, Ed, R, h, fun F1 T1 H1 d st1 g1 R1 q1 => c _ _ _ _ _ g1 R1 q1, cx⟩
/-- a chain of and, or -/
def QW (X : Cx) (W : WX) (e : Expr) (t : DT) : Prop := PW X e (LT X.K X.mg W t)
theorem PW.imp {X : Cx} {e : Expr} {t t' : TT} (h : PW X e t) (hi : ∀ σ H Q, t' σ H Q → t σ H Q) : PW X e t' := ⟨fun whole pins s σ H Q I q => h.run whole pins s σ H Q I (hi _ _ _ q)⟩
theorem qw_and1 (ha : QT X W a t) : QW X W (.BoolOp .And [a] pos) t := pw_and1 ha
theorem qw_or1 (ha : QT X W a t) : QW X W (.BoolOp .Or [a] pos) t := pw_or1 ha
theorem qw_and (ha : QT X W a t) (hb : QW X W (.BoolOp .And (b :: rest) pos) u) : QW X W (.BoolOp .And (a :: b :: rest) pos) (tAndD t u) := by
  refine PW.imp (pw_and ha hb) ?_
  rintro σ H Q ⟨F, T, st, Qd, Ed, R, h, c, cx⟩
  refine ⟨F, T, st, _, Ed, R, h, fun F1 T1 H1 k st1 g1 R1 q1 => ?_, cx⟩
  cases k with
  | true => exact ⟨F1, T1, st1, Qd, Ed, R1, q1, fun F2 T2 H2 k st2 g2 R2 q2 => c _ _ _ _ _ (g1.trans g2) R2 q2, cx.step g1⟩
  | false => exact c _ _ _ _ _ g1 R1 q1
theorem qw_or (ha : QT X W a t) (hb : QW X W (.BoolOp .Or (b :: rest) pos) u) : QW X W (.BoolOp .Or (a :: b :: rest) pos) (tOrD t u) := by
  refine PW.imp (pw_or ha hb) ?_
  rintro σ H Q ⟨F, T, st, Qd, Ed, R, h, c, cx⟩
  refine ⟨F, T, st, _, Ed, R, h, fun F1 T1 H1 k st1 g1 R1 q1 => ?_, cx⟩
  cases k with
  | false => exact ⟨F1, T1, st1, Qd, Ed, R1, q1, fun F2 T2 H2 k st2 g2 R2 q2 => c _ _ _ _ _ (g1.trans g2) R2 q2, cx.step g1⟩
  | true => exact c _ _ _ _ _ g1 R1 q1
theorem qt_w {e : Expr} (h : QW X W e t) : QT X W e t := PW.pt h
theorem qe_not (ha : QO X W a ta) : QE X W (.UnaryOp .Not a pos) (dNot ta) := by
  refine PE.imp (pe_notT ha) ?_
  rintro σ H Q ⟨F, T, st, Qd, Ed, R, h, c, cx⟩
  refine ⟨F, T, st, _, Ed, R, h, fun F1 T1 H1 d st1 x g1 R1 p1 q1 => ?_, cx⟩
  obtain ⟨d', e1, q1⟩ := opt_elim q1
  obtain ⟨k, e2, q1⟩ := opt_elim q1
  exact ⟨k, (res_rep R1 p1 e1).tru R1.toRepSto e2, c _ _ _ _ _ _ g1 R1 (RepV.bl _).toR q1⟩
theorem qe_one {op : BoolOp} (ha : QE X W a ta) : QE X W (.BoolOp op [a] pos) ta := pe_one ha
theorem qe_and (ha : QE X W a ta) (hb : QE X W (.BoolOp .And (b :: rest) pos) tb) : QE X W (.BoolOp .And (a :: b :: rest) pos) (dAnd ta tb) := by
  refine PE.imp (pe_andT (qe_fz ha) hb) ?_
  rintro σ H Q ⟨F, T, st, Qd, Ed, R, h, c, cx⟩
  refine ⟨F, T, st, _, Ed, R, (show dFz ta st (fun d st1 => opt (truD d) fun b => if b = true then tb st1 Qd Ed else Qd d st1) Ed from h), fun F1 T1 H1 d st1 x g1 R1 p1 q1 => ?_, cx⟩
  obtain ⟨k, e1, q1⟩ := opt_elim q1
  have ho : ¬ isOwn d = true := fun z => by cases d <;> first | (cases z; done) | (simp only [truD] at e1; cases e1)
  have rv := notOwn_rep p1.1 ho
  refine ⟨k, RepW.tru R1.toRepSto (.inl rv) e1, ?_⟩
  cases k with
  | true => exact ⟨F1, T1, st1, Qd, Ed, R1, q1, fun F2 T2 H2 d st2 v g2 R2 r2 q2 => c _ _ _ _ _ _ (g1.trans g2) R2 r2 q2, cx.step g1⟩
  | false => exact c _ _ _ _ _ _ g1 R1 p1 q1
theorem qe_or (ha : QE X W a ta) (hb : QE X W (.BoolOp .Or (b :: rest) pos) tb) : QE X W (.BoolOp .Or (a :: b :: rest) pos) (dOr ta tb) := by
  refine PE.imp (pe_orT (qe_fz ha) hb) ?_
  rintro σ H Q ⟨F, T, st, Qd, Ed, R, h, c, cx⟩
  refine ⟨F, T, st, _, Ed, R, (show dFz ta st (fun d st1 => opt (truD d) fun b => if b = true then Qd d st1 else tb st1 Qd Ed) Ed from h), fun F1 T1 H1 d st1 x g1 R1 p1 q1 => ?_, cx⟩
  obtain ⟨k, e1, q1⟩ := opt_elim q1
  have ho : ¬ isOwn d = true := fun z => by cases d <;> first | (cases z; done) | (simp only [truD] at e1; cases e1)
  have rv := notOwn_rep p1.1 ho
  refine ⟨k, RepW.tru R1.toRepSto (.inl rv) e1, ?_⟩
  cases k with
  | false => exact ⟨F1, T1, st1, Qd, Ed, R1, q1, fun F2 T2 H2 d st2 v g2 R2 r2 q2 => c _ _ _ _ _ _ (g1.trans g2) R2 r2 q2, cx.step g1⟩
  | true => exact c _ _ _ _ _ _ g1 R1 p1 q1
theorem qe_ifExp (hc : QT X W c t) (ha : QE X W a ta) (hb : QE X W b tb) : QE X W (.IfExp c a b pos) (dIf t ta tb) := by
  refine PE.imp (pe_ifExp hc ha hb) ?_
  rintro σ H Q ⟨F, T, st, Qd, Ed, R, h, c, cx⟩
  refine ⟨F, T, st, _, Ed, R, h, fun F1 T1 H1 k st1 g1 R1 q1 => ?_, cx⟩
  cases k with
  | true => exact ⟨F1, T1, st1, Qd, Ed, R1, q1, fun F2 T2 H2 d st2 v g2 R2 r2 q2 => c _ _ _ _ _ _ (g1.trans g2) R2 r2 q2, cx.step g1⟩
  | false => exact ⟨F1, T1, st1, Qd, Ed, R1, q1, fun F2 T2 H2 d st2 v g2 R2 r2 q2 => c _ _ _ _ _ _ (g1.trans g2) R2 r2 q2, cx.step g1⟩
theorem lchain {f g : D → D → Option D} {K : PySem.W.Frag} {mg : Str → Option Value} {σ : L2.St} {H : Hp} {Q : VK} (h : LE K mg W (dChain f g ta tb tc) σ H Q) : tChain (LR2 K mg f) (LR2 K mg g) (LO K mg W ta) (LO K mg W tb) (LO K mg W tc) σ H Q := by
  obtain ⟨F, T, st, Qd, Ed, R, h, c, cx⟩ := h
  refine ⟨F, T, st, _, Ed, R, h, fun F1 T1 H1 d st1 x g1 R1 p1 q1 => ?_, cx⟩
  refine ⟨F1, T1, st1, _, Ed, R1, q1, fun F2 T2 H2 e st2 y g2 R2 p2 q2 => ?_, cx.step g1⟩
  obtain ⟨d', e1, q2⟩ := opt_elim q2
  obtain ⟨e', e2, q2⟩ := opt_elim q2
  obtain ⟨r, e3, q2⟩ := opt_elim q2
  obtain ⟨k, e4, q3⟩ := opt_elim q2
  clear q2
  cases r <;> simp only [blD] at e4 <;> cases e4
  refine ⟨F2, T2, st2.sto, d', e', _, R2.toRepSto, res_rep R2 (p1.mono g2.g1) e1, res_rep R2 p2 e2, e3, fun F3 T3 H3 z g3 R3 hT r3 _ => ?_⟩
  cases r3
  have R3' : Rep K mg F3 T3 H3 { st2 with sto := st2.sto } σ := R2.of R3 g3.g1 fun a u h1 h2 _ => ⟨hT a u h1, h2⟩
  refine ⟨k, rfl, ?_⟩
  cases k with
  | true =>
    rw [if_pos rfl] at q3 ⊢
    refine ⟨F3, T3, st2, _, Ed, R3', q3, fun F4 T4 H4 e st4 z g4 R4 p4 q4 => ?_, cx.step ((g1.trans g2).trans g3)⟩
    obtain ⟨d', e1, q4⟩ := opt_elim q4
    obtain ⟨e', e2, q4⟩ := opt_elim q4
    obtain ⟨r, e3, q4⟩ := opt_elim q4
    exact ⟨F4, T4, st4.sto, d', e', r, R4.toRepSto, res_rep R4 (p2.mono (g3.trans g4).g1) e1, res_rep R4 p4 e2, e3, out_of R4 (fun F' T' H' d st' v g R' r q => c F' T' H' d st' v ((((g1.trans g2).trans g3).trans g4).trans g) R' r q) q4⟩
  | false =>
    rw [if_neg Bool.false_ne_true] at q3 ⊢
    exact c _ _ _ _ _ _ ((g1.trans g2).trans g3) R3' (RepV.bl _).toR q3
theorem qe_chain {op op' : CmpOp} {f g : D → D → Option D} (ho : OpR X (compareOp op) (LR2 X.K X.mg f)) (ho' : OpR X (compareOp op') (LR2 X.K X.mg g)) (ha : QO X W a ta) (hb : QO X W b tb) (hc : QO X W c tc) (hm : lastMarks [op, op'] [b, c] = false) :
    QE X W (.Compare a [op, op'] [b, c] pos) (dChain f g ta tb tc) := PE.imp (pe_chain ho ho' ha hb hc hm) fun _ _ _ h => lchain h
theorem qt_chain {op op' : CmpOp} {f g : D → D → Option D} (ho : OpR X (compareOp op) (LR2 X.K X.mg f)) (ho' : OpR X (compareOp op') (LR2 X.K X.mg g)) (ha : QO X W a ta) (hb : QO X W b tb) (hc : QO X W c tc) (hm : lastMarks [op, op'] [b, c] = false) :
    QT X W (.Compare a [op, op'] [b, c] pos) (dTst (dChain f g ta tb tc)) := by
  refine PT.imp (pt_chain ho ho' ha hb hc hm) ?_
  rintro σ H Q ⟨F, T, st, Qd, Ed, R, h, c, cx⟩
  refine lchain (mg := X.mg) (W := W) (Q := fun x H' => ∃ k, x = V.bl k ∧ Q k H') ⟨F, T, st, _, Ed, R, h, fun F1 T1 H1 d st1 x g1 R1 p1 q1 => ?_, cx⟩
  obtain ⟨k, e1, q1⟩ := opt_elim q1
  cases d <;> simp only [blD] at e1 <;> cases e1
  have p := p1.1
  cases p
  exact ⟨_, rfl, c _ _ _ _ _ g1 R1 q1⟩
end

/-! ### subscripts, slices -/
def atD {α : Type} (xs : List α) (i : Int) : Option α := atI xs i
def ixD : D → D → Option D
  | .tup xs, .int i => atI xs i
  | .lst xs, .int i => atI xs i
  | .str s, .int i => if s.length ≤ sizeLine then (atI s.cps.toList i).map fun c => .str ⟨#[c]⟩ else none
  | .dic es, k => getE k es
  | _, _ => none
section
variable {X : Cx} {K : PySem.W.Frag} {mg : Str → Option Value} {F H : Hp} {T S : Sto}
theorem RepVs.atI {ds : List D} {vs : List V} {i : Int} {d : D} (r : RepVs K mg F ds vs) (h : L2.atI ds i = some d) : ∃ v, L2.atI vs i = some v ∧ RepV K mg F d v := by
  unfold L2.atI at h ⊢
  rw [← r.length]
  cases e : ixN ds.length i with
  | none => rw [e] at h; cases h
  | some j =>
    rw [e] at h
    exact r.get h
theorem strOk_one {s : Str} {i : Int} {c : Nat} (h : PyData.strOk s = true) (e : L2.atI s.cps.toList i = some c) : PyData.strOk ⟨#[c]⟩ = true := by
  unfold L2.atI at e
  cases q : ixN s.cps.toList.length i with
  | none => rw [q] at e; cases e
  | some j =>
    rw [q] at e
    have hm : c ∈ s.cps.toList := List.mem_of_getElem? e
    simp only [PyData.strOk] at h ⊢
    rw [Array.all_eq_true_iff_forall_mem] at h ⊢
    intro x hx
    simp only [List.mem_toArray, List.mem_singleton, Array.mem_def] at hx
    have hx' : x = c := by simpa using hx
    subst hx'
    exact h x (by simpa using hm)
end
end DL
/-! the D layer, 5: subscripts, slices, membership, displays, calls -/
namespace DL
open PySem PySem.Spec L2

section
variable {X : Cx} {K : PySem.W.Frag} {mg : Str → Option Value} {F H : Hp} {T S : Sto}
theorem RepW.dic' (R : RepSto K mg F T H S) {es : List D} {v : V} (r : RepW K mg F T (.dic es) v) : ∃ a kvs, v = .ref a ∧ Rd H a (.dK kvs) ∧ RepEs K mg F es kvs := by
  rcases r with r | ⟨a, h1, ⟨es', h2, h3⟩ | ⟨es', h2, h3⟩⟩
  · cases r with
    | dic h q => exact ⟨_, _, rfl, R.rd h, q⟩
  · cases h2
  · cases h2
    obtain ⟨_, kvs, h4, h5⟩ := R.ob a _ h3
    exact ⟨a, kvs, h1, .inl h4, h5⟩
theorem keyD_of {F : Hp} {dk kd : D} {k' k : Key} (r : RepV K mg F dk (kV k')) (e : kOf kd = some k) : keyD dk kd = decide (k' = k) := by
  cases k' with
  | inl i =>
    cases r
    cases kd <;> simp only [kOf] at e <;> cases e
    · simp [keyD]
    · simp [keyD]
  | inr i =>
    cases r
    cases kd <;> simp only [kOf] at e <;> cases e
    · simp [keyD]
    · simp [keyD]
theorem getE_rep {F : Hp} {kd : D} {k : Key} (e : kOf kd = some k) : ∀ {es : List D} {kvs : List (Key × V)}, RepEs K mg F es kvs →
    (getE kd es = none ∧ valV kvs k = none) ∨ ∃ d v, getE kd es = some d ∧ valV kvs k = some v ∧ RepV K mg F d v
  | _, _, .nil => .inl ⟨rfl, rfl⟩
  | _, _, @RepEs.cons _ _ _ dk d k' v es kvs h1 h2 r => by
    have q := keyD_of h1 e
    by_cases hk : k' = k
    · right
      refine ⟨d, v, ?_, valV_pos hk, h2⟩
      show (if keyD dk kd = true then some d else getE kd es) = some d
      rw [if_pos (by rw [q]; exact decide_eq_true hk)]
    · have g : getE kd (.tup [dk, d] :: es) = getE kd es := by
        show (if keyD dk kd = true then some d else getE kd es) = _
        rw [if_neg (by rw [q, decide_eq_false hk]; exact Bool.false_ne_true)]
      rw [g, valV_neg hk]
      exact getE_rep e r
theorem kOf_rep {F : Hp} {T : Sto} {kd : D} {k : Key} {v : V} (e : kOf kd = some k) (r : RepW K mg F T kd v) : v = kV k := by
  cases kd <;> simp only [kOf] at e <;> cases e <;> exact r.flat rfl
def ixD' : D → D → Option D
  | .dic es, k => (kOf k).bind fun _ => getE k es
  | d, i => ixD d i
theorem ir_ix (hu : X.A.units + 1 < cLine) : IxR X (LR2 X.K X.mg ixD') := by
  intro value slice pins s σ H x y v u Q I rx ry ⟨F, T, S, d, e, r, R, p, q, hf, out⟩ hs
  cases d <;> simp only [ixD', ixD] at hf
  case str z =>
    cases e <;> simp only [ixD] at hf <;> try (cases hf; done)
    split at hf
    · rename_i hl
      obtain rfl := p.str; obtain rfl := q.int
      cases hc : L2.atI z.cps.toList _ with
      | none => rw [hc] at hf; cases hf
      | some c =>
        rw [hc] at hf; cases hf
        exact ix_str value slice pins s σ H _ _ v u Q I rx ry ⟨_, _, c, rfl, rfl, hl, hc, out.stay R (.str (strOk_one p.strOk hc))⟩ hs
    · cases hf
  case tup ds =>
    cases e <;> simp only [ixD] at hf <;> try (cases hf; done)
    obtain ⟨a, xs, rfl, h1, h2, l2⟩ := p.tup' R
    obtain rfl := q.int
    obtain ⟨w, h3, h4⟩ := h2.atI hf
    exact ix_tup value slice pins s σ H _ _ v u Q I rx ry ⟨a, xs, _, w, rfl, rfl, h1, h3, out.stay R h4⟩ hs
  case lst ds =>
    cases e <;> simp only [ixD] at hf <;> try (cases hf; done)
    obtain ⟨a, xs, rfl, h1, h2, l2⟩ := p.lst' R
    obtain rfl := q.int
    obtain ⟨w, h3, h4⟩ := h2.atI hf
    exact ix_list value slice pins s σ H _ _ v u Q I rx ry ⟨a, xs, _, w, rfl, rfl, h1, h3, out.stay R h4⟩ hs
  case dic es =>
    cases hk : kOf e with
    | none => rw [hk] at hf; cases hf
    | some k =>
      rw [hk] at hf
      obtain ⟨a, kvs, rfl, h1, h2⟩ := p.dic' R
      obtain rfl := kOf_rep hk q
      have hf' : getE e es = some r := hf
      rcases getE_rep hk h2 with ⟨g1, g2⟩ | ⟨d, w, g1, g2, g3⟩
      · rw [g1] at hf'; cases hf'
      · rw [g1] at hf'; cases hf'
        cases rx
        have g : DGet H a (kV k) (some w) := .inl ⟨kvs, k, h1, rfl, g2.symm⟩
        exact PyProof.Rows.tail_any (dict_typeIs I g) PySem.F.slot_dict_getitem.lookup (d_getItem hu I g ry fun w' s' I' rw' => ⟨w, H, I', rw', out.stay R g3⟩) hs
  all_goals (cases e <;> cases hf)

theorem anyEqv : ∀ (ys : List D) (x : D), ((pys ys).any fun z => PyData.eqv z x.py) = ys.any fun y => eqv y x
  | [], _ => by simp only [pys, List.any_nil]
  | y :: ys, x => by
    simp only [pys, List.any_cons, anyEqv ys x]
    rfl
theorem inRoom {d : D} {ys : List D} {n : Nat} (h1 : d.py.depth = d.deep) (h2 : PyData.depthAll (pys ys) = deeps ys) (h3 : deeps ys < 60) (hu : n + 64 < cLine) : n + 1 + min (PyData.depthAll (pys ys)) d.py.depth < cLine := by
  have := Nat.min_le_left (PyData.depthAll (pys ys)) d.py.depth
  omega
theorem RepVs.dp' {ds : List D} {v : V} (h : Dp K H v (D.lst ds).py) : True := trivial
/-- membership, by the machine's two words -/
theorem in_core (hu : X.A.units + 64 < cLine) {pins : List (Addr × Obj)} {s : Shared} {σ : L2.St} {x y : V} {v u : Value} {Q : Bool → Hp → Prop} (I : L2.Inv X pins σ H s) (rx : RelV x v) (ry : RelV y u) {d e : D} (R : RepSto X.K X.mg F T H S) (p : RepW X.K X.mg F T d x) (q : RepW X.K X.mg F T e y) {b : Bool} (hb : inB d e = some b)
    (h : Q b H) : wpAny (model X.prog X.w) X.A (compareOp .In v u) (fun r s' => ∃ c, r = .bool c ∧ ∃ H', L2.Inv X pins σ H' s' ∧ Q c H') X.xe s ∧ wpAny (model X.prog X.w) X.A (compareOp .NotIn v u) (fun r s' => ∃ c, r = .bool (!c) ∧ ∃ H', L2.Inv X pins σ H' s' ∧ Q c H') X.xe s := by
  have fin : ∀ {f : Bool → Bool} (P : Bool), P = b → (∃ c, Value.bool (f P) = .bool (f c) ∧ ∃ H', L2.Inv X pins σ H' s ∧ Q c H') := fun P e => ⟨P, rfl, H, I, by rw [e]; exact h⟩
  cases e <;> simp only [inB] at hb <;> try (cases d <;> cases hb; done)
  case str z =>
    cases d <;> simp only [inB] at hb <;> try (cases hb; done)
    split at hb
    · rename_i cs c hc
      cases hb
      obtain rfl := p.str; obtain rfl := q.str
      have hs : ∀ t : Str, t.cps.toList = [c] → t = ⟨#[c]⟩ := fun t ht => by
        cases t with
        | mk a =>
          have : a = #[c] := by rw [← Array.toList_inj]; exact ht
          rw [this]
      have e1 := hs _ hc
      refine ⟨?_, ?_⟩
      · refine thn (op_in_sign pins s σ H _ _ v u (fun w H' => w = .bl (decide (c ∈ z.cps.toList)) ∧ Q (decide (c ∈ z.cps.toList)) H') I rx ry ⟨c, z, by rw [e1], rfl, rfl, h⟩) fun r s' hr => ?_
        obtain ⟨w, H', I', rw', ew, hq⟩ := hr
        subst ew
        cases rw'
        exact ⟨_, rfl, H', I', hq⟩
      · refine thn (op_notIn_sign pins s σ H _ _ v u (fun w H' => w = .bl (!decide (c ∈ z.cps.toList)) ∧ Q (decide (c ∈ z.cps.toList)) H') I rx ry ⟨c, z, by rw [e1], rfl, rfl, h⟩) fun r s' hr => ?_
        obtain ⟨w, H', I', rw', ew, hq⟩ := hr
        subst ew
        cases rw'
        exact ⟨_, rfl, H', I', hq⟩
    · cases hb
  case tup ys =>
    have hb' : (if d.ok && oks ys && decide (deeps ys < 60) then some (ys.any fun y => eqv y d) else none) = some b := by cases d <;> exact hb
    split at hb'
    · rename_i hc
      cases hb'
      simp only [Bool.and_eq_true, decide_eq_true_eq] at hc
      obtain ⟨a1, a2, a3⟩ := p.dp R hc.1.1
      obtain ⟨b1, b2, b3⟩ := q.dp R (show (D.tup ys).ok = true by simp only [D.ok]; exact hc.1.2)
      simp only [D.py] at b1 b2 b3
      obtain ⟨as, r1⟩ := Dp.reads I _ x v a1 rx
      obtain ⟨bs, r2⟩ := Dp.reads I _ y u b1 ry
      simp only [PyData.canLay0] at b2
      simp only [PyData.depth, D.deep] at b3
      have hr := inRoom (n := X.A.units) a3 (Nat.succ.inj b3) hc.2 hu
      exact ⟨SeqAt.in_tuple_reads r2 r1 b2 a2 hr (fin (f := fun x => x) _ (anyEqv ys d)), SeqAt.notIn_tuple_reads r2 r1 b2 a2 hr (fin (f := fun x => !x) _ (anyEqv ys d))⟩
    · cases hb'
  case lst ys =>
    have hb' : (if d.ok && oks ys && decide (deeps ys < 60) then some (ys.any fun y => eqv y d) else none) = some b := by cases d <;> exact hb
    split at hb'
    · rename_i hc
      cases hb'
      simp only [Bool.and_eq_true, decide_eq_true_eq] at hc
      obtain ⟨a1, a2, a3⟩ := p.dp R hc.1.1
      obtain ⟨b1, b2, b3⟩ := q.dp R (show (D.lst ys).ok = true by simp only [D.ok]; exact hc.1.2)
      simp only [D.py] at b1 b2 b3
      obtain ⟨as, r1⟩ := Dp.reads I _ x v a1 rx
      obtain ⟨bs, r2⟩ := Dp.reads I _ y u b1 ry
      simp only [PyData.canLay0] at b2
      simp only [PyData.depth, D.deep] at b3
      have hr := inRoom (n := X.A.units) a3 (Nat.succ.inj b3) hc.2 hu
      exact ⟨SeqAt.in_list_reads r2 r1 b2 a2 hr (fin (f := fun x => x) _ (anyEqv ys d)), SeqAt.notIn_list_reads r2 r1 b2 a2 hr (fin (f := fun x => !x) _ (anyEqv ys d))⟩
    · cases hb'
  case dic es =>
    have hb' : ((kOf d).map fun _ => (getE d es).isSome) = some b := by cases d <;> exact hb
    cases hk : kOf d with
    | none => rw [hk] at hb'; cases hb'
    | some k =>
      rw [hk] at hb'
      have hb2 : (getE d es).isSome = b := Option.some.inj hb'
      obtain ⟨a, kvs, rfl, h1, h2⟩ := q.dic' R
      obtain rfl := kOf_rep hk p
      cases ry
      have g : DGet H a (kV k) (valV kvs k) := .inl ⟨kvs, k, h1, rfl, rfl⟩
      have hv : (valV kvs k).isSome = b := by
        rw [← hb2]
        rcases getE_rep hk h2 with ⟨g1, g2⟩ | ⟨d', w, g1, g2, g3⟩ <;> rw [g1, g2] <;> rfl
      exact ⟨d_in (by omega) I g rx fun s' I' => ⟨_, rfl, H, I', by rw [hv]; exact h⟩, d_notIn (by omega) I g rx fun s' I' => ⟨_, rfl, H, I', by rw [hv]; exact h⟩⟩
theorem or_in (hu : X.A.units + 64 < cLine) : OpR X (compareOp .In) (LR2 X.K X.mg inD) := by
  intro pins s σ H x y v u Q I rx ry ⟨F, T, S, d, e, r, R, p, q, hf, out⟩
  unfold inD at hf
  cases hb : inB d e with
  | none => rw [hb] at hf; cases hf
  | some b =>
    rw [hb] at hf; cases hf
    refine thn (in_core (Q := fun c H' => Q (.bl c) H') hu I rx ry R p q hb (out.stay R (.bl b))).1 fun r s' ⟨c, e, H', I', hq⟩ => ?_
    subst e
    exact ⟨.bl c, H', I', rfl, hq⟩
theorem or_nin (hu : X.A.units + 64 < cLine) : OpR X (compareOp .NotIn) (LR2 X.K X.mg ninD) := by
  intro pins s σ H x y v u Q I rx ry ⟨F, T, S, d, e, r, R, p, q, hf, out⟩
  unfold ninD at hf
  cases hb : inB d e with
  | none => rw [hb] at hf; cases hf
  | some b =>
    rw [hb] at hf; cases hf
    refine thn (in_core (Q := fun c H' => Q (.bl (!c)) H') hu I rx ry R p q hb (out.stay R (.bl _))).2 fun r s' ⟨c, e, H', I', hq⟩ => ?_
    subst e
    exact ⟨.bl (!c), H', I', rfl, hq⟩
end

/-! ### slices -/
def cutD {α : Type} (xs : List α) (lo hi : Option Int) : List α := (xs.drop (HT.sIx xs.length 0 lo)).take (HT.sIx xs.length xs.length hi - HT.sIx xs.length 0 lo)
theorem cutD_length {α : Type} (xs : List α) (lo hi : Option Int) : (cutD xs lo hi).length ≤ xs.length := by
  unfold cutD
  rw [List.length_take, List.length_drop]
  omega
def sliceD : D → Option Int → Option Int → Option D
  | .lst xs, lo, hi => some (.own (cutD xs lo hi))
  | .tup xs, lo, hi => some (.tup (cutD xs lo hi))
  | .str s, lo, hi => if s.length ≤ sizeLine then some (.str (cutS s lo hi)) else none
  | _, _, _ => none
/-- a slice's part -/
abbrev DPt := DSt → (Option Int → DSt → Prop) → PX → Prop
def dNoPt : DPt := fun st Q _ => Q none st
def intD : D → Option Int
  | .int i => some i
  | _ => none
def dPt (t : DE) : DPt := fun st Q E => t st (fun x st1 => opt (intD x) fun i => Q (some i) st1) E
def dSl (a : DE) (lo hi : DPt) : DE := fun st Q E => a st (fun x st1 => lo st1 (fun l st2 => hi st2 (fun h st3 => opt (res st3 x) fun x' => opt (sliceD x' l h) fun r => Q r st3) E) E) E
section
variable (K : PySem.W.Frag) (mg : Str → Option Value)
def LPt (W : WX) (t : DPt) : TO := fun σ H Q => ∃ F T st Qd Ed, Rep K mg F T H st σ ∧ t st Qd Ed ∧
  (∀ F' T' H' b st', G F T H F' T' H' → Rep K mg F' T' H' st' σ → Qd b st' → Q b H') ∧ KX K mg W F T H σ Ed
end
def QPt (X : Cx) (W : WX) (e : Option Expr) (t : DPt) : Prop := PO X e (LPt X.K X.mg W t)
theorem PO.imp {X : Cx} {e : Option Expr} {t t' : TO} (h : PO X e t) (hi : ∀ σ H Q, t' σ H Q → t σ H Q) : PO X e t' := ⟨fun pins s σ H Q I q => h.run pins s σ H Q I (hi _ _ _ q)⟩
section
variable {X : Cx} {W : WX} {e : Expr} {t : DE} {lo hi : Option Expr} {tl th : DPt} {p2 pos : Pos}
theorem qp_none : QPt X W none dNoPt := PO.imp po_none fun σ H Q ⟨F, T, st, Qd, Ed, R, h, c, cx⟩ => c _ _ _ _ _ .refl R h
theorem qp_some (h : QE X W e t) : QPt X W (some e) (dPt t) := by
  refine PO.imp (po_some h) ?_
  rintro σ H Q ⟨F, T, st, Qd, Ed, R, h, c, cx⟩
  refine ⟨F, T, st, _, Ed, R, h, fun F1 T1 H1 d st1 x g1 R1 p1 q1 => ?_, cx⟩
  obtain ⟨i, e1, q1⟩ := opt_elim q1
  cases d <;> simp only [intD] at e1 <;> cases e1
  have p := p1.1
  cases p
  exact ⟨_, rfl, c _ _ _ _ _ g1 R1 q1⟩
theorem RepVs.cut {K : PySem.W.Frag} {mg : Str → Option Value} {F : Hp} {ds : List D} {vs : List V} (r : RepVs K mg F ds vs) (lo hi : Option Int) : RepVs K mg F (cutD ds lo hi) (cutV vs lo hi) := by
  unfold cutD cutV
  rw [r.length]
  exact (r.drop _).take _
theorem strOk_cut {s : Str} (h : PyData.strOk s = true) (lo hi : Option Int) : PyData.strOk (cutS s lo hi) = true := by
  simp only [PyData.strOk] at h ⊢
  rw [Array.all_eq_true_iff_forall_mem] at h ⊢
  intro x hx
  unfold cutS at hx
  have hx' := List.mem_of_mem_drop (List.mem_of_mem_take (by simpa using hx))
  exact h x (by simpa using hx')
def rSlD (K : PySem.W.Frag) (mg : Str → Option Value) : V → Option Int → Option Int → Hp → VK → Prop := fun x l h H Q => ∃ F T S d r, RepSto K mg F T H S ∧ RepW K mg F T d x ∧ sliceD d l h = some r ∧ Out K mg F T H S r Q
theorem sl_D : SlR X (rSlD X.K X.mg) := by
  intro pins s σ H x v vl vu lo hi sl Q I rx hs pl pu h
  obtain ⟨F, T, S, d, r, R, p, hf, out⟩ := h
  cases d <;> simp only [sliceD] at hf <;> try (cases hf; done)
  case str z =>
    split at hf <;> cases hf
    rename_i hl
    obtain rfl := p.str
    exact sl_str pins s σ H _ v vl vu lo hi sl Q I rx hs pl pu ⟨z, rfl, hl, out.stay R (.str (strOk_cut p.strOk lo hi))⟩
  case tup ds =>
    cases hf
    obtain ⟨a, xs, rfl, h1, h2, l2⟩ := p.tup' R
    refine sl_tupA pins s σ H _ v vl vu lo hi sl Q I rx hs pl pu ⟨a, xs, rfl, h1, fun z => ?_, fun _ t ht => out.tup R (h2.cut lo hi) (Nat.le_trans (cutD_length _ _ _) l2) ht⟩
    have e : cutD ds lo hi = ds := by
      unfold cutD
      rw [h2.length, z.1, z.2, ← h2.length]
      simp
    rw [e] at out
    exact out.stay R p.valTup
  case lst ds =>
    cases hf
    obtain ⟨a, xs, rfl, h1, h2, l2⟩ := p.lst' R
    exact sl_list pins s σ H _ v vl vu lo hi sl Q I rx hs pl pu ⟨a, xs, rfl, h1, fun t ht => out.own R (h2.cut lo hi) (Nat.le_trans (cutD_length _ _ _) l2) ht⟩
theorem qe_slice (ha : QO X W e t) (hl : QPt X W lo tl) (hh : QPt X W hi th) : QE X W (.Subscript e (.Slice lo hi none p2) pos) (dSl t tl th) := by
  refine PE.imp (pe_slice sl_D ha hl hh) ?_
  rintro σ H Q ⟨F, T, st, Qd, Ed, R, h, c, cx⟩
  refine ⟨F, T, st, _, Ed, R, h, fun F1 T1 H1 d st1 x g1 R1 p1 q1 => ?_, cx⟩
  refine ⟨F1, T1, st1, _, Ed, R1, q1, fun F2 T2 H2 l st2 g2 R2 q2 => ?_, cx.step g1⟩
  refine ⟨F2, T2, st2, _, Ed, R2, q2, fun F3 T3 H3 h st3 g3 R3 q3 => ?_, cx.step (g1.trans g2)⟩
  obtain ⟨d', e1, q3⟩ := opt_elim q3
  obtain ⟨r, e2, q3⟩ := opt_elim q3
  exact ⟨F3, T3, st3.sto, d', r, R3.toRepSto, res_rep R3 (p1.mono (g2.trans g3).g1) e1, e2, out_of R3 (fun F' T' H' d st' v g R' r q => c F' T' H' d st' v (((g1.trans g2).trans g3).trans g) R' r q) q3⟩
end

/-! ### arguments -/
/-- values that are kept, one after another -/
def kNil : DA := fun st Q _ => Q [] st
def kCons (a : DE) (t : DA) : DA := fun st Q E => a st (fun x st1 => t st1 (fun xs st2 => Q (fz x :: xs) st2) E) E
def notStar : Expr → Bool
  | .Starred .. => false
  | _ => true
theorem star_of {e : Expr} {es : List Expr} {env : Env} (h : notStar e = true) : starEach (e :: es) env = (false, eval e env) :: starEach es env := by
  cases e <;> first | rfl | cases h
section
variable (K : PySem.W.Frag) (mg : Str → Option Value)
def LK (W : WX) (t : DA) : TA := fun σ H Q => ∃ F T st Qd Ed, Rep K mg F T H st σ ∧ t st Qd Ed ∧
  (∀ F' T' H' ds st' vs, G F T H F' T' H' → Rep K mg F' T' H' st' σ → RepVs K mg F' ds vs → Qd ds st' → Q vs H') ∧ KX K mg W F T H σ Ed
end
def QK (X : Cx) (W : WX) (es : List Expr) (t : DA) : Prop := PA X es (LK X.K X.mg W t)
def ress (st : DSt) : List D → Option (List D)
  | [] => some []
  | d :: ds => (res st d).bind fun d' => (ress st ds).bind fun ds' => some (d' :: ds')
def RepWs (K : PySem.W.Frag) (mg : Str → Option Value) (F : Hp) (T : Sto) : List D → List V → Prop := Paired (RepW K mg F T)
theorem ress_rep {K : PySem.W.Frag} {mg : Str → Option Value} {F H : Hp} {T : Sto} {st : DSt} {σ : L2.St} (R : Rep K mg F T H st σ) : ∀ {ds : List D} {vs : List V} {ds' : List D}, RepPs K mg F σ ds vs → ress st ds = some ds' → RepWs K mg F T ds' vs
  | _, _, _, .nil, e => by cases e; exact .nil
  | _, _, _, .cons h r, e => by
    unfold ress at e
    obtain ⟨d', e1, e⟩ := Option.bind_eq_some_iff.mp e
    obtain ⟨ds', e2, e⟩ := Option.bind_eq_some_iff.mp e
    cases e
    exact .cons (res_rep R h e1) (ress_rep R r e2)
section
variable {X : Cx} {W : WX} {e : Expr} {es : List Expr} {t : DE} {ts : DA} {pos : Pos}
theorem qk_nil : QK X W [] kNil := PA.imp pa_nil fun σ H Q ⟨F, T, st, Qd, Ed, R, h, c, cx⟩ => c _ _ _ _ _ _ .refl R .nil h
theorem qk_cons (h : QE X W e t) (hs : QK X W es ts) (hn : notStar e = true) : QK X W (e :: es) (kCons t ts) := by
  refine PA.imp (pa_cons h hs (star_of hn)) ?_
  rintro σ H Q ⟨F, T, st, Qd, Ed, R, h, c, cx⟩
  refine ⟨F, T, st, _, Ed, R, h, fun F1 T1 H1 d st1 x g1 R1 p1 q1 => ?_, cx⟩
  obtain ⟨F1', T1', g1', R1', r1⟩ := freezeR R1 p1
  refine ⟨F1', T1', st1, _, Ed, R1', q1, fun F2 T2 H2 ds st2 vs g2 R2 rs q2 => ?_, cx.step (g1.trans g1')⟩
  exact c _ _ _ _ _ _ ((g1.trans g1').trans g2) R2 (.cons (r1.mono g2.g1) rs) q2
theorem qa_nil : QA X W [] aNil := PA.imp pa_nil fun σ H Q ⟨F, T, st, Qd, Ed, R, h, c, cx⟩ => c _ _ _ _ _ _ .refl R .nil h
theorem qa_cons (h : QO X W e t) (hs : QA X W es ts) (hn : notStar e = true) : QA X W (e :: es) (aCons t ts) := by
  refine PA.imp (pa_cons h hs (star_of hn)) ?_
  rintro σ H Q ⟨F, T, st, Qd, Ed, R, h, c, cx⟩
  refine ⟨F, T, st, _, Ed, R, h, fun F1 T1 H1 d st1 x g1 R1 p1 q1 => ?_, cx⟩
  refine ⟨F1, T1, st1, _, Ed, R1, q1, fun F2 T2 H2 ds st2 vs g2 R2 rs q2 => ?_, cx.step g1⟩
  exact c _ _ _ _ _ _ (g1.trans g2) R2 (.cons (p1.mono g2.g1) rs) q2
end
/-! ### displays -/
def dTup (t : DA) : DE := fun st Q E => t st (fun xs st1 => xs.length ≤ 1000 ∧ Q (.tup xs) st1) E
def dLst (t : DA) : DE := fun st Q E => t st (fun xs st1 => xs.length ≤ 1000 ∧ Q (.own xs) st1) E
theorem le_line {n : Nat} (h : n ≤ 1000) : n ≤ sizeLine := Nat.le_trans h (by decide)
section
variable {X : Cx} {W : WX} {e : Expr} {es : List Expr} {t : DE} {ts : DA} {pos : Pos}
theorem qe_tup {k : Nat} (h : QK X W es ts) : QE X W (.Tuple es k pos) (dTup ts) := by
  refine PE.imp (pe_tup h) ?_
  rintro σ H Q ⟨F, T, st, Qd, Ed, R, h, c, cx⟩
  refine ⟨F, T, st, _, Ed, R, h, fun F1 T1 H1 ds st1 vs g1 R1 p1 q1 => ?_, cx⟩
  obtain ⟨hl, q1⟩ := q1
  exact ⟨by rw [← p1.length]; exact le_line hl, fun p hp => (out_of (Q := Q) R1 (fun F' T' H' d st' v g R' r q => c F' T' H' d st' v (g1.trans g) R' r q) q1).tup R1.toRepSto p1 (le_line hl) hp⟩
theorem qe_lst (h : QK X W es ts) : QE X W (.List es pos) (dLst ts) := by
  refine PE.imp (pe_lst h) ?_
  rintro σ H Q ⟨F, T, st, Qd, Ed, R, h, c, cx⟩
  refine ⟨F, T, st, _, Ed, R, h, fun F1 T1 H1 ds st1 vs g1 R1 p1 q1 => ?_, cx⟩
  obtain ⟨hl, q1⟩ := q1
  exact ⟨by rw [← p1.length]; exact le_line hl, fun p hp => (out_of (Q := Q) R1 (fun F' T' H' d st' v g R' r q => c F' T' H' d st' v (g1.trans g) R' r q) q1).own R1.toRepSto p1 (le_line hl) hp⟩
end

/-! ### built-ins -/
def dBi (f : List D → Option D) (t : DA) : DE := fun st Q E => t st (fun xs st1 => opt (ress st1 xs) fun ys => opt (f ys) fun r => Q r st1) E
def LRn (K : PySem.W.Frag) (mg : Str → Option Value) (f : List D → Option D) : List V → Hp → VK → Prop := fun xs H Q => ∃ F T S ds r, RepSto K mg F T H S ∧ RepWs K mg F T ds xs ∧ f ds = some r ∧ Out K mg F T H S r Q
section
variable {X : Cx} {W : WX} {e : Expr} {es : List Expr} {t : DE} {ts : DA} {pos p : Pos} {x : Str} {id : String} {f : List D → Option D}
theorem lbi {K : PySem.W.Frag} {mg : Str → Option Value} {σ : L2.St} {H : Hp} {Q : VK} (h : LE K mg W (dBi f ts) σ H Q) : LA K mg W ts σ H fun xs H1 => LRn K mg f xs H1 Q := by
  obtain ⟨F, T, st, Qd, Ed, R, h, c, cx⟩ := h
  refine ⟨F, T, st, _, Ed, R, h, fun F1 T1 H1 ds st1 vs g1 R1 p1 q1 => ?_, cx⟩
  obtain ⟨ds', e1, q1⟩ := opt_elim q1
  obtain ⟨r, e2, q1⟩ := opt_elim q1
  exact ⟨F1, T1, st1.sto, ds', r, R1.toRepSto, ress_rep R1 p1 e1, e2, out_of R1 (fun F' T' H' d st' v g R' r q => c F' T' H' d st' v (g1.trans g) R' r q) q1⟩
theorem plain_of {es : List Expr} {env : Env} : (h : es.all notStar = true) → (backTo pos (starEach es env)).any (·.1) = false := by
  induction es with
  | nil => intro _; rfl
  | cons e es ih =>
    intro h
    simp only [List.all_cons, Bool.and_eq_true] at h
    rw [star_of h.1]
    have q := ih h.2
    simp only [backTo, List.map_cons, List.any_cons] at q ⊢
    exact q
theorem qe_bi (hc : CallR X (.builtin id) (LRn X.K X.mg f)) (hg : Gl X x) (hm : X.mg x = none) (hv : bootBuiltins x = some (.builtin id)) (ha : QA X W (e :: es) ts) (hn : x ≠ "__name__") (hdb : (x == ("__debug__" : Str)) = false) (hst : (e :: es).all notStar = true) :
    QE X W (.Call (.Name x p) (e :: es) [] pos) (dBi f ts) := by
  have h1 : notStar e = true ∧ es.all notStar = true := by simpa using hst
  exact PE.imp (pe_callB hc hg hm hv ha hn hdb (star_of h1.1) (plain_of h1.2)) fun σ H Q h => lbi h
theorem qe_ty (hc : CallR X (.type id) (LRn X.K X.mg f)) (hg : Gl X x) (hm : X.mg x = none) (hv : bootBuiltins x = some (.type id)) (ha : QA X W (e :: es) ts) (hn : x ≠ "__name__") (hdb : (x == ("__debug__" : Str)) = false) (hst : (e :: es).all notStar = true) :
    QE X W (.Call (.Name x p) (e :: es) [] pos) (dBi f ts) := by
  have h1 : notStar e = true ∧ es.all notStar = true := by simpa using hst
  exact PE.imp (pe_callTy hc hg hm hv ha hn hdb (star_of h1.1) (plain_of h1.2)) fun σ H Q h => lbi h
end

/-! ### calls of defs -/
abbrev DSpec := List D → Sto → (D → Sto → Prop) → (Exn → Sto → Prop) → Prop
def LSp (K : PySem.W.Frag) (mg : Str → Option Value) (sp : DSpec) : Sp := fun vs H Q E => ∃ F T S ds Qd Ed, RepSto K mg F T H S ∧ RepVs K mg F ds vs ∧ sp ds S Qd Ed ∧
  (∀ F' T' H' S' d v, G F T H F' T' H' → RepSto K mg F' T' H' S' → RepQ K mg F' T' S' d v → Qd d S' → Q v H') ∧
  (∀ F' T' H' S' x cls dd, G F T H F' T' H' → RepSto K mg F' T' H' S' → RepX K mg F' H' x cls dd → Ed x S' → E cls dd H')
def dCall (sp : DSpec) (t : DA) : DE := fun st Q E => t st (fun xs st1 => sp xs st1.sto (fun r S' => Q r { st1 with sto := S' }) (fun x S' => E x { st1 with sto := S' })) E
section
variable {K : PySem.W.Frag} {mg : Str → Option Value} {F F' H H' : Hp} {T T' S' : Sto} {st : DSt} {σ : L2.St}
def merge (T' S T : Sto) : Sto := fun a => match T' a with
  | some o => some o
  | none => if S a = none then T a else none
theorem merge_some {T' S T : Sto} {a : Addr} {o : DO} (h : T' a = some o) : merge T' S T a = some o := by unfold merge; rw [h]
theorem merge_cases {T' S T : Sto} {a : Addr} {o : DO} (h : merge T' S T a = some o) : T' a = some o ∨ (T' a = none ∧ S a = none ∧ T a = some o) := by
  unfold merge at h
  cases e : T' a with
  | some u => rw [e] at h; exact .inl h
  | none =>
    rw [e] at h
    simp only at h
    split at h
    · rename_i hs; exact .inr ⟨rfl, hs, h⟩
    · cases h
/-- behind a callee that saw the store alone -/
theorem Rep.back (R : Rep K mg F T H st σ) (g : G F st.sto H F' T' H') (R' : RepSto K mg F' T' H' S') :
    G F T H F' (merge T' st.sto T) H' ∧ Rep K mg F' (merge T' st.sto T) H' { st with sto := S' } σ ∧ ∀ a, T a ≠ none → st.sto a = none → T' a = none := by
  have sT : ∀ a, st.sto a ≠ none → T a ≠ none := fun a h => by
    obtain ⟨o, ho⟩ := ne_none h
    rw [R.sub a o ho]; simp
  have key : ∀ a, T a ≠ none → st.sto a = none → T' a = none ∧ ∃ o, H a = some o := fun a h1 h2 => by
    obtain ⟨u, hu⟩ := ne_none h1
    obtain ⟨o, ho, _⟩ := (R.ob a u hu).2.there
    refine ⟨not_none fun z => ?_, o, ho⟩
    rcases g.g4 a z with y | y
    · exact y h2
    · rw [y] at ho; cases ho
  have g' : G F T H F' (merge T' st.sto T) H' := by
    refine ⟨g.g1, fun a o h1 h2 h3 => g.g2 a o h1 (R.noS h2) h3, fun a h => ?_, fun a h => ?_, g.g5⟩
    · rcases g.g3 a h with z | z | z
      · exact .inl z
      · exact .inr (.inl (sT a z))
      · exact .inr (.inr z)
    · obtain ⟨o, ho⟩ := ne_none h
      rcases merge_cases ho with z | ⟨_, _, z⟩
      · rcases g.g4 a (ne_some z) with y | y
        · exact .inl (sT a y)
        · exact .inr y
      · exact .inl (ne_some z)
  have RS : RepSto K mg F' (merge T' st.sto T) H' S' := by
    refine ⟨R'.fr, fun a o h => ?_, fun a o h => merge_some (R'.sub a o h)⟩
    rcases merge_cases h with z | ⟨z1, z2, z3⟩
    · exact R'.ob a o z
    · obtain ⟨h1, h2⟩ := R.ob a o z3
      obtain ⟨u, hu, _⟩ := h2.there
      refine ⟨not_none fun y => ?_, h2.mono g.g1 ?_⟩
      · rcases g.g3 a y with w | w | w
        · exact w h1
        · exact w z2
        · rw [w] at hu; cases hu
      · rw [hu]; exact g.g2 a u hu z2 h1
  refine ⟨g', R.of RS g.g1 fun a u h1 h2 _ => ?_, fun a h1 h2 => (key a h1 h2).1⟩
  have k := (key a (ne_some h1) h2).1
  refine ⟨?_, R'.noS k⟩
  unfold merge
  rw [k]
  simp only
  rw [if_pos h2]
  exact h1
theorem Rep.backQ (R : Rep K mg F T H st σ) (hk : ∀ a, T a ≠ none → st.sto a = none → T' a = none) {d : D} {v : V} (r : RepQ K mg F' T' S' d v) : RepR K mg F' (merge T' st.sto T) { st with sto := S' } σ d v := by
  refine ⟨?_, fun ho a hv i e h1 h2 h3 => ?_⟩
  · cases d with
    | own ds => obtain ⟨a, h1, h2, h3⟩ := r; exact ⟨a, h1, merge_some h2, h3⟩
    | owd ds => obtain ⟨a, h1, h2, h3⟩ := r; exact ⟨a, h1, merge_some h2, h3⟩
    | _ => exact r
  · subst hv
    obtain ⟨b, u, k1, k2, k3, _⟩ := R.own_at h1 h2
    rw [h3] at k1; cases k1
    have z := hk a (ne_some k2) k3
    cases d with
    | own ds => obtain ⟨b, e1, q, _⟩ := r; cases e1; rw [z] at q; cases q
    | owd ds => obtain ⟨b, e1, q, _⟩ := r; cases e1; rw [z] at q; cases q
    | _ => cases ho
theorem RepSto.alone (R : RepSto K mg F T H S') : RepSto K mg F S' H S' := ⟨R.fr, fun a o h => R.ob a o (R.sub a o h), fun _ _ h => h⟩
theorem lcall {W : WX} {sp : DSpec} {ts : DA} {Q : VK} (h : LE K mg W (dCall sp ts) σ H Q) : LK K mg W ts σ H fun vs H1 => LSp K mg sp vs H1 Q (WE W σ) := by
  obtain ⟨F, T, st, Qd, Ed, R, h, c, cx⟩ := h
  refine ⟨F, T, st, _, Ed, R, h, fun F1 T1 H1 ds st1 vs g1 R1 p1 q1 => ?_, cx⟩
  refine ⟨F1, st1.sto, st1.sto, ds, _, _, R1.toRepSto.alone, p1, q1, fun F' T' H' S' d v g R' r q => ?_, fun F' T' H' S' x cls dd g R' r q => ?_⟩
  · obtain ⟨g2, R2, k⟩ := R1.back g R'
    exact c _ _ _ _ _ _ (g1.trans g2) R2 (R1.backQ k r) q
  · obtain ⟨g2, R2, k⟩ := R1.back g R'
    exact cx _ _ _ _ _ _ _ (g1.trans g2) R2 r q
end
section
variable {X : Cx} {W : WX} {e : Expr} {es : List Expr} {ts : DA} {pos p : Pos} {x : Str}
/-- what a caller must know of a def -/
structure Callee (X : Cx) (x : Str) (sp : DSpec) : Prop where
  ex : ∃ k f fd ps, FnOk X.prog X.w X.K X.mg X.base (L2.CX X.prog X.w) k f fd ps (LSp X.K X.mg sp) ∧ Room k X.A ∧ X.mg x = some (.ref f) ∧ PySem.W.keepIn X.K (.ref f) = true ∧ Binds X.K fd ps []
theorem qe_call {sp : DSpec} (C : Callee X x sp) (tk : Takes X W) (hg : Gl X x) (ha : QK X W (e :: es) ts) (hdb : (x == ("__debug__" : Str)) = false) (hst : (e :: es).all notStar = true) : QE X W (.Call (.Name x p) (e :: es) [] pos) (dCall sp ts) := by
  have h1 : notStar e = true ∧ es.all notStar = true := by simpa using hst
  obtain ⟨k, f, fd, ps, F, hr, hm, hk, hb⟩ := C.ex
  refine PE.imp (pe_callSD F hr hg hm hk hb .nil (E := WE W) (fun σ => passAt tk σ) ha hdb (star_of h1.1) (plain_of h1.2)) fun σ H Q h => ?_
  have q := lcall h
  simpa only [tCallSD, List.append_nil] using q
end
end DL
/-! the D layer, 6: statements, targets, loops -/
namespace DL
open PySem PySem.Spec L2

structure DEnds where
  nx : DSt → Prop
  rt : D → Sto → Prop
  ct : DSt → Prop
  ex : PX
abbrev DS := DEnds → DSt → Prop
section
variable (K : PySem.W.Frag) (mg : Str → Option Value)
structure LEnds (W : WX) (F : Hp) (T : Sto) (H : Hp) (Dd : DEnds) (E : Ends) : Prop where
  nx : ∀ F' T' H' st' σ', G F T H F' T' H' → Rep K mg F' T' H' st' σ' → Dd.nx st' → E.nx σ' H'
  ct : ∀ F' T' H' st' σ', G F T H F' T' H' → Rep K mg F' T' H' st' σ' → Dd.ct st' → E.ct σ' H'
  rt : ∀ F' T' H' S' d v, G F T H F' T' H' → RepSto K mg F' T' H' S' → RepQ K mg F' T' S' d v → Dd.rt d S' → E.rt v H'
  ex : ∀ x st' σ' F' T' H' cls dd, G F T H F' T' H' → Rep K mg F' T' H' st' σ' → RepX K mg F' H' x cls dd → Dd.ex x st' → W cls dd σ' H'
def LS (W : WX) (t : DS) : TS := fun E σ H => ∃ F T st Dd, Rep K mg F T H st σ ∧ t Dd st ∧ LEnds K mg W F T H Dd E
end
def QS (X : Cx) (W : WX) (s : Stmt) (t : DS) : Prop := PS X s (LS X.K X.mg W t)
def QSs (X : Cx) (W : WX) (s : List Stmt) (t : DS) : Prop := PSs X s (LS X.K X.mg W t)
theorem PS.imp {X : Cx} {s : Stmt} {t t' : TS} (h : PS X s t) (hi : ∀ D σ H, t' D σ H → t D σ H) : PS X s t' := ⟨fun pins s σ H D I q => h.run pins s σ H D I (hi _ _ _ q)⟩
theorem PSs.imp {X : Cx} {s : List Stmt} {t t' : TS} (h : PSs X s t) (hi : ∀ D σ H, t' D σ H → t D σ H) : PSs X s t' := ⟨fun pins s σ H D I q => h.run pins s σ H D I (hi _ _ _ q)⟩
section
variable {K : PySem.W.Frag} {mg : Str → Option Value} {W : WX} {F F' H H' : Hp} {T T' : Sto} {Dd : DEnds} {E : Ends} {σ : L2.St} {st : DSt}
theorem LEnds.step (L : LEnds K mg W F T H Dd E) (g : G F T H F' T' H') : LEnds K mg W F' T' H' Dd E :=
  ⟨fun F2 T2 H2 st2 σ2 g2 => L.nx F2 T2 H2 st2 σ2 (g.trans g2), fun F2 T2 H2 st2 σ2 g2 => L.ct F2 T2 H2 st2 σ2 (g.trans g2), fun F2 T2 H2 S2 d v g2 => L.rt F2 T2 H2 S2 d v (g.trans g2), fun x st2 σ2 F2 T2 H2 cls dd g2 => L.ex x st2 σ2 F2 T2 H2 cls dd (g.trans g2)⟩
theorem LEnds.kx (L : LEnds K mg W F T H Dd E) : KX K mg W F T H σ Dd.ex := fun x st' F' T' H' cls dd g R r q => L.ex x st' σ F' T' H' cls dd g R r q
/-- a slot is set -/
theorem Rep.store (R : Rep K mg F T H st σ) {d : D} {v : V} (r : RepR K mg F T st σ d v) (i : Nat) : Rep K mg F T H { st with env := st.env.set i (some d) } (σ.set i (some v)) := by
  have cases_ : ∀ (j : Nat) (e : D), (st.env.set i (some d))[j]? = some (some e) → (j = i ∧ i < st.env.length ∧ e = d) ∨ (i ≠ j ∧ st.env[j]? = some (some e)) := fun j e q => by
    by_cases hj : i = j
    · subst hj
      by_cases hl : i < st.env.length
      · rw [List.getElem?_set_self hl] at q; cases q; exact .inl ⟨rfl, hl, rfl⟩
      · rw [List.getElem?_eq_none (by simpa using hl)] at q; cases q
    · rw [List.getElem?_set_ne hj] at q; exact .inr ⟨hj, q⟩
  refine ⟨R.toRepSto, fun j e q => ?_, fun j k e f a q1 q2 q3 q4 q5 q6 => ?_, by simpa using R.len⟩
  · rcases cases_ j e q with ⟨rfl, hl, rfl⟩ | ⟨hj, q'⟩
    · exact ⟨v, List.getElem?_set_self (by rw [← R.len]; exact hl), r.1⟩
    · obtain ⟨w, h1, h2⟩ := R.env j e q'
      exact ⟨w, by rw [List.getElem?_set_ne hj]; exact h1, h2⟩
  · rcases cases_ j e q1 with ⟨rfl, hl, rfl⟩ | ⟨hj, q1'⟩ <;> rcases cases_ k f q3 with ⟨rfl, hl', rfl⟩ | ⟨hk, q3'⟩
    · rfl
    · rw [List.getElem?_set_self (by rw [← R.len]; exact hl)] at q5
      rw [List.getElem?_set_ne hk] at q6
      cases q5
      exact absurd q6 (r.2 q2 a rfl k f q3' q4)
    · rw [List.getElem?_set_self (by rw [← R.len]; exact hl')] at q6
      rw [List.getElem?_set_ne hj] at q5
      cases q6
      exact absurd q5 (r.2 q4 a rfl j e q1' q2)
    · rw [List.getElem?_set_ne hj] at q5
      rw [List.getElem?_set_ne hk] at q6
      exact R.inj j k e f a q1' q2 q3' q4 q5 q6
end

def sNil : DS := fun E st => E.nx st
def sSeq (t u : DS) : DS := fun E st => t { E with nx := u E } st
def sDrop (t : DE) : DS := fun E st => t st (fun _ st1 => E.nx st1) E.ex
def sRet (t : DE) : DS := fun E st => t st (fun d st1 => E.rt d st1.sto) E.ex
def sRetN : DS := fun E st => E.rt .non st.sto
def sCont : DS := fun E st => E.ct st
def sIf (c : DT) (t u : DS) : DS := fun E st => c st (fun b st1 => if b = true then t E st1 else u E st1) E.ex
/-- how a value that may be owned is stored: frozen (0), owned (1), shared (2) -/
def setSlot (m i : Nat) (d : D) (st : DSt) (k : DSt → Prop) : Prop := match m with
  | 0 => k { st with env := st.env.set i (some (fz d)) }
  | 1 => k { st with env := st.env.set i (some d) }
  | _ => match d with
    | .own ds => ∀ p, st.sto p = none → k ⟨st.env.set i (some (.ref p)), st.sto.put p (.lst ds)⟩
    | .owd es => ∀ p, st.sto p = none → k ⟨st.env.set i (some (.ref p)), st.sto.put p (.dic es)⟩
    | d => k { st with env := st.env.set i (some d) }
def sSet (m i : Nat) (t : DE) : DS := fun E st => t st (fun d st1 => setSlot m i d st1 E.nx) E.ex
def notComp : Expr → Bool
  | .ListComp .. => false
  | .SetComp .. => false
  | .DictComp .. => false
  | _ => true
theorem noswap {e : Expr} (h : notComp e = true) (t : Option Expr) (l : Nat) (env : Env) : swapsWith e t l env = pure false := by
  cases e <;> first | rfl | cases h
theorem noswap1 {e : Expr} (h : notComp e = true) (t : Expr) (l : Nat) (env : Env) : swapsWithSole [t] e l env = pure false := noswap h _ _ _
section
variable {K : PySem.W.Frag} {mg : Str → Option Value} {F H : Hp} {T : Sto} {σ : L2.St} {st : DSt}
/-- shared: from now on an object of the store -/
theorem Rep.share (R : Rep K mg F T H st σ) {a : Addr} {u : DO} (h1 : T a = some u) (h2 : st.sto a = none) (hn : NotAt st σ a) : Rep K mg F T H { st with sto := st.sto.put a u } σ := by
  have RS : RepSto K mg F T H (st.sto.put a u) := ⟨R.fr, R.ob, fun b o h => by
    by_cases e : b = a
    · subst e; rw [Sto.put_same] at h; cases h; exact h1
    · rw [Sto.put_ne e] at h; exact R.sub b o h⟩
  refine R.of RS .refl fun b w q1 q2 ⟨i, e, q3, q4, q5⟩ => ⟨q1, ?_⟩
  rw [Sto.put_ne (fun z => by subst z; exact hn i e q3 q4 q5)]
  exact q2
theorem set_keep {m i : Nat} {d : D} {v : V} {k : DSt → Prop} (R : Rep K mg F T H st σ) (r : RepR K mg F T st σ d v) (h : setSlot m i d st k) : ∃ F' T' st', G F T H F' T' H ∧ Rep K mg F' T' H st' (σ.set i (some v)) ∧ k st' := by
  match m with
  | 0 =>
    obtain ⟨F', T', g, R', r'⟩ := freezeR R r
    exact ⟨F', T', _, g, R'.store r'.toR i, h⟩
  | 1 => exact ⟨F, T, _, .refl, R.store r i, h⟩
  | n + 2 =>
    cases d with
    | own ds =>
      obtain ⟨⟨a, rfl, h1, h2⟩, hn⟩ := r
      have R1 := R.share h1 h2 (hn rfl a rfl)
      exact ⟨F, T, _, .refl, R1.store (RepV.ref a).toR i, h a h2⟩
    | owd es =>
      obtain ⟨⟨a, rfl, h1, h2⟩, hn⟩ := r
      have R1 := R.share h1 h2 (hn rfl a rfl)
      exact ⟨F, T, _, .refl, R1.store (RepV.ref a).toR i, h a h2⟩
    | _ => exact ⟨F, T, _, .refl, R.store r i, h⟩
end
section
variable {X : Cx} {W : WX} {s : Stmt} {ss : List Stmt} {t u : DS} {e : Expr} {te : DE} {pos : Pos}
theorem qs_nil : QSs X W [] sNil := PSs.imp pss_nil fun E σ H ⟨F, T, st, Dd, R, h, L⟩ => L.nx _ _ _ _ _ .refl R h
theorem qs_cons (h1 : QS X W s t) (h2 : QSs X W ss u) : QSs X W (s :: ss) (sSeq t u) := by
  refine PSs.imp (pss_cons h1 h2) ?_
  rintro E σ H ⟨F, T, st, Dd, R, h, L⟩
  exact ⟨F, T, st, _, R, h, ⟨fun F1 T1 H1 st1 σ1 g1 R1 q1 => ⟨F1, T1, st1, Dd, R1, q1, L.step g1⟩, L.ct, L.rt, L.ex⟩⟩
theorem qs_pass : QS X W (.Pass pos) sNil := PS.imp ps_pass fun E σ H ⟨F, T, st, Dd, R, h, L⟩ => L.nx _ _ _ _ _ .refl R h
theorem qs_cont : QS X W (.Continue pos) sCont := PS.imp ps_continue fun E σ H ⟨F, T, st, Dd, R, h, L⟩ => L.ct _ _ _ _ _ .refl R h
theorem qs_doc {x j p} : QS X W (.Expr (.Constant (.str x) j p) pos) sNil := PS.imp ps_doc fun E σ H ⟨F, T, st, Dd, R, h, L⟩ => L.nx _ _ _ _ _ .refl R h
theorem qs_expr (he : QE X W e te) (hn : notComp e = true) : QS X W (.Expr e pos) (sDrop te) := by
  refine PS.imp (ps_expr he (noswap hn _ _ _)) ?_
  rintro E σ H ⟨F, T, st, Dd, R, h, L⟩
  exact ⟨F, T, st, _, _, R, h, fun F' T' H' d st' v g R' _ q => L.nx _ _ _ _ _ g R' q, L.kx⟩
theorem qs_ret (he : QE X W e te) : QS X W (.Return (some e) pos) (sRet te) := by
  refine PS.imp (ps_ret he) ?_
  rintro E σ H ⟨F, T, st, Dd, R, h, L⟩
  exact ⟨F, T, st, _, _, R, h, fun F' T' H' d st' v g R' r q => L.rt _ _ _ _ _ _ g R'.toRepSto r.1 q, L.kx⟩
theorem qs_retN : QS X W (.Return none pos) sRetN := PS.imp ps_retN fun E σ H ⟨F, T, st, Dd, R, h, L⟩ => L.rt _ _ _ _ .non _ .refl R.toRepSto (show RepV _ _ _ _ _ from .non) h
theorem qs_if {c : Expr} {a b : List Stmt} {tc : DT} (hc : QT X W c tc) (ha : QSs X W a t) (hb : QSs X W b u) : QS X W (.If c a b pos) (sIf tc t u) := by
  refine PS.imp (ps_if hc ha hb) ?_
  rintro E σ H ⟨F, T, st, Dd, R, h, L⟩
  refine ⟨F, T, st, _, _, R, h, fun F' T' H' k st' g R' q => ?_, L.kx⟩
  cases k with
  | true => exact ⟨F', T', st', Dd, R', q, L.step g⟩
  | false => exact ⟨F', T', st', Dd, R', q, L.step g⟩
theorem setStep {E : Ends} {σ : L2.St} {H : Hp} {m i : Nat} (h : LS X.K X.mg W (sSet m i te) E σ H) : tAsg (LE X.K X.mg W te) (L2.gName i) E σ H := by
  obtain ⟨F, T, st, Dd, R, h, L⟩ := h
  refine ⟨F, T, st, _, _, R, h, fun F' T' H' d st' v g R' r q => ?_, L.kx⟩
  obtain ⟨F2, T2, st2, g2, R2, q2⟩ := set_keep R' r q
  exact L.nx _ _ _ _ _ (g.trans g2) R2 q2
theorem qs_set {m i : Nat} {x : Str} {pos' : Pos} (hN : X.N.Nodup) (hi : X.N[i]? = some x) (hx : Loc X.env.scope x) (he : QE X W e te) (hs : swapsWith e (some (.Name x pos')) pos.line X.env = pure false)
    (hf : X.fn x = true ∨ X.env.scope.names.lookup x = some .local) : QS X W (.Assign [.Name x pos'] e pos) (sSet m i te) :=
  PS.imp (ps_set hN hi hx he hs hf) fun E σ H h => setStep h
end

/-! ### targets -/
abbrev DG := D → DSt → (DSt → Prop) → Prop
abbrev DGs := List D → DSt → (DSt → Prop) → Prop
section
variable (K : PySem.W.Frag) (mg : Str → Option Value)
/-- ws: the slots that it may set -/
def LG (ws : List Nat) (t : DG) : TG := fun v σ H Q => ∃ F T st d Qd, Rep K mg F T H st σ ∧ RepV K mg F d v ∧ t d st Qd ∧
  ∀ F' T' H' st' σ', G F T H F' T' H' → Rep K mg F' T' H' st' σ' → (σ'.length = σ.length ∧ ∀ j, j ∉ ws → σ'[j]? = σ[j]?) → Qd st' → Q σ' H'
def LGs (ws : List Nat) (t : DGs) : TGs := fun vs σ H Q => ∃ F T st ds Qd, Rep K mg F T H st σ ∧ RepVs K mg F ds vs ∧ t ds st Qd ∧
  ∀ F' T' H' st' σ', G F T H F' T' H' → Rep K mg F' T' H' st' σ' → (σ'.length = σ.length ∧ ∀ j, j ∉ ws → σ'[j]? = σ[j]?) → Qd st' → Q σ' H'
end
def QG (X : Cx) (ws : List Nat) (e : Expr) (t : DG) : Prop := PG X e (LG X.K X.mg ws t)
def QGs (X : Cx) (ws : List Nat) (es : List Expr) (t : DGs) : Prop := PGs X es (LGs X.K X.mg ws t)
theorem PG.imp {X : Cx} {e : Expr} {t t' : TG} (h : PG X e t) (hi : ∀ v σ H Q, t' v σ H Q → t v σ H Q) : PG X e t' := ⟨fun pins s σ H v u Q I r q => h.run pins s σ H v u Q I r (hi _ _ _ _ q)⟩
theorem PGs.imp {X : Cx} {e : List Expr} {t t' : TGs} (h : PGs X e t) (hi : ∀ v σ H Q, t' v σ H Q → t v σ H Q) : PGs X e t' := ⟨fun pins s σ H v u Q I r q => h.run pins s σ H v u Q I r (hi _ _ _ _ q)⟩
theorem PG.or {X : Cx} {e : Expr} {t t' : TG} (h : PG X e t) (h' : PG X e t') : PG X e (fun v σ H Q => t v σ H Q ∨ t' v σ H Q) := ⟨fun pins s σ H v u Q I r q => by
  rcases q with q | q
  · exact h.run pins s σ H v u Q I r q
  · exact h'.run pins s σ H v u Q I r q⟩
def gName (i : Nat) : DG := fun d st Q => Q { st with env := st.env.set i (some d) }
def gNil : DGs := fun ds st Q => ds = [] ∧ Q st
def gCons (t : DG) (u : DGs) : DGs := fun ds st Q => match ds with
  | d :: ds => t d st (fun st1 => u ds st1 Q)
  | [] => False
def seqD : D → Option (List D)
  | .tup ds => some ds
  | .lst ds => some ds
  | _ => none
def gTup (n : Nat) (t : DGs) : DG := fun d st Q => opt (seqD d) fun ds => ds.length = n ∧ t ds st Q
theorem RepV.mono' {K : PySem.W.Frag} {mg : Str → Option Value} {F F' : Hp} {d : D} {v : V} (r : RepV K mg F d v) (e : Ext F F') : RepV K mg F' d v := RepV.mono e r
theorem each_of : ∀ {es : List Expr} {env : Env}, es.all notStar = true → (assignEach es env).map (·.2) = es.map (fun e => assign e env) ∧ (assignEach es env).findIdx? (·.1) = none ∧ (assignEach es env).length = es.length
  | [], _, _ => ⟨rfl, rfl, rfl⟩
  | e :: es, env, h => by
    simp only [List.all_cons, Bool.and_eq_true] at h
    obtain ⟨h1, h2, h3⟩ := each_of (env := env) h.2
    have q : assignEach (e :: es) env = (false, assign e env) :: assignEach es env := by cases e <;> first | rfl | cases h.1
    rw [q]
    refine ⟨by rw [List.map_cons, List.map_cons, h1], ?_, by rw [List.length_cons, List.length_cons, h3]⟩
    rw [List.findIdx?_cons, h2]
    rfl
section
variable {X : Cx} {pos : Pos} {ws ws' : List Nat}
theorem qg_name {i : Nat} {x : Str} (hN : X.N.Nodup) (hi : X.N[i]? = some x) (hx : Loc X.env.scope x) (hf : X.fn x = true ∨ X.env.scope.names.lookup x = some .local) (hw : i ∈ ws) : QG X ws (.Name x pos) (gName i) := by
  refine PG.imp (pg_name hN hi hx hf) ?_
  rintro v σ H Q ⟨F, T, st, d, Qd, R, r, h, c⟩
  exact c _ _ _ _ _ .refl (R.store r.toR i) ⟨List.length_set, fun j hj => List.getElem?_set_ne (fun z => by subst z; exact hj hw)⟩ h
theorem qgs_nil : QGs X ws [] gNil := by
  refine PGs.imp pgs_nil ?_
  rintro v σ H Q ⟨F, T, st, d, Qd, R, r, ⟨h1, h⟩, c⟩
  subst h1
  cases r
  exact ⟨rfl, c _ _ _ _ _ .refl R ⟨rfl, fun _ _ => rfl⟩ h⟩
theorem qgs_cons {e : Expr} {es : List Expr} {t : DG} {u : DGs} (h1 : QG X ws e t) (h2 : QGs X ws es u) (hn : notStar e = true) : QGs X ws (e :: es) (gCons t u) := by
  have q : (assignEach (e :: es) X.env).map (·.2) = assign e X.env :: (assignEach es X.env).map (·.2) := by cases e <;> first | rfl | cases hn
  refine PGs.imp (pgs_cons h1 h2 q) ?_
  rintro v σ H Q ⟨F, T, st, ds, Qd, R, r, h, c⟩
  cases r with
  | nil => exact h.elim
  | cons r rs =>
    refine ⟨_, _, rfl, F, T, st, _, _, R, r, h, fun F' T' H' st' σ' g R' hj q => ?_⟩
    exact ⟨F', T', st', _, Qd, R', rs.mono g.g1, q, fun F2 T2 H2 st2 σ2 g2 R2 hj2 q2 => c _ _ _ _ _ (g.trans g2) R2 ⟨hj2.1.trans hj.1, fun j h => (hj2.2 j h).trans (hj.2 j h)⟩ q2⟩
theorem qg_tup {es : List Expr} {k n : Nat} {t : DGs} (hc : X.calm = true) (h : QGs X ws es t) (hs : es.all notStar = true) (hn : es.length = n) : QG X ws (.Tuple es k pos) (gTup n t) := by
  obtain ⟨_, h2, h3⟩ := each_of (env := X.env) hs
  refine PG.imp (PG.or (pg_tup hc h (h3.trans hn) h2) (pg_lst hc h (h3.trans hn) h2)) ?_
  rintro v σ H Q ⟨F, T, st, d, Qd, R, r, h0, c⟩
  obtain ⟨ds, e1, hl, h⟩ := opt_elim h0
  cases r with
  | tup l hq rs =>
    simp only [seqD] at e1
    cases e1
    refine .inl ⟨_, _, rfl, ?_, by rw [← rs.length]; exact hl, F, T, st, _, Qd, R, rs, h, c⟩
    rcases hq with z | z
    · exact .inl (R.rd z)
    · exact .inr z
  | lst l hq rs =>
    simp only [seqD] at e1
    cases e1
    refine .inr ⟨_, _, rfl, ?_, by rw [← rs.length]; exact hl, F, T, st, _, Qd, R, rs, h, c⟩
    rcases hq with z | z
    · exact .inl (R.rd z)
    · exact .inr z
  | _ => simp only [seqD] at e1; cases e1
/-- target = e -/
def sAsg (t : DE) (g : DG) : DS := fun E st => t st (fun d st1 => g (fz d) st1 E.nx) E.ex
theorem qs_asg {W : WX} {tg e : Expr} {te : DE} {g : DG} (he : QE X W e te) (hg : QG X ws tg g) (hn : notComp e = true) (hw : swappedStores [tg] e X.env = pure none) (hs : notStar tg = true) : QS X W (.Assign [tg] e pos) (sAsg te g) := by
  refine PS.imp (ps_asg (qv_fz he) hg (noswap1 hn _ _ _) hw (by cases tg <;> first | rfl | cases hs)) ?_
  rintro E σ H ⟨F, T, st, Dd, R, h, L⟩
  refine ⟨F, T, st, _, _, R, (show dFz te st (fun d st1 => g d st1 Dd.nx) Dd.ex from h), fun F' T' H' d st' v g R' r q => ?_, L.kx⟩
  exact ⟨F', T', st', d, _, R', r, q, fun F2 T2 H2 st2 σ2 g2 R2 hj q2 => L.nx _ _ _ _ _ (g.trans g2) R2 q2⟩
end
end DL
/-! the D layer, 7: loops, what they walk, comprehensions -/
namespace DL
open PySem PySem.Spec L2

/-! ### while -/
/-- I: what holds ahead of each turn, by a number that falls -/
def sWhile (c : DT) (b : DS) : DS := fun E st => ∃ I : Nat → DSt → Prop, (∃ n, I n st) ∧ ∀ n st, I n st →
  c st (fun k st1 => if k = true then b { E with nx := fun st' => ∃ m, m < n ∧ I m st', ct := fun st' => ∃ m, m < n ∧ I m st' } st1 else E.nx st1) E.ex
section
variable {X : Cx} {W : WX} {pos : Pos}
theorem qs_while {c : Expr} {body : List Stmt} {tc : DT} {tb : DS} (hp : PassesOwn (model X.prog X.w) X.A X.env X.xe) (hc : QT X W c tc) (hb : QSs X W body tb) : QS X W (.While c body [] pos) (sWhile tc tb) := by
  refine PS.imp (ps_while hp hc hb) ?_
  rintro E σ H ⟨F, T, st, Dd, R, ⟨I, ⟨n, h⟩, turn⟩, L⟩
  refine ⟨fun m σ' H' => ∃ F' T' st', G F T H F' T' H' ∧ Rep X.K X.mg F' T' H' st' σ' ∧ I m st', ⟨n, F, T, st, .refl, R, h⟩, ?_⟩
  rintro m σ1 H1 ⟨F1, T1, st1, g1, R1, h1⟩
  refine ⟨F1, T1, st1, _, _, R1, turn m st1 h1, fun F2 T2 H2 k st2 g2 R2 q2 => ?_, (L.step g1).kx⟩
  cases k with
  | false => exact L.nx _ _ _ _ _ (g1.trans g2) R2 q2
  | true =>
    rw [if_pos rfl] at q2 ⊢
    have L2 := L.step (g1.trans g2)
    refine ⟨fun σ' H' => ∃ F' T' st', G F T H F' T' H' ∧ Rep X.K X.mg F' T' H' st' σ' ∧ ∃ m', m' < m ∧ I m' st', fun σ' H' ⟨F', T', st', g', R', m', hm, q⟩ => ⟨m', hm, F', T', st', g', R', q⟩, F2, T2, st2, _, R2, q2, ?_⟩
    exact ⟨fun F3 T3 H3 st3 σ3 g3 R3 q3 => ⟨F3, T3, st3, (g1.trans g2).trans g3, R3, q3⟩, fun F3 T3 H3 st3 σ3 g3 R3 q3 => ⟨F3, T3, st3, (g1.trans g2).trans g3, R3, q3⟩, L2.rt, L2.ex⟩
end

/-! ### what is walked -/
/-- chk: what must hold of the store at each turn -/
abbrev DI := DSt → (List D → (Sto → Prop) → DSt → Prop) → PX → Prop
section
variable (K : PySem.W.Frag) (mg : Str → Option Value)
/-- the iterator's turns are the items -/
structure ItOk (J : It) (ds : List D) (chk : Sto → Prop) (F0 : Hp) : Prop where
  len : ds.length ≤ sizeLine
  go : ∀ i F T H S, RepSto K mg F T H S → Ext F0 F → chk S → i < ds.length → J.go i H
  stop : ∀ i F T H S, RepSto K mg F T H S → Ext F0 F → chk S → ds.length ≤ i → J.stop i H
  yld : ∀ i F T H S x H', RepSto K mg F T H S → Ext F0 F → chk S → i < ds.length → J.yld i H x H' → ∃ F' d, G F T H F' T H' ∧ RepSto K mg F' T H' S ∧ ds[i]? = some d ∧ RepV K mg F' d x
def LI (W : WX) (t : DI) : TI := fun σ H R => ∃ F T st Qd Ed, Rep K mg F T H st σ ∧ t st Qd Ed ∧
  (∀ F' T' H' ds chk st' J, G F T H F' T' H' → Rep K mg F' T' H' st' σ → ItOk K mg J ds chk F' → Qd ds chk st' → R J H') ∧ KX K mg W F T H σ Ed
end
def QI (X : Cx) (W : WX) (tg e : Expr) (t : DI) : Prop := PI X tg e (LI X.K X.mg W t)
theorem PI.imp {X : Cx} {tg e : Expr} {t t' : TI} (h : PI X tg e t) (hi : ∀ σ H R, t' σ H R → t σ H R) : PI X tg e t' := ⟨fun pins s σ H R I q => h.run pins s σ H R I (hi _ _ _ q)⟩
theorem PI.or {X : Cx} {tg e : Expr} {t t' : TI} (h : PI X tg e t) (h' : PI X tg e t') : PI X tg e (fun σ H R => t σ H R ∨ t' σ H R) := ⟨fun pins s σ H R I q => by
  rcases q with q | q
  · exact h.run pins s σ H R I q
  · exact h'.run pins s σ H R I q⟩

/-! ### for -/
def forD (g : DG) (b : DS) (chk : Sto → Prop) : List D → DS
  | [], E, st => chk st.sto ∧ E.nx st
  | d :: ds, E, st => chk st.sto ∧ g d st fun st1 => b { E with nx := forD g b chk ds E, ct := forD g b chk ds E } st1
def sFor (it : DI) (g : DG) (b : DS) : DS := fun E st => it st (fun ds chk st1 => ds.length ≤ sizeLine → forD g b chk ds E st1) E.ex
section
variable {X : Cx} {W : WX} {pos : Pos} {ws : List Nat}
theorem forD_chk {g : DG} {b : DS} {chk : Sto → Prop} {ds : List D} {E : DEnds} {st : DSt} (h : forD g b chk ds E st) : chk st.sto := by
  cases ds with
  | nil => exact h.1
  | cons d ds => exact h.1
theorem qs_for {tg iter : Expr} {body : List Stmt} {it : DI} {g : DG} {b : DS} (hp : PassesOwn (model X.prog X.w) X.A X.env X.xe) (hc : X.calm = true) (hi : QI X W tg iter it) (hg : QG X ws tg g) (hb : QSs X W body b) (hs : ∀ x, foldedSetIterable iter X.env x = pure x) :
    QS X W (.For tg iter body [] pos) (sFor it g b) := by
  refine PS.imp (ps_for hp hc hi hg hb hs) ?_
  rintro E σ H ⟨F, T, st, Dd, R, h, L⟩
  refine ⟨F, T, st, _, _, R, h, fun F1 T1 H1 ds chk st1 J g1 R1 ok q1 => ?_, L.kx⟩
  have q1' := q1 ok.len
  refine ⟨fun i m σ' H' => m = ds.length - i ∧ i ≤ ds.length ∧ ∃ F' T' st', G F1 T1 H1 F' T' H' ∧ Rep X.K X.mg F' T' H' st' σ' ∧ forD g b chk (ds.drop i) Dd st', ⟨ds.length, by simp, Nat.zero_le _, F1, T1, st1, .refl, R1, by rw [List.drop_zero]; exact q1'⟩, ?_⟩
  rintro i m σ2 H2 ⟨rfl, hi, F2, T2, st2, g2, R2, q2⟩
  have hk := forD_chk q2
  by_cases hl : i < ds.length
  · refine .inr ⟨ok.go i F2 T2 H2 _ R2.toRepSto g2.g1 hk hl, fun σ' H' => i + 1 ≤ ds.length ∧ ∃ F' T' st', G F1 T1 H1 F' T' H' ∧ Rep X.K X.mg F' T' H' st' σ' ∧ forD g b chk (ds.drop (i + 1)) Dd st', fun σ' H' q => ⟨ds.length - (i + 1), by omega, rfl, q.1, q.2⟩, fun x H3 y => ?_⟩
    obtain ⟨F3, d, g3, RS3, e3, r3⟩ := ok.yld i F2 T2 H2 _ x H3 R2.toRepSto g2.g1 hk hl y
    have R3 := R2.of RS3 g3.g1 fun a u h1 h2 _ => ⟨h1, h2⟩
    rw [List.drop_eq_getElem_cons hl] at q2
    have ed : ds[i] = d := by
      rw [List.getElem?_eq_getElem hl] at e3; exact Option.some.inj e3
    rw [ed] at q2
    refine ⟨F3, T2, st2, d, _, R3, r3, q2.2, fun F4 T4 H4 st4 σ4 g4 R4 _ q4 => ?_⟩
    have gg := (g2.trans g3).trans g4
    refine ⟨F4, T4, st4, _, R4, q4, ?_⟩
    have L4 := L.step (g1.trans gg)
    exact ⟨fun F5 T5 H5 st5 σ5 g5 R5 q5 => ⟨hl, F5, T5, st5, gg.trans g5, R5, q5⟩, fun F5 T5 H5 st5 σ5 g5 R5 q5 => ⟨hl, F5, T5, st5, gg.trans g5, R5, q5⟩, L4.rt, L4.ex⟩
  · have e : ds.drop i = [] := List.drop_eq_nil_of_le (by omega)
    rw [e] at q2
    exact .inl ⟨ok.stop i F2 T2 H2 _ R2.toRepSto g2.g1 hk (by omega), L.nx _ _ _ _ _ (g1.trans g2) R2 q2.2⟩
end

/-! ### iterables -/
def rngD (lo : Int) (n : Nat) : List D := (List.range n).map fun (k : Nat) => .int (lo + k)
def rngOf1 : List D → Option (Int × Nat)
  | [.int j] => if j ≤ 16777216 ∧ -(2 ^ 62) ≤ j then some (0, j.toNat) else none
  | _ => none
def rngOf2 : List D → Option (Int × Nat)
  | [.int i, .int j] => if -(2 ^ 62) ≤ i ∧ i < 2 ^ 62 ∧ -(2 ^ 62) ≤ j ∧ j < 2 ^ 62 ∧ (j - i).toNat ≤ sizeLine then some (i, (j - i).toNat) else none
  | _ => none
def iRng (f : List D → Option (Int × Nat)) (t : DA) : DI := fun st Q E => t st (fun ds st1 => opt (f ds) fun r => Q (rngD r.1 r.2) (fun _ => True) st1) E
section
variable {K : PySem.W.Frag} {mg : Str → Option Value} {F : Hp}
theorem sqT_inj {H : Hp} {a : Addr} {xs ys : List V} (h : H a = some (.tup xs) ∨ ∃ o, H a = some (.frz o (.tup xs))) (h' : H a = some (.tup ys) ∨ ∃ o, H a = some (.frz o (.tup ys))) : xs = ys := by
  rcases h with h | ⟨o, h⟩ <;> rcases h' with h' | ⟨o', h'⟩ <;> rw [h] at h' <;> cases h' <;> rfl
theorem itok_list {a : Addr} {xs : List V} {ds : List D} (h : SqL K F a xs) (r : RepVs K mg F ds xs) (hl : ds.length ≤ sizeLine) : ItOk K mg (Itl K a) ds (fun _ => True) F := by
  have at_ : ∀ F' T H S, RepSto K mg F' T H S → Ext F F' → SqL K H a xs := fun F' T H S R e => by
    rcases e.sqL h with z | z
    · exact .inl (R.rd z)
    · exact .inr z
  refine ⟨hl, fun i F' T H S R e _ hi => ?_, fun i F' T H S R e _ hi => ?_, fun i F' T H S x H' R e _ hi y => ?_⟩
  · have hx : i < xs.length := by rw [← r.length]; exact hi
    exact ⟨xs, xs[i], at_ F' T H S R e, List.getElem?_eq_getElem hx⟩
  · exact ⟨xs, at_ F' T H S R e, by rw [← r.length]; exact hi⟩
  · obtain ⟨e1, y⟩ := y
    subst e1
    obtain ⟨d, h1, h2⟩ := r.get' (y xs (at_ F' T H' S R e))
    exact ⟨F', d, .refl, R, h1, h2.mono e⟩
theorem itok_tup {a : Addr} {xs : List V} {ds : List D} (h : SqT K F a xs) (r : RepVs K mg F ds xs) (hl : ds.length ≤ sizeLine) : ItOk K mg (Itt K a) ds (fun _ => True) F := by
  have at_ : ∀ F' T H S, RepSto K mg F' T H S → Ext F F' → SqT K H a xs := fun F' T H S R e => by
    rcases e.sqT h with z | z
    · exact .inl (R.rd z)
    · exact .inr z
  refine ⟨hl, fun i F' T H S R e _ hi => ?_, fun i F' T H S R e _ hi => ?_, fun i F' T H S x H' R e _ hi y => ?_⟩
  · have hx : i < xs.length := by rw [← r.length]; exact hi
    exact ⟨xs, xs[i], at_ F' T H S R e, List.getElem?_eq_getElem hx⟩
  · exact ⟨xs, at_ F' T H S R e, by rw [← r.length]; exact hi⟩
  · obtain ⟨e1, y⟩ := y
    subst e1
    obtain ⟨d, h1, h2⟩ := r.get' (y xs (at_ F' T H' S R e))
    exact ⟨F', d, .refl, R, h1, h2.mono e⟩
theorem itok_shared {a : Addr} {ds : List D} (hl : ds.length ≤ sizeLine) : ItOk K mg (Itl K a) ds (fun S => S a = some (.lst ds)) F := by
  have at_ : ∀ F' T H S, RepSto K mg F' T H S → S a = some (.lst ds) → ∃ xs, SqL K H a xs ∧ RepVs K mg F' ds xs := fun F' T H S R e => by
    obtain ⟨_, xs, h1, h2, _⟩ := R.ob a _ (R.sub a _ e)
    exact ⟨xs, SqL.of h1, h2⟩
  refine ⟨hl, fun i F' T H S R e c hi => ?_, fun i F' T H S R e c hi => ?_, fun i F' T H S x H' R e c hi y => ?_⟩
  · obtain ⟨xs, h1, h2⟩ := at_ F' T H S R c
    have hx : i < xs.length := by rw [← h2.length]; exact hi
    exact ⟨xs, xs[i], h1, List.getElem?_eq_getElem hx⟩
  · obtain ⟨xs, h1, h2⟩ := at_ F' T H S R c
    exact ⟨xs, h1, by rw [← h2.length]; exact hi⟩
  · obtain ⟨e1, y⟩ := y
    subst e1
    obtain ⟨xs, h1, h2⟩ := at_ F' T H' S R c
    obtain ⟨d, h3, h4⟩ := h2.get' (y xs h1)
    exact ⟨F', d, .refl, R, h3, h4⟩
theorem itok_rng {lo : Int} {n : Nat} (hl : n ≤ sizeLine) : ItOk K mg (Itr lo n) (rngD lo n) (fun _ => True) F := by
  have e : (rngD lo n).length = n := by simp [rngD]
  refine ⟨by rw [e]; exact hl, fun i F' T H S R _ _ hi => ?_, fun i F' T H S R _ _ hi => ?_, fun i F' T H S x H' R _ _ hi y => ?_⟩
  · rw [e] at hi; exact hi
  · rw [e] at hi; exact hi
  · rw [e] at hi
    obtain ⟨e1, y⟩ := y
    subst e1 y
    refine ⟨F', .int (lo + i), .refl, R, ?_, .int _⟩
    simp [rngD, hi]
end
theorem pi_seq {X : Cx} {tg l : Expr} {tl : TE} (hl : PE X l tl) : PI X tg l (fun σ H R => tl σ H fun x H1 => (∃ a, x = .ref a ∧ ((∃ xs, SqL X.K H1 a xs) ∧ R (Itl X.K a) H1 ∨ (∃ xs, SqT X.K H1 a xs) ∧ R (Itt X.K a) H1)) ∨ ∃ z, x = .str z ∧ R (Its z) H1) := by
  refine ⟨fun pins s σ H R I h => ?_⟩
  refine thn (hl.run pins s σ H _ I h) fun v s1 ⟨x, H1, I1, r1, q1⟩ => ?_
  rcases q1 with ⟨a, e, ⟨⟨xs, hq⟩, q⟩ | ⟨⟨xs, hq⟩, q⟩⟩ | ⟨z, e, q⟩
  · subst e
    cases r1
    obtain ⟨its, rv, p, hz⟩ := I1.list hq
    refine wpAny_pyIter_list p.isList ?_
    refine ⟨s1.heap.objs.size, [s1.heap.objs.size], _, _, H1, rfl, I1.kept (t' := s1.toks) fun b o e => Heap.get?_push_of_some _ e, turn_list a _, ⟨_, Heap.get?_push_size _ rfl, rfl, rfl⟩, fun b hb => ?_, q⟩
    have e : b = s1.heap.objs.size := by simpa using hb
    subst e
    exact I1.fpOk (Nat.le_refl _) (I1.hok.fresh (Nat.le_refl _))
  · subst e
    cases r1
    obtain ⟨its, rv, p, hz⟩ := I1.tuple hq
    refine wpAny_pyIter_tuple (show s1.heap.IsTuple a its.toArray from p) ?_
    refine ⟨s1.heap.objs.size, [s1.heap.objs.size], _, _, H1, rfl, I1.kept (t' := s1.toks) fun b o e => Heap.get?_push_of_some _ e, turn_tuple a _, ⟨_, Heap.get?_push_size _ rfl, rfl, rfl⟩, fun b hb => ?_, q⟩
    have e : b = s1.heap.objs.size := by simpa using hb
    subst e
    exact I1.fpOk (Nat.le_refl _) (I1.hok.fresh (Nat.le_refl _))
  · subst e
    obtain ⟨t, rfl⟩ := r1
    cases ha : z.cps.all (· < 128)
    · exact wpAny_pyIter_wide ha (pi_one (tk := s1.toks) I1 _ (turn_str _ z t "str_iterator" (.inr rfl)) ⟨_, Heap.get?_push_size _ rfl, rfl, rfl⟩ q)
    · exact wpAny_pyIter_ascii ha (pi_one (tk := s1.toks) I1 _ (turn_str _ z t "str_ascii_iterator" (.inl rfl)) ⟨_, Heap.get?_push_size _ rfl, rfl, rfl⟩ q)
def sgnD (s : Str) : List D := s.cps.toList.map fun c => .str ⟨#[c]⟩
/-- a list, a tuple, a text (kept); a shared list -/
def iSeq (t : DE) : DI := fun st Q E => t st (fun d st1 => match fz d with
  | .tup ds => Q ds (fun _ => True) st1
  | .lst ds => Q ds (fun _ => True) st1
  | .str s => s.length ≤ sizeLine ∧ Q (sgnD s) (fun _ => True) st1
  | .ref a => match st1.sto a with
    | some (.lst ds) => Q ds (fun S => S a = some (.lst ds)) st1
    | _ => False
  | _ => False) E
section
variable {K : PySem.W.Frag} {mg : Str → Option Value} {F : Hp}
theorem itok_str {z : Str} (h : PyData.strOk z = true) (hl : z.length ≤ sizeLine) : ItOk K mg (Its z) (sgnD z) (fun _ => True) F := by
  have e : (sgnD z).length = z.cps.size := by simp [sgnD]
  refine ⟨by rw [e]; exact hl, fun i F' T H S R _ _ hi => ?_, fun i F' T H S R _ _ hi => ?_, fun i F' T H S x H' R _ _ hi y => ?_⟩
  · rw [e] at hi; exact hi
  · rw [e] at hi; exact hi
  · obtain ⟨e1, c, hc, y⟩ := y
    subst e1 y
    have hc' : z.cps.toList[i]? = some c := by rw [Array.getElem?_toList]; exact hc
    refine ⟨F', .str ⟨#[c]⟩, .refl, R, ?_, .str ?_⟩
    · simp only [sgnD, List.getElem?_map, hc', Option.map_some]
    · simp only [PyData.strOk] at h ⊢
      rw [Array.all_eq_true_iff_forall_mem] at h ⊢
      intro x hx
      have hx' : x = c := by simpa using hx
      subst hx'
      exact h x (Array.mem_of_getElem? hc)
end
section
variable {X : Cx} {W : WX} {pos p : Pos} {tg e : Expr} {t ta tb : DE} {a b : Expr}
theorem qi_seq (h : QE X W e t) : QI X W tg e (iSeq t) := by
  refine PI.imp (pi_seq (qv_fz h)) ?_
  rintro σ H Q ⟨F, T, st, Qd, Ed, R, h, c, cx⟩
  refine ⟨F, T, st, fun d st1 => (match d with
    | .tup ds => Qd ds (fun _ => True) st1
    | .lst ds => Qd ds (fun _ => True) st1
    | .str s => s.length ≤ sizeLine ∧ Qd (sgnD s) (fun _ => True) st1
    | .ref a => match st1.sto a with
      | some (.lst ds) => Qd ds (fun S => S a = some (.lst ds)) st1
      | _ => False
    | _ => False), Ed, R, h, fun F1 T1 H1 d st1 v g1 R1 r1 q1 => ?_, cx⟩
  cases r1 with
  | @tup ds a xs l h1 r =>
    have h1' : SqT X.K H1 a xs := by
      rcases h1 with z | z
      · exact .inl (R1.rd z)
      · exact .inr z
    exact .inl ⟨_, rfl, .inr ⟨⟨_, h1'⟩, c _ _ _ _ _ _ _ g1 R1 (itok_tup h1 r l) q1⟩⟩
  | @lst ds a xs l h1 r =>
    have h1' : SqL X.K H1 a xs := by
      rcases h1 with z | z
      · exact .inl (R1.rd z)
      · exact .inr z
    exact .inl ⟨_, rfl, .inl ⟨⟨_, h1'⟩, c _ _ _ _ _ _ _ g1 R1 (itok_list h1 r l) q1⟩⟩
  | str hs => exact .inr ⟨_, rfl, c _ _ _ _ _ _ _ g1 R1 (itok_str hs q1.1) q1.2⟩
  | ref a =>
    simp only at q1
    cases hS : st1.sto a with
    | none => rw [hS] at q1; exact q1.elim
    | some o =>
      rw [hS] at q1
      cases o with
      | lst ds =>
        obtain ⟨_, xs, h2, h3, h4⟩ := R1.ob a _ (R1.sub a _ hS)
        exact .inl ⟨_, rfl, .inl ⟨⟨_, SqL.of h2⟩, c _ _ _ _ _ _ _ g1 R1 (itok_shared h4) q1⟩⟩
      | dic es => exact q1.elim
      | ins cc fs => exact q1.elim
  | _ => exact q1.elim
theorem qi_rng1 (hg : Gl X "range") (hm : X.mg "range" = none) {ts : DA} (ha : QK X W [a] ts) (hn : notStar a = true) : QI X W tg (.Call (.Name "range" p) [a] [] pos) (iRng rngOf1 ts) := by
  refine PI.imp (pi_range1 hg hm ha (star_of hn)) ?_
  rintro σ H Q ⟨F, T, st, Qd, Ed, R, h, c, cx⟩
  refine ⟨F, T, st, _, Ed, R, h, fun F1 T1 H1 ds st1 vs g1 R1 r1 q1 => ?_, cx⟩
  obtain ⟨⟨lo, n⟩, e1, q1⟩ := opt_elim q1
  unfold rngOf1 at e1
  split at e1
  · rename_i j
    split at e1 <;> cases e1
    rename_i hj
    cases r1 with
    | cons r rs =>
      cases rs; cases r
      have hs := sizeLine_eq
      refine ⟨j, rfl, hj.2, by omega, c _ _ _ _ _ _ _ g1 R1 (itok_rng (by omega)) q1⟩
  · cases e1
theorem qi_rng2 (hg : Gl X "range") (hm : X.mg "range" = none) {ts : DA} (ha : QK X W [a, b] ts) (hn : notStar a = true) (hn2 : notStar b = true) : QI X W tg (.Call (.Name "range" p) [a, b] [] pos) (iRng rngOf2 ts) := by
  refine PI.imp (pi_range2 hg hm ha (by rw [star_of hn, star_of hn2]; rfl) (star_of hn2)) ?_
  rintro σ H Q ⟨F, T, st, Qd, Ed, R, h, c, cx⟩
  refine ⟨F, T, st, _, Ed, R, h, fun F1 T1 H1 ds st1 vs g1 R1 r1 q1 => ?_, cx⟩
  obtain ⟨⟨lo, n⟩, e1, q1⟩ := opt_elim q1
  unfold rngOf2 at e1
  split at e1
  · rename_i i j
    split at e1 <;> cases e1
    rename_i hj
    cases r1 with
    | cons r rs =>
      cases rs with
      | cons r' rs =>
        cases rs; cases r; cases r'
        exact ⟨_, j, rfl, ⟨hj.1, hj.2.1, hj.2.2.1, hj.2.2.2.1⟩, c _ _ _ _ _ _ _ g1 R1 (itok_rng hj.2.2.2.2) q1⟩
  · cases e1
end

/-! ### comprehensions -/
def wipeE (env : List (Option D)) : List Nat → List (Option D)
  | [] => env
  | i :: is => (wipeE env is).set i none
/-- the own names as they were (an owned thing there is forgotten) -/
def backE (e0 e1 : List (Option D)) : List Nat → List (Option D)
  | [] => e1
  | i :: is => (backE e0 e1 is).set i (match e0[i]? with
    | some (some d) => if isOwn d = true then none else some d
    | _ => none)
def compD (g : DG) (tt : DT) (te : DE) (own : List Nat) (chk : Sto → Prop) : List D → List D → DSt → (List D → DSt → Prop) → Prop
  | [], acc, st, Q => chk st.sto ∧ Q acc st
  | d :: ds, acc, st, Q => chk st.sto ∧ g d st fun st1 => tt st1 (fun b st2 => if b = true then te st2 (fun y st3 => compD g tt te own chk ds (acc ++ [fz y]) { st3 with env := wipeE st3.env own } Q) (fun _ _ => False)
      else compD g tt te own chk ds acc { st2 with env := wipeE st2.env own } Q) (fun _ _ => False)
def dComp (it : DI) (g : DG) (tt : DT) (te : DE) (own : List Nat) : DE := fun st Q E => it st (fun ds chk st1 => compD g tt te own chk ds [] { st1 with env := wipeE st1.env own } fun acc st2 => Q (.own acc) { st2 with env := backE st1.env st2.env own }) E
def tYesD : DT := fun st Q _ => Q true st
section
variable {K : PySem.W.Frag} {mg : Str → Option Value} {F H : Hp} {T S : Sto} {σ σ' : L2.St} {st : DSt}
theorem wipeE_length (env : List (Option D)) : ∀ is : List Nat, (wipeE env is).length = env.length
  | [] => rfl
  | i :: is => by unfold wipeE; rw [List.length_set, wipeE_length env is]
theorem wipeE_some {env : List (Option D)} {j : Nat} {d : D} : ∀ {is : List Nat}, (wipeE env is)[j]? = some (some d) → env[j]? = some (some d) ∧ j ∉ is
  | [], h => ⟨h, by simp⟩
  | i :: is, h => by
    unfold wipeE at h
    by_cases hj : i = j
    · subst hj
      by_cases hl : i < (wipeE env is).length
      · rw [List.getElem?_set_self hl] at h; cases h
      · rw [List.getElem?_eq_none (by simpa using hl)] at h; cases h
    · rw [List.getElem?_set_ne hj] at h
      obtain ⟨h1, h2⟩ := wipeE_some h
      exact ⟨h1, by simp only [List.mem_cons, not_or]; exact ⟨fun e => hj e.symm, h2⟩⟩
/-- fewer slots, at other places for the rest of the slots -/
theorem Rep.fewer (R : Rep K mg F T H st σ) {env' : List (Option D)} (hl : env'.length = st.env.length) (hs : σ'.length = σ.length) (h : ∀ (i : Nat) (d : D), env'[i]? = some (some d) → st.env[i]? = some (some d) ∧ σ'[i]? = σ[i]?) : Rep K mg F T H { st with env := env' } σ' := by
  refine ⟨R.toRepSto, fun i d q => ?_, fun i j d e a q1 q2 q3 q4 q5 q6 => ?_, ?_⟩
  · obtain ⟨h1, h2⟩ := h i d q
    obtain ⟨v, h3, h4⟩ := R.env i d h1
    exact ⟨v, h2.trans h3, h4⟩
  · obtain ⟨h1, h2⟩ := h i d q1
    obtain ⟨h3, h4⟩ := h j e q3
    exact R.inj i j d e a h1 q2 h3 q4 (h2 ▸ q5) (h4 ▸ q6)
  · show env'.length = σ'.length
    rw [hl, hs]; exact R.len
/-- an object beside all that is described -/
theorem RepSto.beside (R : RepSto K mg F T H S) {a : Addr} {o : HO} (h1 : F a = none) (h2 : T a = none) : RepSto K mg F T (upd H a o) S := by
  refine ⟨fun b w h => ?_, fun b w h => ?_, R.sub⟩
  · have e : b ≠ a := fun z => by subst z; rw [h1] at h; cases h
    rcases R.fr b w h with z | ⟨w', z, m⟩
    · exact .inl (by rw [upd_ne e]; exact z)
    · exact .inr ⟨w', by rw [upd_ne e]; exact z, m⟩
  · have e : b ≠ a := fun z => by subst z; rw [h2] at h; cases h
    obtain ⟨q1, q2⟩ := R.ob b w h
    exact ⟨q1, q2.mono .refl (upd_ne e)⟩
/-- .. is described from now on -/
theorem RepSto.adopt (R : RepSto K mg F T H S) {a : Addr} {u : DO} (h1 : F a = none) (h2 : T a = none) (r : RepO K mg F H a u) : RepSto K mg F (T.put a u) H S := by
  refine ⟨R.fr, fun b w h => ?_, fun b w h => ?_⟩
  · by_cases e : b = a
    · subst e; rw [Sto.put_same] at h; cases h; exact ⟨h1, r⟩
    · rw [Sto.put_ne e] at h; exact R.ob b w h
  · have e : b ≠ a := fun z => by subst z; rw [R.noS h2] at h; cases h
    rw [Sto.put_ne e]; exact R.sub b w h
theorem wipe_get {σ : L2.St} {i : Nat} : ∀ {vs : List Nat}, i ∉ vs → (L2.wipe σ vs)[i]? = σ[i]?
  | [], _ => rfl
  | v :: vs, h => by
    simp only [List.mem_cons, not_or] at h
    unfold L2.wipe
    rw [List.getElem?_set_ne (fun z => h.1 z.symm)]
    exact wipe_get h.2
theorem wipe_in {σ : L2.St} {i : Nat} : ∀ {vs : List Nat}, i ∈ vs → i < σ.length → (L2.wipe σ vs)[i]? = some none
  | v :: vs, h, hl => by
    unfold L2.wipe
    by_cases e : v = i
    · subst e
      rw [List.getElem?_set_self (by rw [L2.wipe_length]; exact hl)]
    · rw [List.getElem?_set_ne e]
      have h' : i ∈ vs := by
        rcases List.mem_cons.mp h with z | z
        · exact absurd z.symm e
        · exact z
      exact wipe_in h' hl
theorem wipe_eq {σ σ' : L2.St} {vs : List Nat} (hl : σ'.length = σ.length) (h : ∀ j, j ∉ vs → σ'[j]? = σ[j]?) : L2.wipe σ' vs = L2.wipe σ vs := by
  apply List.ext_getElem?
  intro j
  by_cases hj : j ∈ vs
  · by_cases hlt : j < σ.length
    · rw [wipe_in hj hlt, wipe_in hj (by rw [hl]; exact hlt)]
    · rw [List.getElem?_eq_none (by rw [L2.wipe_length]; omega), List.getElem?_eq_none (by rw [L2.wipe_length]; omega)]
  · rw [wipe_get hj, wipe_get hj]; exact h j hj
theorem wipe_some' {σ : L2.St} {i : Nat} {x : V} {vs : List Nat} (h : (L2.wipe σ vs)[i]? = some (some x)) : σ[i]? = some (some x) ∧ i ∉ vs := L2.wipe_some h
/-- what stands beside all that is described stays so -/
theorem G.beside {F F' H H' : Hp} {T T' : Sto} (g : G F T H F' T' H') {a : Addr} {o : HO} (h1 : F a = none) (h2 : T a = none) (h3 : H a = some o) : F' a = none ∧ T' a = none ∧ H' a = some o := by
  refine ⟨not_none fun z => ?_, not_none fun z => ?_, g.g2 a o h3 h2 h1⟩
  · rcases g.g3 a z with y | y | y
    · exact y h1
    · exact y h2
    · rw [y] at h3; cases h3
  · rcases g.g4 a z with y | y
    · exact y h2
    · rw [y] at h3; cases h3
theorem G.updNew {F F' H H' : Hp} {T T' : Sto} (g : G F T H F' T' H') {a : Addr} {o : HO} (h : H a = none) : G F T H F' T' (upd H' a o) := by
  refine ⟨g.g1, fun b u h1 h2 h3 => ?_, g.g3, g.g4, fun b hb => ?_⟩
  · rw [upd_ne (fun z => by subst z; rw [h] at h1; cases h1)]; exact g.g2 b u h1 h2 h3
  · by_cases e : b = a
    · subst e; exact h
    · rw [upd_ne e] at hb; exact g.g5 b hb
theorem G.putNew {F F' H H' : Hp} {T T' : Sto} (g : G F T H F' T' H') {a : Addr} {u : DO} (h : H a = none) : G F T H F' (T'.put a u) H' := by
  refine ⟨g.g1, g.g2, g.g3, fun b hb => ?_, g.g5⟩
  by_cases e : b = a
  · subst e; exact .inr h
  · rw [Sto.put_ne e] at hb; exact g.g4 b hb
theorem backE_some {e0 e1 : List (Option D)} {j : Nat} {d : D} : ∀ {is : List Nat}, (backE e0 e1 is)[j]? = some (some d) → (j ∈ is ∧ e0[j]? = some (some d) ∧ isOwn d = false) ∨ (j ∉ is ∧ e1[j]? = some (some d))
  | [], h => .inr ⟨by simp, h⟩
  | i :: is, h => by
    unfold backE at h
    by_cases hj : i = j
    · subst hj
      by_cases hl : i < (backE e0 e1 is).length
      · rw [List.getElem?_set_self hl] at h
        have h' := Option.some.inj h
        split at h'
        · rename_i x hx
          split at h'
          · cases h'
          · rename_i ho
            cases h'
            exact .inl ⟨by simp, hx, by simpa using ho⟩
        · cases h'
      · rw [List.getElem?_eq_none (by simpa using hl)] at h; cases h
    · rw [List.getElem?_set_ne hj] at h
      rcases backE_some h with ⟨h1, h2⟩ | ⟨h1, h2⟩
      · exact .inl ⟨List.mem_cons_of_mem _ h1, h2⟩
      · exact .inr ⟨by simp only [List.mem_cons, not_or]; exact ⟨fun e => hj e.symm, h1⟩, h2⟩
theorem backE_length (e0 e1 : List (Option D)) : ∀ is : List Nat, (backE e0 e1 is).length = e1.length
  | [] => rfl
  | i :: is => by unfold backE; rw [List.length_set, backE_length e0 e1 is]
theorem compD_chk {g : DG} {tt : DT} {te : DE} {own : List Nat} {chk : Sto → Prop} {ds acc : List D} {st : DSt} {Q : List D → DSt → Prop} (h : compD g tt te own chk ds acc st Q) : chk st.sto := by
  cases ds with
  | nil => exact h.1
  | cons d ds => exact h.1
abbrev W0 : WX := fun _ _ _ _ => False
theorem KX.never {K : PySem.W.Frag} {mg : Str → Option Value} {W : WX} {F H : Hp} {T : Sto} {σ : L2.St} : KX K mg W F T H σ (fun _ _ => False) := fun _ _ _ _ _ _ _ _ _ _ z => z.elim
/-- the reading of a comprehension, by the layer's own -/
theorem comp_read {K : PySem.W.Frag} {mg : Str → Option Value} {W : WX} {it : DI} {g : DG} {tt : DT} {te : DE} {vs : List Nat} {σ : L2.St} {H : Hp} {Q : VK} (h : LE K mg W (dComp it g tt te vs) σ H Q) :
    tLc (LI K mg W it) (LG K mg vs g) (LT K mg W0 tt) (LV K mg W0 (dFz te)) vs σ H Q := by
  obtain ⟨F, T, st, Qd, Ed, R, h, c, cx⟩ := h
  refine ⟨F, T, st, _, Ed, R, h, fun F1 T1 H1 ds chk st1 J g1 R1 ok q1 => ?_, cx⟩
  intro D0 hD
  have len1 : (L2.wipe σ vs).length = σ.length := L2.wipe_length σ vs
  have Rw : Rep K mg F1 T1 H1 { st1 with env := wipeE st1.env vs } (L2.wipe σ vs) := R1.fewer (wipeE_length _ _) len1 fun i d e => by
    obtain ⟨h1, h2⟩ := wipeE_some e
    exact ⟨h1, wipe_get h2⟩
  have F1D := R1.noF hD
  have T1D := R1.noT hD
  refine ⟨fun i m H' => m = ds.length - i ∧ i ≤ ds.length ∧ ∃ F' T' st' acc xs, G F1 T1 H1 F' T' H' ∧ F' D0 = none ∧ T' D0 = none ∧ H' D0 = some (.lst xs) ∧ RepVs K mg F' acc xs ∧ acc.length ≤ i ∧ Rep K mg F' T' H' st' (L2.wipe σ vs) ∧ compD g tt te vs chk (ds.drop i) acc st' fun acc st2 => Qd (.own acc) { st2 with env := backE st1.env st2.env vs },
    ⟨ds.length, by simp, Nat.zero_le _, F1, T1, _, [], [], G.updNew .refl hD, F1D, T1D, upd_same, .nil, Nat.zero_le _, Rw.of (Rw.toRepSto.beside F1D T1D) .refl fun a u h1 h2 _ => ⟨h1, h2⟩, by rw [List.drop_zero]; exact q1⟩, ?_⟩
  rintro i m H2 ⟨rfl, hi, F2, T2, st2, acc, xs, g2, F2D, T2D, H2D, rv, hacc, R2, q2⟩
  have hk := compD_chk q2
  by_cases hl : i < ds.length
  · refine .inr ⟨ok.go i F2 T2 H2 _ R2.toRepSto g2.g1 hk hl, fun H' => i + 1 ≤ ds.length ∧ ∃ F' T' st' acc xs, G F1 T1 H1 F' T' H' ∧ F' D0 = none ∧ T' D0 = none ∧ H' D0 = some (.lst xs) ∧ RepVs K mg F' acc xs ∧ acc.length ≤ i + 1 ∧ Rep K mg F' T' H' st' (L2.wipe σ vs) ∧ compD g tt te vs chk (ds.drop (i + 1)) acc st' fun acc st2 => Qd (.own acc) { st2 with env := backE st1.env st2.env vs },
      fun H' q => ⟨ds.length - (i + 1), by omega, rfl, q.1, q.2⟩, fun x H3 y => ?_⟩
    obtain ⟨F3, d, g3, RS3, e3, r3⟩ := ok.yld i F2 T2 H2 _ x H3 R2.toRepSto g2.g1 hk hl y
    have R3 := R2.of RS3 g3.g1 fun a u h1 h2 _ => ⟨h1, h2⟩
    rw [List.drop_eq_getElem_cons hl] at q2
    have ed : ds[i] = d := by
      rw [List.getElem?_eq_getElem hl] at e3; exact Option.some.inj e3
    rw [ed] at q2
    refine ⟨F3, T2, st2, d, _, R3, r3, q2.2, fun F4 T4 H4 st4 σ4 g4 R4 hj q4 => ?_⟩
    have hlen4 : σ4.length = σ.length := hj.1.trans len1
    have hw4 : L2.wipe σ4 vs = L2.wipe σ vs := wipe_eq hlen4 fun j hjv => (hj.2 j hjv).trans (wipe_get hjv)
    refine ⟨hw4, F4, T4, st4, _, _, R4, q4, fun F5 T5 H5 b st5 g5 R5 q5 => ?_, KX.never⟩
    have gg := (g3.trans g4).trans g5
    have fewer : ∀ {F' : Hp} {T' : Sto} {H' : Hp} {st' : DSt}, Rep K mg F' T' H' st' σ4 → Rep K mg F' T' H' { st' with env := wipeE st'.env vs } (L2.wipe σ vs) := fun {F' T' H' st'} R' => R'.fewer (wipeE_length _ _) (len1.trans hlen4.symm) fun k e he => by
      obtain ⟨h1, h2⟩ := wipeE_some he
      exact ⟨h1, (hj.2 k h2).symm⟩
    cases b with
    | true =>
      rw [if_pos rfl] at q5
      refine iteT ?_
      refine ⟨F5, T5, st5, _, _, R5, (show dFz te st5 (fun y st3 => compD g tt te vs chk (ds.drop (i + 1)) (acc ++ [y]) { st3 with env := wipeE st3.env vs } fun acc st2 => Qd (.own acc) { st2 with env := backE st1.env st2.env vs }) (fun _ _ => False) from q5), fun F6 T6 H6 yd st6 v g6 R6 r6 q6 => ?_, KX.never⟩
      obtain ⟨F6D, T6D, H6D⟩ := (gg.trans g6).beside F2D T2D H2D
      have ev := rv.length
      have hlen := ok.len
      refine ⟨xs, H6D, by omega, hl, F6, T6, _, acc ++ [yd], xs ++ [v], (g2.trans (gg.trans g6)).updNew hD, F6D, T6D, upd_same, (rv.mono (gg.trans g6).g1).append (.cons r6 .nil), by simp; omega, ?_, q6⟩
      have R6w := fewer R6
      exact R6w.of (R6w.toRepSto.beside F6D T6D) .refl fun a u h1 h2 _ => ⟨h1, h2⟩
    | false =>
      rw [if_neg Bool.false_ne_true] at q5
      refine iteF ?_
      obtain ⟨F5D, T5D, H5D⟩ := gg.beside F2D T2D H2D
      exact ⟨hl, F5, T5, _, acc, xs, g2.trans gg, F5D, T5D, H5D, rv.mono gg.g1, by omega, fewer R5, q5⟩
  · have e : ds.drop i = [] := List.drop_eq_nil_of_le (by omega)
    rw [e] at q2
    refine .inl ⟨ok.stop i F2 T2 H2 _ R2.toRepSto g2.g1 hk (by omega), ?_⟩
    have hlen := ok.len
    have RS : RepSto K mg F2 (T2.put D0 (.lst acc)) H2 st2.sto := R2.toRepSto.adopt F2D T2D ⟨xs, H2D, rv, by omega⟩
    have Rf : Rep K mg F2 T2 H2 { st2 with env := backE st1.env st2.env vs } σ := by
      refine ⟨R2.toRepSto, fun j d q => ?_, fun j k d e a q1 q2 q3 q4 q5 q6 => ?_, ?_⟩
      · rcases backE_some q with ⟨h1, h2, h3⟩ | ⟨h1, h2⟩
        · obtain ⟨v, h4, h5⟩ := R1.env j d h2
          exact ⟨v, h4, (RepV.mono g2.g1 (notOwn_rep h5 (by rw [h3]; exact Bool.false_ne_true))).toQ (st := st2)⟩
        · obtain ⟨v, h4, h5⟩ := R2.env j d h2
          exact ⟨v, (wipe_some' h4).1, h5⟩
      · rcases backE_some q1 with ⟨_, _, h3⟩ | ⟨h1, h2⟩
        · rw [h3] at q2; cases q2
        · rcases backE_some q3 with ⟨_, _, h3⟩ | ⟨h3, h4⟩
          · rw [h3] at q4; cases q4
          · exact R2.inj j k d e a h2 q2 h4 q4 ((wipe_get h1).trans q5) ((wipe_get h3).trans q6)
      · show (backE st1.env st2.env vs).length = σ.length
        rw [backE_length, R2.len, len1]
    have Rg := Rf.of RS .refl fun a u h1 h2 _ => ⟨by rw [Sto.put_ne (fun z => by subst z; rw [T2D] at h1; cases h1)]; exact h1, h2⟩
    refine c _ _ _ (.own acc) _ (.ref D0) (g1.trans (g2.putNew hD)) Rg ⟨⟨D0, rfl, Sto.put_same, R2.noS T2D⟩, fun _ a ea j d h1 h2 h3 => ?_⟩ q2.2
    cases ea
    obtain ⟨b, u, k1, k2, _⟩ := Rf.own_at h1 h2
    rw [h3] at k1; cases k1
    rw [T2D] at k2; cases k2
end
section
variable {X : Cx} {W : WX} {elt tg iter : Expr} {ifs : List Expr} {scope : Scope} {own : List (Str × Nat)} {pos : Pos} {it : DI} {g : DG} {tt : DT} {te : DE}
theorem qe_comp (hc : X.calm = true) (hN : X.N.Nodup) (hi : QI X W tg iter it) (ok : BlkOk X.N X.env.scope scope own)
    (hg : ∀ (s : Shared) (H : Hp) (C : Addr) (cl : List (Str × Addr)) (fp : List Addr), QG (X.blk s H scope (compEnvC scope cl C X.env) fp) (own.map (·.2)) tg g)
    (ht : ∀ (s : Shared) (H : Hp) (C : Addr) (cl : List (Str × Addr)) (fp : List Addr), PTs (X.blk s H scope (compEnvC scope cl C X.env) fp) ifs (LT X.K X.mg W0 tt))
    (he : ∀ (s : Shared) (H : Hp) (C : Addr) (cl : List (Str × Addr)) (fp : List Addr), QE (X.blk s H scope (compEnvC scope cl C X.env) fp) W0 elt te) (hs : ∀ x, foldedSetIterable iter X.env x = pure x) :
    QE X W (.ListComp elt [⟨tg, iter, ifs, 0⟩] scope pos) (dComp it g tt te (own.map (·.2))) :=
  PE.imp (pe_lc (g := LG X.K X.mg (own.map fun (p : Str × Nat) => p.2) g) (tt := LT X.K X.mg W0 tt) (te := LV X.K X.mg W0 (dFz te)) hc hN hi ok hg ht (fun s H C cl fp => qv_fz (he s H C cl fp)) hs) fun σ H Q h => comp_read h
theorem qs_setComp {m i : Nat} {y : Str} {py spos : Pos} (hc : X.calm = true) (hN : X.N.Nodup) (hy : X.N[i]? = some y) (hyl : X.env.scope.names.lookup y = some .local)
    (hsw : swapsWith (.ListComp elt [⟨tg, iter, ifs, 0⟩] scope pos) (some (.Name y py)) spos.line X.env = pure true) (hi : QI X W tg iter it) (ok : BlkOk X.N X.env.scope scope own)
    (hg : ∀ (s : Shared) (H : Hp) (C : Addr) (cl : List (Str × Addr)) (fp : List Addr), QG (X.blk s H scope (compEnvC scope cl C X.env) fp) (own.map (·.2)) tg g)
    (ht : ∀ (s : Shared) (H : Hp) (C : Addr) (cl : List (Str × Addr)) (fp : List Addr), PTs (X.blk s H scope (compEnvC scope cl C X.env) fp) ifs (LT X.K X.mg W0 tt))
    (he : ∀ (s : Shared) (H : Hp) (C : Addr) (cl : List (Str × Addr)) (fp : List Addr), QE (X.blk s H scope (compEnvC scope cl C X.env) fp) W0 elt te) (hs : ∀ x, foldedSetIterable iter X.env x = pure x) :
    QS X W (.Assign [.Name y py] (.ListComp elt [⟨tg, iter, ifs, 0⟩] scope pos) spos) (sSet m i (dComp it g tt te (own.map (·.2)))) := by
  refine PS.imp (ps_setLc (g := LG X.K X.mg (own.map fun (p : Str × Nat) => p.2) g) (tt := LT X.K X.mg W0 tt) (te := LV X.K X.mg W0 (dFz te)) hc hN hy hyl hsw hi ok hg ht (fun s H C cl fp => qv_fz (he s H C cl fp)) hs) ?_
  rintro E σ H ⟨F, T, st, Dd, R, h, L⟩
  refine comp_read (mg := X.mg) (W := W) (Q := fun x H1 => L2.gName i x σ H1 E.nx) ⟨F, T, st, _, _, R, h, fun F' T' H' d st' v g R' r q => ?_, L.kx⟩
  obtain ⟨F2, T2, st2, g2, R2, q2⟩ := set_keep R' r q
  exact L.nx _ _ _ _ _ (g.trans g2) R2 q2
theorem qts_nil : PTs X [] (LT X.K X.mg W tYesD) := ⟨fun pins s σ H Q I ⟨F, T, st, Qd, Ed, R, h, c, cx⟩ => pts_nil.run pins s σ H Q I (c _ _ _ _ _ .refl R h)⟩
theorem qts_one {c : Expr} (h : QT X W c tt) : PTs X [c] (LT X.K X.mg W tt) := pts_one h
end
end DL
/-! the D layer, 8: stores into lists, methods, built-ins, defs -/
namespace DL
open PySem PySem.Spec L2

/-! ### lists that may change -/
def lstAt (st : DSt) : D → Option (List D)
  | .slot i => match st.env[i]? with
    | some (some (.own ds)) => some ds
    | some (some (.ref a)) => match st.sto a with
      | some (.lst ds) => some ds
      | _ => none
    | _ => none
  | .ref a => match st.sto a with
    | some (.lst ds) => some ds
    | _ => none
  | _ => none
def lstPut (st : DSt) (t : D) (ds : List D) : DSt := match t with
  | .slot i => match st.env[i]? with
    | some (some (.own _)) => { st with env := st.env.set i (some (.own ds)) }
    | some (some (.ref a)) => { st with sto := st.sto.put a (.lst ds) }
    | _ => st
  | .ref a => { st with sto := st.sto.put a (.lst ds) }
  | _ => st
section
variable {K : PySem.W.Frag} {mg : Str → Option Value} {F H : Hp} {T : Sto} {σ : L2.St} {st : DSt}
theorem putSto_rep (R : Rep K mg F T H st σ) {a : Addr} {u u' : DO} {o : HO} (h : st.sto a = some u) (ro : RepO K mg F (upd H a o) a u') :
    G F T H F (T.put a u') (upd H a o) ∧ Rep K mg F (T.put a u') (upd H a o) { st with sto := st.sto.put a u' } σ := by
  have hT := R.sub a u h
  obtain ⟨R', g⟩ := R.toRepSto.setT (a := a) (o := o) (u := u') (S' := st.sto.put a u') (.inr (ne_some hT)) ro (fun b w q => by
    by_cases e : b = a
    · subst e; rw [Sto.put_same] at q; cases q; exact .inl ⟨rfl, rfl⟩
    · rw [Sto.put_ne e] at q; exact .inr ⟨e, q⟩)
  refine ⟨g, R.of R' g.g1 fun b w q1 q2 _ => ?_⟩
  have e : b ≠ a := fun z => by subst z; rw [h] at q2; cases q2
  exact ⟨by rw [Sto.put_ne e]; exact q1, by rw [Sto.put_ne e]; exact q2⟩
theorem putOwn_rep (R : Rep K mg F T H st σ) {i : Nat} {d d' : D} {a : Addr} {u' : DO} {o : HO} (h : st.env[i]? = some (some d)) (hd : isOwn d = true) (hv : σ[i]? = some (some (V.ref a))) (ro : RepO K mg F (upd H a o) a u')
    (hq : ∀ T', T' a = some u' → RepQ K mg F T' st.sto d' (.ref a)) :
    G F T H F (T.put a u') (upd H a o) ∧ Rep K mg F (T.put a u') (upd H a o) { st with env := st.env.set i (some d') } σ := by
  obtain ⟨b, u, k1, k2, k3, _⟩ := R.own_at h hd
  rw [hv] at k1; cases k1
  obtain ⟨R', g⟩ := R.toRepSto.setT (a := a) (o := o) (u := u') (S' := st.sto) (.inr (ne_some k2)) ro (fun b w q => .inr ⟨fun z => (by rw [z, k3] at q; cases q), q⟩)
  have hl : i < st.env.length := (List.getElem?_eq_some_iff.mp h).1
  have cases_ : ∀ (j : Nat) (e : D), (st.env.set i (some d'))[j]? = some (some e) → (j = i ∧ e = d') ∨ (i ≠ j ∧ st.env[j]? = some (some e)) := fun j e q => by
    by_cases hj : i = j
    · subst hj
      rw [List.getElem?_set_self hl] at q; cases q; exact .inl ⟨rfl, rfl⟩
    · rw [List.getElem?_set_ne hj] at q; exact .inr ⟨hj, q⟩
  refine ⟨g, R', fun j e q => ?_, fun j k e f b q1 q2 q3 q4 q5 q6 => ?_, by simpa using R.len⟩
  · rcases cases_ j e q with ⟨rfl, rfl⟩ | ⟨hj, q'⟩
    · exact ⟨_, hv, hq _ Sto.put_same⟩
    · obtain ⟨v, h1, h2⟩ := R.env j e q'
      refine ⟨v, h1, h2.mono .refl fun b w z1 z2 z3 z4 => ⟨?_, z2⟩⟩
      rw [Sto.put_ne (fun z => by subst z; subst z3; exact hj (R.inj i j d e b h hd q' z4 hv h1))]
      exact z1
  · rcases cases_ j e q1 with ⟨rfl, rfl⟩ | ⟨hj, q1'⟩ <;> rcases cases_ k f q3 with ⟨rfl, rfl⟩ | ⟨hk, q3'⟩
    · rfl
    · exact R.inj j k d f b h hd q3' q4 q5 q6
    · exact R.inj j k e d b q1' q2 h hd q5 q6
    · exact R.inj j k e f b q1' q2 q3' q4 q5 q6
/-- a list that may change, at an operand -/
theorem lst_rep (R : Rep K mg F T H st σ) {t : D} {v : V} (r : RepP K mg F σ t v) {ds : List D} (e : lstAt st t = some ds) : ∃ a xs, v = .ref a ∧ H a = some (.lst xs) ∧ RepVs K mg F ds xs ∧ ds.length ≤ sizeLine ∧
    ∀ ds' xs', RepVs K mg F ds' xs' → ds'.length ≤ sizeLine → ∃ T', G F T H F T' (upd H a (.lst xs')) ∧ Rep K mg F T' (upd H a (.lst xs')) (lstPut st t ds') σ := by
  have shared : ∀ a, st.sto a = some (.lst ds) → ∃ xs, H a = some (.lst xs) ∧ RepVs K mg F ds xs ∧ ds.length ≤ sizeLine ∧
      ∀ ds' xs', RepVs K mg F ds' xs' → ds'.length ≤ sizeLine → ∃ T', G F T H F T' (upd H a (.lst xs')) ∧ Rep K mg F T' (upd H a (.lst xs')) { st with sto := st.sto.put a (.lst ds') } σ := fun a h => by
    obtain ⟨_, xs, h1, h2, h3⟩ := R.ob a _ (R.sub a _ h)
    exact ⟨xs, h1, h2, h3, fun ds' xs' r' hl => ⟨_, putSto_rep R h ⟨xs', upd_same, r', hl⟩⟩⟩
  cases t with
  | slot i =>
    unfold lstAt at e
    simp only at e
    cases he : st.env[i]? with
    | none => rw [he] at e; cases e
    | some o =>
      cases o with
      | none => rw [he] at e; cases e
      | some d =>
        rw [he] at e
        obtain ⟨w, h1, h2⟩ := R.env i d he
        have hr : σ[i]? = some (some v) := r
        rw [h1] at hr; cases hr
        cases d with
        | own es =>
          cases e
          obtain ⟨a, rfl, q1, q2⟩ := h2
          obtain ⟨_, xs, h3, h4, h5⟩ := R.ob a _ q1
          refine ⟨a, xs, rfl, h3, h4, h5, fun ds' xs' r' hl => ?_⟩
          have q := putOwn_rep (d' := .own ds') R he rfl h1 (u' := .lst ds') (o := .lst xs') ⟨xs', upd_same, r', hl⟩ (fun T' hT' => ⟨a, rfl, hT', q2⟩)
          unfold lstPut
          simp only [he]
          exact ⟨_, q⟩
        | ref a =>
          simp only at e
          cases h2
          cases hs : st.sto a with
          | none => rw [hs] at e; cases e
          | some u =>
            rw [hs] at e
            cases u with
            | lst es =>
              cases e
              obtain ⟨xs, q1, q2, q3, q4⟩ := shared a hs
              refine ⟨a, xs, rfl, q1, q2, q3, fun ds' xs' r' hl => ?_⟩
              unfold lstPut
              simp only [he]
              exact q4 ds' xs' r' hl
            | dic es => cases e
            | ins c fs => cases e
        | _ => cases e
  | ref a =>
    cases r
    unfold lstAt at e
    simp only at e
    cases hs : st.sto a with
    | none => rw [hs] at e; cases e
    | some u =>
      rw [hs] at e
      cases u with
      | lst es =>
        cases e
        obtain ⟨xs, q1, q2, q3, q4⟩ := shared a hs
        exact ⟨a, xs, rfl, q1, q2, q3, q4⟩
      | dic es => cases e
      | ins c fs => cases e
  | _ => cases e
end
/-- o[i] = e -/
def sPut (t o i : DE) : DS := fun E st => dFz t st (fun d st1 => o st1 (fun x st2 => dFz i st2 (fun k st3 => opt (lstAt st3 x) fun ds => opt (intD k) fun n => opt (ixN ds.length n) fun j => E.nx (lstPut st3 x (ds.set j d))) E.ex) E.ex) E.ex
/-- a list's method: the list, the arguments; what it tells, what the list is then -/
def dMth (f : List D → List D → Option (D × List D)) (o : DE) (ts : DA) : DE := fun st Q E => o st (fun x st1 => (lstAt st1 x).isSome ∧ ts st1 (fun xs st2 => opt (lstAt st2 x) fun ds => opt (f ds xs) fun r => Q r.1 (lstPut st2 x r.2)) E) E
def appendD : List D → List D → Option (D × List D)
  | ds, [d] => if ds.length < sizeLine then some (.non, ds ++ [d]) else none
  | _, _ => none
def popD : List D → List D → Option (D × List D)
  | ds, [] => ds.getLast?.map fun d => (d, ds.dropLast)
  | _, _ => none
section
variable {X : Cx} {W : WX} {pos tpos apos : Pos} {o i e : Expr} {to ti te : DE}
theorem qs_put (he : QE X W e te) (ho : QO X W o to) (hi : QE X W i ti) (hn : notComp e = true)
    (ha : ∀ v, assign (.Subscript o i tpos) X.env v = (do
      let ov ← holding [v] (eval o X.env)
      let iv ← holding [v, ov] (eval i X.env)
      standAt tpos
      holding [v, ov, iv] (setItem ov iv v)
      release [v, ov, iv] [])) : QS X W (.Assign [.Subscript o i tpos] e pos) (sPut te to ti) := by
  refine PS.imp (ps_asg (qv_fz he) (pg_sub ho (qv_fz hi) set_list ha) (noswap1 hn _ _ _) rfl rfl) ?_
  rintro E σ H ⟨F, T, st, Dd, R, h, L⟩
  refine ⟨F, T, st, _, _, R, h, fun F1 T1 H1 d st1 v g1 R1 r1 q1 => ?_, L.kx⟩
  refine ⟨F1, T1, st1, _, _, R1, q1, fun F2 T2 H2 x st2 w g2 R2 r2 q2 => ?_, (L.step g1).kx⟩
  refine ⟨F2, T2, st2, _, _, R2, q2, fun F3 T3 H3 k st3 z g3 R3 r3 q3 => ?_, (L.step (g1.trans g2)).kx⟩
  obtain ⟨ds, e1, q3⟩ := opt_elim q3
  obtain ⟨n, e2, q3⟩ := opt_elim q3
  obtain ⟨j, e3, q4⟩ := opt_elim q3
  obtain ⟨a, xs, rfl, h1, h2, h3, h4⟩ := lst_rep R3 (r2.mono g3.g1) e1
  cases k <;> simp only [intD] at e2 <;> cases e2
  cases r3
  have r1' := r1.mono (g2.trans g3).g1
  refine ⟨a, xs, _, j, rfl, rfl, h1, by rw [← h2.length]; exact e3, ?_⟩
  obtain ⟨T', g4, R4⟩ := h4 _ _ (h2.set j r1') (by rw [List.length_set]; exact h3)
  exact L.nx _ _ _ _ _ (((g1.trans g2).trans g3).trans g4) R4 q4
/-- a method's rule: the list at l, its items, the arguments; what comes, what the list is then -/
def MthOk (X : Cx) (id : String) (f : List D → List D → Option (D × List D)) : Prop :=
  MtR X id (fun x vs H Q => ∃ F l xs ds es r, x = .ref l ∧ H l = some (.lst xs) ∧ RepVs X.K X.mg F ds xs ∧ ds.length ≤ sizeLine ∧ RepVs X.K X.mg F es vs ∧ (∀ a o, Rd F a o → Rd H a o) ∧ f ds es = some r ∧
    ∀ xs' v, RepVs X.K X.mg F r.2 xs' → r.2.length ≤ sizeLine → RepV X.K X.mg F r.1 v → Q v (upd H l (.lst xs')))
theorem lmth {K : PySem.W.Frag} {mg : Str → Option Value} {f : List D → List D → Option (D × List D)} {ts : DA} {σ : L2.St} {H : Hp} {Q : VK} (h : LE K mg W (dMth f to ts) σ H Q) :
    LO K mg W to σ H fun x H1 => tyV K "list" x H1 ∧ LK K mg W ts σ H1 fun vs H2 => ∃ F l xs ds es r, x = .ref l ∧ H2 l = some (.lst xs) ∧ RepVs K mg F ds xs ∧ ds.length ≤ sizeLine ∧ RepVs K mg F es vs ∧ (∀ a o, Rd F a o → Rd H2 a o) ∧ f ds es = some r ∧
    ∀ xs' v, RepVs K mg F r.2 xs' → r.2.length ≤ sizeLine → RepV K mg F r.1 v → Q v (upd H2 l (.lst xs')) := by
  obtain ⟨F, T, st, Qd, Ed, R, h, c, cx⟩ := h
  refine ⟨F, T, st, _, Ed, R, h, fun F1 T1 H1 x st1 v g1 R1 r1 q1 => ?_, cx⟩
  obtain ⟨hs, q1⟩ := q1
  obtain ⟨ds0, e0⟩ := Option.isSome_iff_exists.mp hs
  obtain ⟨a, xs, rfl, h1, h2, h3, _⟩ := lst_rep R1 r1 e0
  refine ⟨.inl ⟨rfl, xs, SqL.of h1⟩, F1, T1, st1, _, Ed, R1, q1, fun F2 T2 H2 es st2 vs g2 R2 r2 q2 => ?_, cx.step g1⟩
  obtain ⟨ds, e1, q2⟩ := opt_elim q2
  obtain ⟨r, e2, q2⟩ := opt_elim q2
  obtain ⟨a', xs2, e3, k1, k2, k3, k4⟩ := lst_rep R2 (r1.mono g2.g1) e1
  cases e3
  refine ⟨F2, a, xs2, ds, es, r, rfl, k1, k2, k3, r2, fun a o h => R2.toRepSto.rd h, e2, fun xs' v rx hl rv => ?_⟩
  obtain ⟨T', g4, R4⟩ := k4 _ _ rx hl
  exact c _ _ _ _ _ _ ((g1.trans g2).trans g4) R4 rv.toR q2
def plainBase : Expr → Bool
  | .Name .. => true
  | .Attribute .. => true
  | .Subscript .. => true
  | .Constant .. => true
  | .List .. => true
  | _ => false
theorem base_of {o : Expr} (h : plainBase o = true) (name : Str) (env : Env) (whole : Sem Value) : attributeBase o name env whole = whole := by
  cases o <;> first | rfl | cases h
theorem few_of {es : List Expr} {env : Env} (h : es.all notStar = true) (hl : es.length < 30) :
    ((backTo pos (starEach es env)).all (fun x => !x.1) && (backToKw pos (keywordEach [] env)).all (fun x => x.1.isSome) && decide (es.length + ([] : List Keyword).length + (if ([] : List Keyword).isEmpty then 0 else 1) < 30)) = true := by
  have h1 : (backTo pos (starEach es env)).all (fun x => !x.1) = true := by
    have q := plain_of (pos := pos) (env := env) h
    rw [List.all_eq_not_any_not]
    simp only [Bool.not_not]
    rw [q]; rfl
  rw [h1]
  have h2 : decide (es.length + ([] : List Keyword).length + (if ([] : List Keyword).isEmpty then 0 else 1) < 30) = true := by
    simp only [List.length_nil, List.isEmpty_nil, if_true, Nat.add_zero]
    exact decide_eq_true hl
  rw [h2]
  rfl
theorem qe_mth {name : Str} {id : String} {f : List D → List D → Option (D × List D)} {es : List Expr} {ts : DA} (slot : Slot "list" name id) (hty : typeOf (.builtin id) = pure (.type "method_descriptor")) (hm : MthOk X id f)
    (ho : QO X W o to) (ha : QK X W (e :: es) ts) (hst : (e :: es).all notStar = true) (hl : (e :: es).length < 30) (hb : plainBase o = true) (hline : (apos.endLine == pos.line) = true) : QE X W (.Call (.Attribute o name apos) (e :: es) [] pos) (dMth f to ts) := by
  have h1 : notStar e = true ∧ es.all notStar = true := by simpa using hst
  exact PE.imp (pe_bm PySem.F.plainAttrs_list slot hty hm ho ha (base_of hb _ _ _) (few_of hst hl) hline (star_of h1.1) (plain_of h1.2)) fun σ H Q h => lmth h
theorem qe_mth0 {name : Str} {id : String} {f : List D → List D → Option (D × List D)} (slot : Slot "list" name id) (hty : typeOf (.builtin id) = pure (.type "method_descriptor")) (hm : MthOk X id f)
    (ho : QO X W o to) (hb : plainBase o = true) (hline : (apos.endLine == pos.line) = true) : QE X W (.Call (.Attribute o name apos) [] [] pos) (dMth f to kNil) := by
  refine PE.imp (pe_bm0 PySem.F.plainAttrs_list slot hty hm ho (base_of hb _ _ _) hline) ?_
  intro σ H Q h
  have q := lmth h
  obtain ⟨F, T, st, Qd, Ed, R, h, c, cx⟩ := q
  refine ⟨F, T, st, Qd, Ed, R, h, fun F1 T1 H1 d st1 v g1 R1 r1 q1 => ?_, cx⟩
  obtain ⟨h1, h2⟩ := c F1 T1 H1 d st1 v g1 R1 r1 q1
  obtain ⟨F2, T2, st2, Qd2, Ed2, R2, k2, c2, cx2⟩ := h2
  exact ⟨h1, c2 _ _ _ _ _ _ .refl R2 .nil k2⟩
theorem mo_append : MthOk X "list.append" appendD := by
  intro pins s σ H x vs v us Q I rx rv h
  obtain ⟨F, l, xs, ds, es, r, rfl, h1, h2, h3, h4, _, hf, k⟩ := h
  unfold appendD at hf
  split at hf
  · rename_i d
    split at hf <;> cases hf
    rename_i hl
    cases h4 with
    | cons r1 rs =>
      cases rs
      exact mt_append pins s σ H _ _ v us Q I rx rv ⟨l, xs, _, rfl, rfl, h1, by rw [← h2.length]; exact hl, k _ _ (h2.append (.cons r1 .nil)) (by rw [List.length_append]; exact hl) .non⟩
  · cases hf
theorem mo_pop : MthOk X "list.pop" popD := by
  intro pins s σ H x vs v us Q I rx rv h
  obtain ⟨F, l, xs, ds, es, r, rfl, h1, h2, h3, h4, _, hf, k⟩ := h
  unfold popD at hf
  split at hf
  · cases h4
    cases hg : ds.getLast? with
    | none => rw [hg] at hf; cases hf
    | some d =>
      rw [hg] at hf; cases hf
      have hd : ds[ds.length - 1]? = some d := by rw [← List.getLast?_eq_getElem?]; exact hg
      obtain ⟨w, hw, rw'⟩ := h2.get hd
      exact mt_pop pins s σ H _ _ v us Q I rx rv ⟨l, xs, w, rfl, rfl, h1, by rw [← h2.length]; exact hw, k _ _ h2.dropLast (by rw [List.length_dropLast]; omega) rw'⟩
  · cases hf
end

/-! ### built-ins -/
def lenD : List D → Option D
  | [.tup xs] => some (.int xs.length)
  | [.lst xs] => some (.int xs.length)
  | [.str s] => if s.length ≤ sizeLine then some (.int s.length) else none
  | [.dic es] => some (.int es.length)
  | _ => none
def tupleD : List D → Option D
  | [.tup xs] => some (.tup xs)
  | [.lst xs] => some (.tup xs)
  | _ => none
def listD : List D → Option D
  | [.tup xs] => some (.own xs)
  | [.lst xs] => some (.own xs)
  | _ => none
def maxD : List D → Option D
  | [.int i, .int j] => some (.int (if j > i then j else i))
  | _ => none
def minD : List D → Option D
  | [.int i, .int j] => some (.int (if j < i then j else i))
  | _ => none
def absD : List D → Option D
  | [.int i] => some (.int (if i < 0 then -i else i))
  | _ => none
def intOfD : List D → Option D
  | [.int i] => some (.int i)
  | [.bl b] => some (.int (if b then 1 else 0))
  | _ => none
def bls : List D → Option (List Bool)
  | [] => some []
  | .bl b :: ds => (bls ds).map (b :: ·)
  | _ => none
def allD : List D → Option D
  | [.lst xs] => (bls xs).map fun bs => .bl (bs.all id)
  | _ => none
def anyD : List D → Option D
  | [.lst xs] => (bls xs).map fun bs => .bl (bs.any id)
  | _ => none
def typ? : D → Option String
  | .non => some "NoneType"
  | .bl _ => some "bool"
  | .int _ => some "int"
  | .str _ => some "str"
  | .tup _ => some "tuple"
  | .lst _ => some "list"
  | .dic _ => some "dict"
  | _ => none
def isTy (t n : String) : Bool := t == n || (t == "bool" && n == "int")
def isiD : List D → Option D
  | [x, .ty n] => if n ∈ ["int", "bool", "str", "tuple", "list", "dict"] then (typ? x).map fun t => .bl (isTy t n) else none
  | _ => none
section
variable {X : Cx} {K : PySem.W.Frag} {mg : Str → Option Value} {F H : Hp} {T S : Sto}
theorem RepW.ty {n : String} {v : V} (r : RepW K mg F T (.ty n) v) : v = .ty n := by
  rcases r with r | ⟨a, _, ⟨es, h, _⟩ | ⟨es, h, _⟩⟩
  · cases r; rfl
  · cases h
  · cases h
theorem RepEs.length : ∀ {es : List D} {kvs : List (Key × V)}, RepEs K mg F es kvs → es.length = kvs.length
  | _, _, .nil => rfl
  | _, _, .cons _ _ r => by simp only [List.length_cons, RepEs.length r]
theorem cr_len : CallR X (.builtin "len") (LRn X.K X.mg lenD) := by
  intro pins s σ H xs us Q I rx h
  obtain ⟨F, T, S, ds, r, R, p, hf, out⟩ := h
  unfold lenD at hf
  split at hf
  · cases hf; cases p with
    | cons p ps =>
      cases ps
      obtain ⟨a, ys, rfl, h1, h2, _⟩ := p.tup' R
      exact call_len_seq pins s σ H _ us Q I rx ⟨a, ys, rfl, .inr h1, by rw [← h2.length]; exact out.stay R (.int _)⟩
  · cases hf; cases p with
    | cons p ps =>
      cases ps
      obtain ⟨a, ys, rfl, h1, h2, _⟩ := p.lst' R
      exact call_len_seq pins s σ H _ us Q I rx ⟨a, ys, rfl, .inl h1, by rw [← h2.length]; exact out.stay R (.int _)⟩
  · split at hf <;> cases hf
    rename_i hl
    cases p with
    | cons p ps =>
      cases ps
      obtain rfl := p.str
      exact call_len_str pins s σ H _ us Q I rx ⟨_, rfl, hl, out.stay R (.int _)⟩
  · cases hf
    cases p with
    | cons p ps =>
      cases ps
      obtain ⟨a, kvs, rfl, h1, h2⟩ := p.dic' R
      have hv : ∀ {us : List Value}, Vals [V.ref a] us → us = [Value.ref a] := fun {us} q => by
        cases q with
        | cons r1 r2 => cases r2; cases r1; rfl
      rw [hv rx]
      exact d_len I h1 fun t s' I' => ⟨.int kvs.length, H, I', ⟨t, rfl⟩, by rw [← h2.length]; exact out.stay R (.int _)⟩
  · cases hf
theorem cr_tuple : CallR X (.type "tuple") (LRn X.K X.mg tupleD) := by
  intro pins s σ H xs us Q I rx h
  obtain ⟨F, T, S, ds, r, R, p, hf, out⟩ := h
  unfold tupleD at hf
  split at hf
  · cases hf; cases p with
    | cons p ps =>
      cases ps
      obtain ⟨a, ys, rfl, h1, h2, _⟩ := p.tup' R
      exact call_tuple_of pins s σ H _ us Q I rx ⟨a, ys, rfl, .inr ⟨h1, out.stay R p.valTup⟩⟩
  · cases hf; cases p with
    | cons p ps =>
      cases ps
      obtain ⟨a, ys, rfl, h1, h2, l⟩ := p.lst' R
      exact call_tuple_of pins s σ H _ us Q I rx ⟨a, ys, rfl, .inl ⟨h1, fun t ht => out.tup R h2 l ht⟩⟩
  · cases hf
theorem cr_list : CallR X (.type "list") (LRn X.K X.mg listD) := by
  intro pins s σ H xs us Q I rx h
  obtain ⟨F, T, S, ds, r, R, p, hf, out⟩ := h
  unfold listD at hf
  split at hf
  · cases hf; cases p with
    | cons p ps =>
      cases ps
      obtain ⟨a, ys, rfl, h1, h2, l⟩ := p.tup' R
      exact call_list_of pins s σ H _ us Q I rx ⟨a, ys, rfl, .inr h1, fun t ht => out.own R h2 l ht⟩
  · cases hf; cases p with
    | cons p ps =>
      cases ps
      obtain ⟨a, ys, rfl, h1, h2, l⟩ := p.lst' R
      exact call_list_of pins s σ H _ us Q I rx ⟨a, ys, rfl, .inl h1, fun t ht => out.own R h2 l ht⟩
  · cases hf
theorem cr_max2 (hc : X.calm = true) : CallR X (.builtin "max") (LRn X.K X.mg maxD) := by
  intro pins s σ H xs us Q I rx h
  obtain ⟨F, T, S, ds, r, R, p, hf, out⟩ := h
  unfold maxD at hf
  split at hf
  · cases hf; cases p with
    | cons p ps =>
      cases ps with
      | cons p2 ps =>
        cases ps
        obtain rfl := p.int; obtain rfl := p2.int
        exact call_max2 hc pins s σ H _ us Q I rx ⟨_, _, rfl, out.stay R (.int _)⟩
  · cases hf
theorem cr_min2 (hc : X.calm = true) : CallR X (.builtin "min") (LRn X.K X.mg minD) := by
  intro pins s σ H xs us Q I rx h
  obtain ⟨F, T, S, ds, r, R, p, hf, out⟩ := h
  unfold minD at hf
  split at hf
  · cases hf; cases p with
    | cons p ps =>
      cases ps with
      | cons p2 ps =>
        cases ps
        obtain rfl := p.int; obtain rfl := p2.int
        exact call_min2 hc pins s σ H _ us Q I rx ⟨_, _, rfl, out.stay R (.int _)⟩
  · cases hf
theorem cr_int : CallR X (.type "int") (LRn X.K X.mg intOfD) := by
  intro pins s σ H xs us Q I rx h
  obtain ⟨F, T, S, ds, r, R, p, hf, out⟩ := h
  unfold intOfD at hf
  split at hf
  · cases hf; cases p with
    | cons p ps =>
      cases ps
      obtain rfl := p.int
      exact call_int1 pins s σ H _ us Q I rx (.inl ⟨_, rfl, out.stay R (.int _)⟩)
  · cases hf; cases p with
    | cons p ps =>
      cases ps
      obtain rfl := p.bl
      exact call_int1 pins s σ H _ us Q I rx (.inr ⟨_, rfl, out.stay R (.int _)⟩)
  · cases hf
theorem bls_rep : ∀ {ds : List D} {vs : List V} {bs : List Bool}, RepVs K mg F ds vs → bls ds = some bs → vs = bs.map V.bl
  | _, _, _, .nil, e => by cases e; rfl
  | _, _, _, .cons h r, e => by
    cases h <;> simp only [bls] at e <;> try (cases e; done)
    rename_i b
    obtain ⟨bs', e1, e2⟩ := Option.map_eq_some_iff.mp e
    subst e2
    rw [List.map_cons, bls_rep r e1]
theorem cr_allD (hc : X.calm = true) : CallR X (.builtin "all") (LRn X.K X.mg allD) := by
  intro pins s σ H xs us Q I rx h
  obtain ⟨F, T, S, ds, r, R, p, hf, out⟩ := h
  unfold allD at hf
  split at hf
  · obtain ⟨bs, e1, e2⟩ := Option.map_eq_some_iff.mp hf
    subst e2
    cases p with
    | cons p ps =>
      cases ps
      obtain ⟨a, ys, rfl, h1, h2, l⟩ := p.lst' R
      have e := bls_rep h2 e1
      subst e
      exact cr_all hc pins s σ H _ us Q I rx ⟨a, bs, rfl, h1, out.stay R (.bl _)⟩
  · cases hf
theorem cr_anyD (hc : X.calm = true) : CallR X (.builtin "any") (LRn X.K X.mg anyD) := by
  intro pins s σ H xs us Q I rx h
  obtain ⟨F, T, S, ds, r, R, p, hf, out⟩ := h
  unfold anyD at hf
  split at hf
  · obtain ⟨bs, e1, e2⟩ := Option.map_eq_some_iff.mp hf
    subst e2
    cases p with
    | cons p ps =>
      cases ps
      obtain ⟨a, ys, rfl, h1, h2, l⟩ := p.lst' R
      have e := bls_rep h2 e1
      subst e
      exact cr_any hc pins s σ H _ us Q I rx ⟨a, bs, rfl, h1, out.stay R (.bl _)⟩
  · cases hf
theorem rd_lst {a : Addr} {xs : List V} (h : SqL K H a xs) : TyX K H (.ref a) (.type "list") := by
  rcases h with (h | ⟨o, h⟩) | ⟨o, its, n, h1, h2, _⟩
  · exact .base (.lst h)
  · exact .base (.frz h)
  · exact .kList h1 h2
theorem rd_tup {a : Addr} {xs : List V} (h : SqT K H a xs) : TyX K H (.ref a) (.type "tuple") := by
  rcases h with (h | ⟨o, h⟩) | ⟨o, its, n, h1, h2, _⟩
  · exact .base (.tup h)
  · exact .fTuple h
  · exact .kTuple h1 h2
theorem rd_dic {a : Addr} {kvs : List (Key × V)} (h : Rd H a (.dK kvs)) : TyX K H (.ref a) (.type "dict") := by
  rcases h with h | ⟨o, h⟩
  · exact .base (.dK h)
  · exact .fDict h
theorem RepW.typ (R : RepSto K mg F T H S) {d : D} {v : V} (r : RepW K mg F T d v) {t : String} (e : typ? d = some t) : TyX K H v (.type t) := by
  cases d <;> simp only [typ?] at e <;> cases e
  · obtain rfl := r.non; exact .base .non
  · obtain rfl := r.bl; exact .base (.bl _)
  · obtain rfl := r.int; exact .base (.int _)
  · obtain rfl := r.str; exact .base (.str _)
  · obtain ⟨a, ys, rfl, h1, _⟩ := r.tup' R; exact rd_tup h1
  · obtain ⟨a, ys, rfl, h1, _⟩ := r.lst' R; exact rd_lst h1
  · obtain ⟨a, ys, rfl, h1, _⟩ := r.dic' R; exact rd_dic h1
theorem kit_all : ∀ t ∈ ["NoneType", "bool", "int", "str", "tuple", "list", "dict"], ∀ n ∈ ["int", "bool", "str", "tuple", "list", "dict"], kitB t n = some (isTy t n) := by decide +kernel
theorem kit_isTy {t n : String} {d : D} (h : typ? d = some t) (hn : n ∈ ["int", "bool", "str", "tuple", "list", "dict"]) : PySem.W.kitOne K (.type t) (.type n) = some (isTy t n) := by
  have ht : t ∈ ["NoneType", "bool", "int", "str", "tuple", "list", "dict"] := by cases d <;> simp only [typ?] at h <;> cases h <;> decide
  exact kit_ty (kit_all t ht n hn)
theorem cr_isi : CallR X (.builtin "isinstance") (LRn X.K X.mg isiD) := by
  intro pins s σ H xs us Q I rx h
  obtain ⟨F, T, S, ds, r, R, p, hf, out⟩ := h
  unfold isiD at hf
  split at hf
  · split at hf
    · rename_i hn
      obtain ⟨t, e1, e2⟩ := Option.map_eq_some_iff.mp hf
      subst e2
      cases p with
      | cons p ps =>
        cases ps with
        | cons p2 ps =>
          cases ps
          obtain rfl := p2.ty
          exact call_isi pins s σ H _ us Q I rx ⟨_, _, _, _, _, rfl, .ty _, p.typ R e1, kit_isTy e1 hn, out.stay R (.bl _)⟩
    · cases hf
  · cases hf
end
end DL
/-! the D layer, 9: from the text to its reading -/
namespace DL
open PySem PySem.Spec L2

/-- what is known of a def's names: its slots, the defs it may call, the module's constants, how an owned value is stored -/
structure Dn where
  N : List Str
  fns : List Str
  cs : List (Str × D)
  pol : List (Str × Nat)
structure Den where
  v : DE
  o : DE
  t : DT
def fE : DE := fun _ _ _ => False
def fT : DT := fun _ _ _ => False
def fA : DA := fun _ _ _ => False
def fI : DI := fun _ _ _ => False
def fS : DS := fun _ _ => False
def fG : DG := fun _ _ _ => False
def fGs : DGs := fun _ _ _ => False
def fP : DPt := fun _ _ _ => False
def Den.bad : Den := ⟨fE, fE, fT⟩
def Den.mk' (v : DE) : Den := ⟨v, dFz v, dTru (dFz v)⟩
def okName (x : Str) : Bool := !(x == ("__debug__" : Str)) && !(x == ("__classdict__" : Str)) && !(x == ("__name__" : Str))
def visB (sc : Scope) (x : Str) : Bool := match sc.names.lookup x with
  | some .local => true
  | some .cell => true
  | some .free => true
  | _ => false
def stB (sc : Scope) (x : Str) : Bool := match sc.names.lookup x with
  | some .local => true
  | some .cell => true
  | _ => false
def glB (sc : Scope) (x : Str) : Bool := match sc.names.lookup x with
  | some .globalImplicit => true
  | _ => false
def biF (x : Str) : Option (List D → Option D) :=
  if x = ("len" : Str) then some lenD else if x = ("tuple" : Str) then some tupleD else if x = ("list" : Str) then some listD else if x = ("max" : Str) then some maxD else if x = ("min" : Str) then some minD
  else if x = ("int" : Str) then some intOfD else if x = ("all" : Str) then some allD else if x = ("any" : Str) then some anyD else if x = ("isinstance" : Str) then some isiD else none
def tyF (x : Str) : Option String :=
  if x = ("int" : Str) then some "int" else if x = ("str" : Str) then some "str" else if x = ("bool" : Str) then some "bool" else if x = ("tuple" : Str) then some "tuple" else if x = ("list" : Str) then some "list" else if x = ("dict" : Str) then some "dict" else none
def bop : Operator → Option (D → D → Option D)
  | .Add => some addD
  | .Sub => some subD
  | .Mult => some mulD
  | .Mod => some modD
  | .FloorDiv => some fdivD
  | .Pow => some powD
  | _ => none
def cop : CmpOp → D → D → Option D
  | .Eq => eqD
  | .NotEq => neD
  | .Lt => ltD
  | .LtE => leD
  | .Gt => gtD
  | .GtE => geD
  | .Is => isD
  | .IsNot => isntD
  | .In => inD
  | .NotIn => ninD
def mthF (x : Str) : Option (List D → List D → Option (D × List D)) := if x = ("append" : Str) then some appendD else none
def mth0F (x : Str) : Option (List D → List D → Option (D × List D)) := if x = ("pop" : Str) then some popD else none
def kL : List Den → DA
  | [] => kNil
  | d :: ds => kCons d.v (kL ds)
def aL : List Den → DA
  | [] => aNil
  | d :: ds => aCons d.o (aL ds)
def bv (op : BoolOp) : List Den → DE
  | [] => fE
  | [d] => d.v
  | d :: ds => (match op with
    | .And => dAnd
    | .Or => dOr) d.v (bv op ds)
def bt (op : BoolOp) : List Den → DT
  | [] => fT
  | [d] => d.t
  | d :: ds => (match op with
    | .And => tAndD
    | .Or => tOrD) d.t (bt op ds)
def constD : Const → Option D
  | .int i => some (.int i)
  | .bool b => some (.bl b)
  | .none => some .non
  | .str s => if PyData.strOk s = true then some (.str s) else none
  | _ => none
def globD (dn : Dn) (x : Str) : Option D := match dn.cs.lookup x with
  | some d => some d
  | none => if x ∈ dn.fns then some (.fn x) else (tyF x).map .ty
def nameG (dn : Dn) (os : Scope) (e : Expr) : DG := match e with
  | .Name x _ => if stB os x && decide (dn.N[dn.N.idxOf x]? = some x) then gName (dn.N.idxOf x) else fG
  | _ => fG
def namesGs (dn : Dn) (os : Scope) : List Expr → DGs
  | [] => gNil
  | e :: es => gCons (nameG dn os e) (namesGs dn os es)
def tgtG (dn : Dn) (os : Scope) (e : Expr) : DG := match e with
  | .Tuple es _ _ => if es.all notStar then gTup es.length (namesGs dn os es) else fG
  | e => nameG dn os e
def relabS (scope sc : Scope) : Scope := { scope with names := scope.names.map fun (n, k) => if (k == NameKind.free && sc.kind == .function && sc.names.lookup n == some .cell) then (n, NameKind.cell) else (n, k) }
def ownOf (N : List Str) (scope : Scope) : List (Str × Nat) := (scope.names.filter fun p => stB scope p.1 && decide (p.1 ∈ N)).map fun p => (p.1, N.idxOf p.1)
def plainIxB : Expr → Bool
  | .Slice .. => false
  | _ => true
/-- what a for walks -/
def denI (den : Expr → Den) (sc : Scope) (e : Expr) : DI := match e with
  | .Call (.Name f _) args [] _ =>
    if f = ("range" : Str) then (if glB sc f && args.all notStar then (match args with
      | [a] => iRng rngOf1 (kL [den a])
      | [a, b] => iRng rngOf2 (kL [den a, den b])
      | _ => fI) else fI)
    else iSeq (den e).v
  | .Set .. => fI
  | _ => iSeq (den e).v
def den (dn : Dn) (Γ : Str → DSpec) : Nat → Scope → Expr → Den
  | 0, _, _ => .bad
  | n + 1, sc, e => match e with
    | .Name x _ => if !okName x then .bad else
        if visB sc x then (let i := dn.N.idxOf x; if dn.N[i]? = some x then ⟨dVar i, dTok i, dTru (dTok i)⟩ else .bad)
        else if glB sc x then (match globD dn x with
          | some d => .mk' (dC d)
          | none => .bad) else .bad
    | .Constant c _ _ => match constD c with
      | some d => .mk' (dC d)
      | none => .bad
    | .BinOp a op b _ => match bop op with
      | some f => .mk' (dOp2 f (den dn Γ n sc a).o (den dn Γ n sc b).o)
      | none => .bad
    | .UnaryOp .USub a _ => .mk' (dOp1 negD (den dn Γ n sc a).o)
    | .UnaryOp .Not a _ => ⟨dNot (den dn Γ n sc a).o, dFz (dNot (den dn Γ n sc a).o), tNotD (den dn Γ n sc a).t⟩
    | .BoolOp op vs _ => let ds := vs.map (den dn Γ n sc); ⟨bv op ds, dFz (bv op ds), bt op ds⟩
    | .Compare a [op] [b] _ => if behindInMarks op b then .bad else let v := dOp2 (cop op) (den dn Γ n sc a).o (den dn Γ n sc b).o; ⟨v, dFz v, dTst v⟩
    | .Compare a [op, op'] [b, c] _ => if lastMarks [op, op'] [b, c] then .bad else let v := dChain (cop op) (cop op') (den dn Γ n sc a).o (den dn Γ n sc b).o (den dn Γ n sc c).o; ⟨v, dFz v, dTst v⟩
    | .IfExp c a b _ => let v := dIf (den dn Γ n sc c).t (den dn Γ n sc a).v (den dn Γ n sc b).v; ⟨v, dFz v, fT⟩
    | .Subscript a (.Slice lo hi none _) _ =>
      let p := fun (x : Option Expr) => match x with
        | none => dNoPt
        | some e => dPt (den dn Γ n sc e).v
      .mk' (dSl (den dn Γ n sc a).o (p lo) (p hi))
    | .Subscript a b _ => if plainIxB b then .mk' (dOp2 ixD' (den dn Γ n sc a).o (den dn Γ n sc b).o) else .bad
    | .Tuple es _ _ => if es.all notStar then .mk' (dTup (kL (es.map (den dn Γ n sc)))) else .bad
    | .List es _ => if es.all notStar then .mk' (dLst (kL (es.map (den dn Γ n sc)))) else .bad
    | .Call (.Name f _) (a :: args) [] _ => if !(okName f && glB sc f && (a :: args).all notStar) then .bad else
        if f ∈ dn.fns then .mk' (dCall (Γ f) (kL ((a :: args).map (den dn Γ n sc))))
        else (match biF f with
          | some g => .mk' (dBi g (aL ((a :: args).map (den dn Γ n sc))))
          | none => .bad)
    | .Call (.Attribute o name apos) (a :: args) [] pos => if !(plainBase o && (a :: args).all notStar && decide ((a :: args).length < 30) && apos.endLine == pos.line) then .bad else
        (match mthF name with
          | some g => .mk' (dMth g (den dn Γ n sc o).o (kL ((a :: args).map (den dn Γ n sc))))
          | none => .bad)
    | .Call (.Attribute o name apos) [] [] pos => if !(plainBase o && apos.endLine == pos.line) then .bad else
        (match mth0F name with
          | some g => .mk' (dMth g (den dn Γ n sc o).o kNil)
          | none => .bad)
    | .ListComp elt [⟨tg, iter, ifs, 0⟩] scope _ =>
      let sc' := relabS scope sc
      let own := ownOf dn.N scope
      if blkC dn.N sc scope own then
        .mk' (dComp (denI (den dn Γ n sc) sc iter) (tgtG dn scope tg) (match ifs with
          | [] => tYesD
          | [c] => (den dn Γ n sc' c).t
          | _ => fT) (den dn Γ n sc' elt).v (own.map (·.2)))
      else .bad
    | _ => .bad
end DL

namespace DL
open PySem PySem.Spec L2
/-! ### statements -/
def polOf (dn : Dn) (x : Str) : Nat := (dn.pol.lookup x).getD 0
def notTup : Expr → Bool
  | .Tuple .. => false
  | _ => true
def retD (dn : Dn) (den : Expr → Den) (sc : Scope) (e : Expr) : DE := match e with
  | .Name x _ => if okName x && visB sc x && decide (dn.N[dn.N.idxOf x]? = some x) then dMove (dn.N.idxOf x) else (den e).v
  | _ => (den e).v
def denS (dn : Dn) (Γ : Str → DSpec) : Nat → Scope → Stmt → DS
  | 0, _, _ => fS
  | n + 1, sc, s =>
    let ex := den dn Γ 40 sc
    let blk := fun (ss : List Stmt) => (ss.map (denS dn Γ n sc)).foldr sSeq sNil
    match s with
    | .Expr (.Constant (.str _) _ _) _ => sNil
    | .Expr e _ => if notComp e then sDrop (ex e).v else fS
    | .Return none _ => sRetN
    | .Return (some e) _ => sRet (retD dn ex sc e)
    | .If c a b _ => sIf (ex c).t (blk a) (blk b)
    | .Pass _ => sNil
    | .Continue _ => sCont
    | .Assign [.Name x _] e _ => if stB sc x && decide (dn.N[dn.N.idxOf x]? = some x) then sSet (polOf dn x) (dn.N.idxOf x) (ex e).v else fS
    | .Assign [.Subscript o i _] e _ => if notComp e && plainIxB i then sPut (ex e).v (ex o).o (ex i).v else fS
    | .Assign [.Tuple ts k p] e _ => if notComp e && notTup e && ts.all notStar then sAsg (ex e).v (tgtG dn sc (.Tuple ts k p)) else fS
    | .For tg iter body [] _ => sFor (denI ex sc iter) (tgtG dn sc tg) (blk body)
    | .While c body [] _ => sWhile (ex c).t (blk body)
    | _ => fS
def denB (dn : Dn) (Γ : Str → DSpec) (n : Nat) (sc : Scope) (ss : List Stmt) : DS := (ss.map (denS dn Γ n sc)).foldr sSeq sNil

/-! ### the reading is right -/
structure XOk (X : Cx) (W : WX) (dn : Dn) (Γ : Str → DSpec) (sc os : Scope) : Prop where
  hN : X.N = dn.N
  nd : X.N.Nodup
  sc : X.env.scope = sc
  calm : X.calm = true
  hu : X.A.units + 64 < cLine
  tk : Takes X W
  fn : ∀ f ∈ dn.fns, Callee X f (Γ f)
  cst : ∀ p ∈ dn.cs, ∃ u v, X.mg p.1 = some u ∧ RelV v u ∧ ∀ F, RepV X.K X.mg F p.2 v
  blt : ∀ x, (biF x).isSome = true ∨ (tyF x).isSome = true ∨ x = ("range" : Str) → X.mg x = none
  st : ∀ x, stB os x = true → L2.Loc X.env.scope x ∧ (X.fn x = true ∨ X.env.scope.names.lookup x = some .local)
structure Snd (X : Cx) (W : WX) (e : Expr) (d : Den) : Prop where
  v : QE X W e d.v
  o : QO X W e d.o
  t : QT X W e d.t
section
variable {X : Cx} {W : WX} {e : Expr}
theorem qe_bad : QE X W e fE := PE.never fun σ H Q ⟨_, _, _, _, _, _, h, _⟩ => h
theorem qo_bad : QO X W e fE := PE.never fun σ H Q ⟨_, _, _, _, _, _, h, _⟩ => h
theorem qt_bad : QT X W e fT := ⟨fun _ _ _ _ _ _ ⟨_, _, _, _, _, _, h, _⟩ => h.elim⟩
theorem qa_bad {es : List Expr} : QA X W es fA := ⟨fun _ _ _ _ _ _ _ ⟨_, _, _, _, _, _, h, _⟩ => h.elim⟩
theorem qi_bad {tg : Expr} : QI X W tg e fI := ⟨fun _ _ _ _ _ _ ⟨_, _, _, _, _, _, h, _⟩ => h.elim⟩
theorem qs_bad {s : Stmt} : QS X W s fS := ⟨fun _ _ _ _ _ _ ⟨_, _, _, _, _, h, _⟩ => h.elim⟩
theorem qg_bad {ws : List Nat} : QG X ws e fG := ⟨fun _ _ _ _ _ _ _ _ _ ⟨_, _, _, _, _, _, _, h, _⟩ => h.elim⟩
theorem Snd.bad : Snd X W e .bad := ⟨qe_bad, qo_bad, qt_bad⟩
def plainT : Expr → Bool
  | .UnaryOp .Not _ _ => false
  | .BoolOp .. => false
  | .IfExp .. => false
  | .Compare .. => false
  | _ => true
theorem true_of {e : Expr} (h : plainT e = true) (env : Env) (whole : Sem Value) : isTrue e env whole = (do let v ← whole; standAt e.pos; holding [v] (truthy v)) := by
  cases e <;> first | rfl | (cases h; done) | skip
  rename_i op _ _
  cases op <;> first | rfl | cases h
theorem Snd.mk' {v : DE} (h : QE X W e v) (hp : plainT e = true) : Snd X W e (.mk' v) := ⟨h, qo_fz h, qt_tru (qo_fz h) (true_of hp _)⟩
theorem vis_of {sc : Scope} {x : Str} (h : visB sc x = true) : Vis sc x := by
  unfold visB at h
  split at h
  · exact .inl (by assumption)
  · exact .inr (.inl (by assumption))
  · exact .inr (.inr (by assumption))
  · cases h
theorem gl_of {X : Cx} {x : Str} (h : glB X.env.scope x = true) : Gl X x := by
  unfold glB at h
  split at h
  · assumption
  · cases h
theorem okName_of {x : Str} (h : okName x = true) : (x == ("__debug__" : Str)) = false ∧ (x == ("__classdict__" : Str)) = false ∧ x ≠ "__name__" := by
  unfold okName at h
  simp only [Bool.and_eq_true, Bool.not_eq_true'] at h
  exact ⟨h.1.1, h.1.2, fun z => by rw [z] at h; simp at h⟩
theorem bi_ok (hc : X.calm = true) {x : Str} {f : List D → Option D} (h : biF x = some f) : (∃ id, CallR X (.builtin id) (LRn X.K X.mg f) ∧ bootBuiltins x = some (.builtin id)) ∨ ∃ id, CallR X (.type id) (LRn X.K X.mg f) ∧ bootBuiltins x = some (.type id) := by
  unfold biF at h
  repeat' split at h
  all_goals cases h
  all_goals (rename_i e; subst e)
  · exact .inl ⟨_, cr_len, by decide +kernel⟩
  · exact .inr ⟨_, cr_tuple, by decide +kernel⟩
  · exact .inr ⟨_, cr_list, by decide +kernel⟩
  · exact .inl ⟨_, cr_max2 hc, by decide +kernel⟩
  · exact .inl ⟨_, cr_min2 hc, by decide +kernel⟩
  · exact .inr ⟨_, cr_int, by decide +kernel⟩
  · exact .inl ⟨_, cr_allD hc, by decide +kernel⟩
  · exact .inl ⟨_, cr_anyD hc, by decide +kernel⟩
  · exact .inl ⟨_, cr_isi, by decide +kernel⟩
theorem ty_ok {x : Str} {n : String} (h : tyF x = some n) : bootBuiltins x = some (.type n) := by
  unfold tyF at h
  repeat' split at h
  all_goals cases h
  all_goals (rename_i e; subst e; decide +kernel)
theorem bop_ok {op : Operator} {f : D → D → Option D} (h : bop op = some f) : OpR X (binaryOp op) (LR2 X.K X.mg f) := by
  cases op <;> simp only [bop] at h <;> cases h
  · exact or_add
  · exact or_sub
  · exact or_mul
  · exact or_mod
  · exact or_pow
  · exact or_fdiv
theorem cop_ok (hu : X.A.units + 64 < cLine) (op : CmpOp) : OpR X (compareOp op) (LR2 X.K X.mg (cop op)) := by
  cases op
  · exact or_eq hu
  · exact or_ne hu
  · exact or_lt
  · exact or_le
  · exact or_gt
  · exact or_ge
  · exact or_is
  · exact or_isnt
  · exact or_in hu
  · exact or_nin hu
theorem lookup_map {g : Str → NameKind → NameKind} {x : Str} : ∀ names : List (Str × NameKind), (names.map fun p => (p.1, g p.1 p.2)).lookup x = (names.lookup x).map (g x)
  | [] => rfl
  | (n, k) :: r => by
    simp only [List.map_cons, List.lookup_cons]
    cases h : x == n with
    | true => 
      have e : x = n := eq_of_beq h
      subst e; rfl
    | false => exact lookup_map r
theorem relab_eq (scope : Scope) (env : Env) : relabel scope env = relabS scope env.scope := rfl
theorem relab_lookup (scope sc : Scope) (x : Str) : (relabS scope sc).names.lookup x = (scope.names.lookup x).map fun k => if (k == NameKind.free && sc.kind == .function && sc.names.lookup x == some .cell) then NameKind.cell else k := by
  have e : (relabS scope sc).names = scope.names.map fun p => (p.1, if (p.2 == NameKind.free && sc.kind == .function && sc.names.lookup p.1 == some .cell) then NameKind.cell else p.2) := by
    show scope.names.map _ = _
    apply List.map_congr_left
    rintro ⟨n, k⟩ _
    simp only
    split <;> rfl
  rw [e]
  exact lookup_map (g := fun n k => if (k == NameKind.free && sc.kind == .function && sc.names.lookup n == some .cell) then NameKind.cell else k) _
end
section
variable {X : Cx} {W : WX} {dn : Dn} {Γ : Str → DSpec} {sc os : Scope}
theorem XOk.blk (ok : XOk X W dn Γ sc os) (s : Shared) (H : Hp) (scope : Scope) (C : Addr) (cl : List (Str × Addr)) (fp : List Addr) : XOk (X.blk s H scope (compEnvC scope cl C X.env) fp) W0 dn Γ (relabS scope sc) scope := by
  have hs : (compEnvC scope cl C X.env).scope = relabS scope sc := by
    show relabel scope X.env = _
    rw [relab_eq, ok.sc]
  refine ⟨ok.hN, ok.nd, hs, ok.calm, ok.hu, takes0, fun f hf => ⟨(ok.fn f hf).ex⟩, ok.cst, ok.blt, fun x hx => ?_⟩
  show L2.Loc (compEnvC scope cl C X.env).scope x ∧ ((scope.names.lookup x == some .cell) = true ∨ (compEnvC scope cl C X.env).scope.names.lookup x = some .local)
  rw [hs]
  unfold L2.Loc
  rw [relab_lookup]
  unfold stB at hx
  split at hx
  · rename_i h; rw [h]; exact ⟨.inl rfl, .inr rfl⟩
  · rename_i h; rw [h]; exact ⟨.inr rfl, .inl rfl⟩
  · cases hx
end
end DL
/-! the D layer, 10: the reading of expressions and statements is right -/
namespace DL
open PySem PySem.Spec L2
section
variable {X : Cx} {W : WX} {dn : Dn} {Γ : Str → DSpec} {sc os : Scope}
theorem name_ok (ok : XOk X W dn Γ sc os) {ws : List Nat} {e : Expr} (hw : ∀ x, stB os x = true → x ∈ dn.N → dn.N.idxOf x ∈ ws) : QG X ws e (nameG dn os e) := by
  unfold nameG
  split
  · split
    · rename_i x p h
      simp only [Bool.and_eq_true, decide_eq_true_eq] at h
      obtain ⟨h1, h2⟩ := ok.st x h.1
      exact qg_name ok.nd (by rw [ok.hN]; exact h.2) h1 h2 (hw x h.1 (List.mem_of_getElem? h.2))
    · exact qg_bad
  · exact qg_bad
theorem names_ok (ok : XOk X W dn Γ sc os) {ws : List Nat} (hw : ∀ x, stB os x = true → x ∈ dn.N → dn.N.idxOf x ∈ ws) : ∀ {es : List Expr}, es.all notStar = true → QGs X ws es (namesGs dn os es)
  | [], _ => qgs_nil
  | e :: es, h => by
    simp only [List.all_cons, Bool.and_eq_true] at h
    exact qgs_cons (name_ok ok hw) (names_ok ok hw h.2) h.1
theorem gcons_bad {X : Cx} {ws : List Nat} {es : List Expr} : True := trivial
theorem tgt_ok (ok : XOk X W dn Γ sc os) {ws : List Nat} {e : Expr} (hw : ∀ x, stB os x = true → x ∈ dn.N → dn.N.idxOf x ∈ ws) : QG X ws e (tgtG dn os e) := by
  unfold tgtG
  split
  · rename_i es k p
    split
    · rename_i hs
      exact qg_tup ok.calm (names_ok ok hw hs) hs rfl
    · exact qg_bad
  · exact name_ok ok hw
theorem kL_ok {f : Expr → Den} (h : ∀ e, Snd X W e (f e)) : ∀ {es : List Expr}, es.all notStar = true → QK X W es (kL (es.map f))
  | [], _ => qk_nil
  | e :: es, hs => by
    simp only [List.all_cons, Bool.and_eq_true] at hs
    exact qk_cons (h e).v (kL_ok h hs.2) hs.1
theorem aL_ok {f : Expr → Den} (h : ∀ e, Snd X W e (f e)) : ∀ {es : List Expr}, es.all notStar = true → QA X W es (aL (es.map f))
  | [], _ => qa_nil
  | e :: es, hs => by
    simp only [List.all_cons, Bool.and_eq_true] at hs
    exact qa_cons (h e).o (aL_ok h hs.2) hs.1
theorem bv_ok {f : Expr → Den} (h : ∀ e, Snd X W e (f e)) (op : BoolOp) {pos : Pos} : ∀ (es : List Expr), QE X W (.BoolOp op es pos) (bv op (es.map f))
  | [] => qe_bad
  | [e] => qe_one (h e).v
  | e :: e2 :: es => by
    have q := bv_ok h op (pos := pos) (e2 :: es)
    cases op with
    | And => exact qe_and (h e).v q
    | Or => exact qe_or (h e).v q
theorem bt_ok {f : Expr → Den} (h : ∀ e, Snd X W e (f e)) (op : BoolOp) {pos : Pos} : ∀ (es : List Expr), es ≠ [] → QW X W (.BoolOp op es pos) (bt op (es.map f))
  | [], z => absurd rfl z
  | [e], _ => by
    cases op with
    | And => exact qw_and1 (h e).t
    | Or => exact qw_or1 (h e).t
  | e :: e2 :: es, _ => by
    have q := bt_ok h op (pos := pos) (e2 :: es) (by simp)
    cases op with
    | And => exact qw_and (h e).t q
    | Or => exact qw_or (h e).t q
theorem nofold {e : Expr} (h : ∀ es k p, e ≠ .Set es k p) (env : Env) (x : Value) : foldedSetIterable e env x = pure x := by
  cases e <;> first | rfl | exact absurd rfl (h _ _ _)
theorem denI_set {f : Expr → Den} {sc : Scope} {e : Expr} : (∃ es k p, e = .Set es k p) ∨ ∀ es k p, e ≠ .Set es k p := by
  cases e <;> first | exact .inl ⟨_, _, _, rfl⟩ | exact .inr (fun _ _ _ z => nomatch z)
theorem denI_ok (ok : XOk X W dn Γ sc os) {f : Expr → Den} (h : ∀ e, Snd X W e (f e)) {tg : Expr} (e : Expr) : QI X W tg e (denI f sc e) := by
  unfold denI
  split
  · rename_i fn p args pos
    split
    · rename_i hf
      subst hf
      split
      · rename_i hg
        simp only [Bool.and_eq_true] at hg
        have hgl : Gl X ("range" : Str) := gl_of (by rw [ok.sc]; exact hg.1)
        have hm := ok.blt "range" (.inr (.inr rfl))
        split
        · rename_i a
          have hs : notStar a = true := by simpa using hg.2
          exact qi_rng1 hgl hm (kL_ok h (es := [a]) hg.2) hs
        · rename_i a b
          have hs : notStar a = true ∧ notStar b = true := by simpa using hg.2
          exact qi_rng2 hgl hm (kL_ok h (es := [a, b]) hg.2) hs.1 hs.2
        · exact qi_bad
      · exact qi_bad
    · exact qi_seq (h _).v
  · exact qi_bad
  · exact qi_seq (h _).v
theorem plainIx_of {b : Expr} (h : plainIxB b = true) : PlainIx b := by
  intro o i
  cases b <;> first | rfl | cases h
theorem mth_ok {x : Str} {f : List D → List D → Option (D × List D)} (h : mthF x = some f) : ∃ id, Slot "list" x id ∧ typeOf (.builtin id) = pure (.type "method_descriptor") ∧ MthOk X id f := by
  unfold mthF at h
  split at h <;> cases h
  rename_i e
  subst e
  exact ⟨_, PySem.F.slot_list_append, PySem.F.type_list_append, mo_append⟩
theorem mth0_ok {x : Str} {f : List D → List D → Option (D × List D)} (h : mth0F x = some f) : ∃ id, Slot "list" x id ∧ typeOf (.builtin id) = pure (.type "method_descriptor") ∧ MthOk X id f := by
  unfold mth0F at h
  split at h <;> cases h
  rename_i e
  subst e
  exact ⟨_, PySem.F.slot_list_pop, PySem.F.type_list_pop, mo_pop⟩
theorem own_mem {N : List Str} {scope : Scope} {x : Str} (h : stB scope x = true) (hx : x ∈ N) : N.idxOf x ∈ (ownOf N scope).map (·.2) := by
  have hm : ∃ k, (x, k) ∈ scope.names := by
    unfold stB at h
    split at h
    · rename_i q; exact ⟨_, PySem.mem_of_lookup q⟩
    · rename_i q; exact ⟨_, PySem.mem_of_lookup q⟩
    · cases h
  obtain ⟨k, hk⟩ := hm
  unfold ownOf
  rw [List.map_map]
  refine List.mem_map.mpr ⟨(x, k), List.mem_filter.mpr ⟨hk, ?_⟩, rfl⟩
  simp [h, hx]
theorem glob_ok (ok : XOk X W dn Γ sc os) {x : Str} {pos : Pos} (hn : okName x = true) (hg : glB sc x = true) {d : D} (h : globD dn x = some d) : QE X W (.Name x pos) (dC d) := by
  obtain ⟨n1, n2, n3⟩ := okName_of hn
  have hgl : Gl X x := gl_of (by rw [ok.sc]; exact hg)
  unfold globD at h
  split at h
  · rename_i d' hl
    cases h
    obtain ⟨u, v, h1, h2, h3⟩ := ok.cst _ (PySem.mem_of_lookup hl)
    exact qe_glob hgl h1 h2 n1 h3
  · split at h
    · rename_i hf
      cases h
      obtain ⟨k, f, fd, ps, _, _, hm, _, _⟩ := (ok.fn x hf).ex
      exact qe_glob (v := .ref f) hgl hm rfl n1 (fun F => .fn hm)
    · obtain ⟨n, e1, e2⟩ := Option.map_eq_some_iff.mp h
      subst e2
      exact qe_c (pe_bltn (v := .ty n) hgl (ok.blt x (.inr (.inl (by rw [e1]; rfl)))) (ty_ok e1) rfl n3 n1) fun F => .ty n
end
theorem den_ok {dn : Dn} {Γ : Str → DSpec} : ∀ (n : Nat) {X : Cx} {W : WX} {sc os : Scope}, XOk X W dn Γ sc os → ∀ e, Snd X W e (den dn Γ n sc e)
  | 0, _, _, _, _, _, _ => .bad
  | n + 1, X, W, sc, os, ok, e => by
    have ih := fun e => den_ok n ok e
    unfold den
    split
    · -- Name
      rename_i x pos
      split
      · exact .bad
      · rename_i hn
        have hn : okName x = true := by simpa using hn
        obtain ⟨n1, n2, n3⟩ := okName_of hn
        split
        · rename_i hv
          simp only
          split
          · rename_i hi
            have hN : X.N[dn.N.idxOf x]? = some x := by rw [ok.hN]; exact hi
            have hV : Vis X.env.scope x := by rw [ok.sc]; exact vis_of hv
            exact ⟨qe_var hN hV n1 n2, qo_tok hN hV n1 n2, qt_tru (qo_tok hN hV n1 n2) (true_of rfl _)⟩
          · exact .bad
        · split
          · rename_i hg
            split
            · rename_i d hd
              exact .mk' (glob_ok ok hn hg hd) rfl
            · exact .bad
          · exact .bad
    · -- Constant
      rename_i c k pos
      split
      · rename_i d hd
        refine .mk' ?_ rfl
        cases c <;> simp only [constD] at hd <;> first
          | (cases hd; done)
          | (cases hd; exact qe_non)
          | (cases hd; exact qe_bl)
          | (cases hd; exact qe_int)
          | (split at hd <;> cases hd; rename_i hs; exact qe_str hs)
      · exact .bad
    · -- BinOp
      split
      · rename_i hf
        exact .mk' (qe_op (bop_ok hf) (ih _).o (ih _).o) rfl
      · exact .bad
    · exact .mk' (qe_un ur_neg (ih _).o) rfl
    · exact ⟨qe_not (ih _).o, qo_fz (qe_not (ih _).o), qt_not (ih _).t⟩
    · -- BoolOp
      rename_i op vs pos
      have q := bv_ok (f := den dn Γ n sc) ih op (pos := pos) vs
      refine ⟨q, qo_fz q, ?_⟩
      cases vs with
      | nil => exact qt_bad
      | cons v vs => exact qt_w (bt_ok (f := den dn Γ n sc) ih op (v :: vs) (by simp))
    · -- Compare
      split
      · exact .bad
      · rename_i hm
        have hm := Bool.eq_false_iff.mpr hm
        exact ⟨qe_cmp (cop_ok ok.hu _) (ih _).o (ih _).o hm, qo_fz (qe_cmp (cop_ok ok.hu _) (ih _).o (ih _).o hm), qt_cmp (cop_ok ok.hu _) (ih _).o (ih _).o hm⟩
    · split
      · exact .bad
      · rename_i hm
        have hm := Bool.eq_false_iff.mpr hm
        exact ⟨qe_chain (cop_ok ok.hu _) (cop_ok ok.hu _) (ih _).o (ih _).o (ih _).o hm, qo_fz (qe_chain (cop_ok ok.hu _) (cop_ok ok.hu _) (ih _).o (ih _).o (ih _).o hm), qt_chain (cop_ok ok.hu _) (cop_ok ok.hu _) (ih _).o (ih _).o (ih _).o hm⟩
    · exact ⟨qe_ifExp (ih _).t (ih _).v (ih _).v, qo_fz (qe_ifExp (ih _).t (ih _).v (ih _).v), qt_bad⟩
    · -- slice
      rename_i a lo hi p2 pos
      refine .mk' (qe_slice (ih _).o ?_ ?_) rfl
      · cases lo with
        | none => exact qp_none
        | some e => exact qp_some (ih e).v
      · cases hi with
        | none => exact qp_none
        | some e => exact qp_some (ih e).v
    · split
      · rename_i hp
        have := ok.hu
        exact .mk' (qe_ix (ir_ix (by omega)) (ih _).o (ih _).o (plainIx_of hp)) rfl
      · exact .bad
    · split
      · rename_i hs
        exact .mk' (qe_tup (kL_ok ih hs)) rfl
      · exact .bad
    · split
      · rename_i hs
        exact .mk' (qe_lst (kL_ok ih hs)) rfl
      · exact .bad
    · -- Call Name
      rename_i f p a args pos
      split
      · exact .bad
      · rename_i hc
        have hc : (okName f = true ∧ glB sc f = true) ∧ (a :: args).all notStar = true := by
          simp only [Bool.not_eq_true', Bool.eq_false_iff, ne_eq, Decidable.not_not, Bool.and_eq_true] at hc
          exact hc
        obtain ⟨n1, n2, n3⟩ := okName_of hc.1.1
        have hgl : Gl X f := gl_of (by rw [ok.sc]; exact hc.1.2)
        split
        · rename_i hf
          exact .mk' (qe_call (ok.fn f hf) ok.tk hgl (kL_ok (f := den dn Γ n sc) ih (es := a :: args) hc.2) n1 hc.2) rfl
        · split
          · rename_i g hg
            have hm := ok.blt f (.inl (by rw [hg]; rfl))
            rcases bi_ok (X := X) ok.calm hg with ⟨id, h1, h2⟩ | ⟨id, h1, h2⟩
            · exact .mk' (qe_bi h1 hgl hm h2 (aL_ok (f := den dn Γ n sc) ih (es := a :: args) hc.2) n3 n1 hc.2) rfl
            · exact .mk' (qe_ty h1 hgl hm h2 (aL_ok (f := den dn Γ n sc) ih (es := a :: args) hc.2) n3 n1 hc.2) rfl
          · exact .bad
    · -- method with arguments
      rename_i o name apos a args pos
      split
      · exact .bad
      · rename_i hc
        have hc : ((plainBase o = true ∧ (a :: args).all notStar = true) ∧ (a :: args).length < 30) ∧ (apos.endLine == pos.line) = true := by
          simp only [Bool.not_eq_true', Bool.eq_false_iff, ne_eq, Decidable.not_not, Bool.and_eq_true, decide_eq_true_eq] at hc
          exact hc
        split
        · rename_i g hg
          obtain ⟨id, h1, h2, h3⟩ := mth_ok (X := X) hg
          exact .mk' (qe_mth h1 h2 h3 (ih _).o (kL_ok (f := den dn Γ n sc) ih (es := a :: args) hc.1.1.2) hc.1.1.2 hc.1.2 hc.1.1.1 hc.2) rfl
        · exact .bad
    · rename_i o name apos pos
      split
      · exact .bad
      · rename_i hc
        have hc : plainBase o = true ∧ (apos.endLine == pos.line) = true := by
          simp only [Bool.not_eq_true', Bool.eq_false_iff, ne_eq, Decidable.not_not, Bool.and_eq_true] at hc
          exact hc
        split
        · rename_i g hg
          obtain ⟨id, h1, h2, h3⟩ := mth0_ok (X := X) hg
          exact .mk' (qe_mth0 h1 h2 h3 (ih _).o hc.1 hc.2) rfl
        · exact .bad
    · -- ListComp
      rename_i elt tg iter ifs scope pos
      simp only
      split
      · rename_i hb
        refine .mk' ?_ rfl
        rcases denI_set (f := den dn Γ n sc) (sc := sc) (e := iter) with ⟨es, k, p, rfl⟩ | hset
        · exact PE.never fun σ H Q ⟨_, _, _, _, _, _, h, _⟩ => h
        · refine qe_comp ok.calm ok.nd (denI_ok ok ih iter) (blkOk_by (by rw [ok.hN, ok.sc]; exact hb)) (fun s H C cl fp => tgt_ok (ok.blk s H scope C cl fp) fun x h1 h2 => own_mem h1 h2) (fun s H C cl fp => ?_) (fun s H C cl fp => (den_ok n (ok.blk s H scope C cl fp) elt).v) (nofold hset _)
          cases ifs with
          | nil => exact qts_nil
          | cons c cs =>
            cases cs with
            | nil => exact qts_one (den_ok n (ok.blk s H scope C cl fp) c).t
            | cons c2 cs => exact ⟨fun _ _ _ _ _ _ ⟨_, _, _, _, _, _, h, _⟩ => h.elim⟩
      · exact .bad
    · exact .bad

/-! ### statements -/
section
variable {X : Cx} {W : WX} {dn : Dn} {Γ : Str → DSpec} {sc : Scope}
theorem ret_ok (ok : XOk X W dn Γ sc sc) {f : Expr → Den} (h : ∀ e, Snd X W e (f e)) (e : Expr) : QE X W e (retD dn f sc e) := by
  unfold retD
  split
  · rename_i x p
    split
    · rename_i hc
      simp only [Bool.and_eq_true, decide_eq_true_eq] at hc
      obtain ⟨n1, n2, n3⟩ := okName_of hc.1.1
      exact qe_move (by rw [ok.hN]; exact hc.2) (by rw [ok.sc]; exact vis_of hc.1.2) n1 n2
    · exact (h _).v
  · exact (h _).v
theorem blk_ok {f : Stmt → DS} (h : ∀ s, QS X W s (f s)) : ∀ ss : List Stmt, QSs X W ss ((ss.map f).foldr sSeq sNil)
  | [] => qs_nil
  | s :: ss => qs_cons (h s) (blk_ok h ss)
theorem swaps_iff (ok : XOk X W dn Γ sc sc) (hk : X.env.scope.kind = .function) (elt : Expr) (gs : List Comprehension) (scope : Scope) (cpos : Pos) (x : Str) (p : Pos) (l : Nat) :
    swapsWith (.ListComp elt gs scope cpos) (some (.Name x p)) l X.env = pure true ∧ X.env.scope.names.lookup x = some .local ∨ swapsWith (.ListComp elt gs scope cpos) (some (.Name x p)) l X.env = pure false := by
  have e : swapsWith (.ListComp elt gs scope cpos) (some (.Name x p)) l X.env = pure (X.env.blockKind == .function && X.env.kindOf x == some .local && p.line == cpos.line && !(scope.names.any fun (n, k) => n == x && (k == .local || k == .cell))) := rfl
  rw [e]
  cases hb : (X.env.blockKind == .function && X.env.kindOf x == some .local && p.line == cpos.line && !(scope.names.any fun (n, k) => n == x && (k == .local || k == .cell))) with
  | false => exact .inr rfl
  | true =>
    refine .inl ⟨rfl, ?_⟩
    simp only [Bool.and_eq_true] at hb
    exact eq_of_beq hb.1.1.2
end
theorem set_never {X : Cx} {W : WX} {s : Stmt} {m i : Nat} : QS X W s (sSet m i fE) := ⟨fun _ _ _ _ _ _ ⟨_, _, _, _, _, h, _⟩ => h.elim⟩
theorem set_ok {dn : Dn} {Γ : Str → DSpec} {X : Cx} {W : WX} {sc : Scope} (ok : XOk X W dn Γ sc sc) (hk : X.env.scope.kind = .function) {m : Nat} {x : Str} {p pos : Pos} (e : Expr) (hN : X.N[dn.N.idxOf x]? = some x)
    (h1 : L2.Loc X.env.scope x) (h2 : X.fn x = true ∨ X.env.scope.names.lookup x = some .local) (n : Nat) : QS X W (.Assign [.Name x p] e pos) (sSet m (dn.N.idxOf x) (den dn Γ (n + 1) sc e).v) := by
  have plain : swapsWith e (some (.Name x p)) pos.line X.env = pure false → QS X W (.Assign [.Name x p] e pos) (sSet m (dn.N.idxOf x) (den dn Γ (n + 1) sc e).v) := fun hs => qs_set ok.nd hN h1 (den_ok (n + 1) ok e).v hs h2
  cases e with
  | ListComp elt gs scope cpos =>
    rcases swaps_iff ok hk elt gs scope cpos x p pos.line with ⟨hs, hl⟩ | hs
    · unfold den
      split
      all_goals try (rename_i hh; cases hh; done)
      all_goals try (exact set_never)
      rename_i elt' tg iter ifs scope' pos' hh
      cases hh
      simp only
      split
      · rename_i hb
        rcases denI_set (f := den dn Γ n sc) (sc := sc) (e := iter) with ⟨es, k, p, rfl⟩ | hset
        · exact ⟨fun _ _ _ _ _ _ ⟨_, _, _, _, _, h, _⟩ => h.elim⟩
        · refine qs_setComp ok.calm ok.nd hN hl hs (denI_ok ok (fun e => den_ok n ok e) iter) (blkOk_by (by rw [ok.hN, ok.sc]; exact hb)) (fun s H C cl fp => tgt_ok (ok.blk s H scope C cl fp) fun x h1 h2 => own_mem h1 h2) (fun s H C cl fp => ?_) (fun s H C cl fp => (den_ok n (ok.blk s H scope C cl fp) elt).v) (nofold hset _)
          cases ifs with
          | nil => exact qts_nil
          | cons c cs =>
            cases cs with
            | nil => exact qts_one (den_ok n (ok.blk s H scope C cl fp) c).t
            | cons c2 cs => exact ⟨fun _ _ _ _ _ _ ⟨_, _, _, _, _, _, h, _⟩ => h.elim⟩
      · exact set_never
    · exact plain hs
  | SetComp elt gs scope cpos => exact set_never
  | DictComp k v gs scope cpos => exact set_never
  | _ => exact plain rfl
theorem denS_ok {dn : Dn} {Γ : Str → DSpec} {X : Cx} {W : WX} {sc : Scope} (ok : XOk X W dn Γ sc sc) (po : PassesOwn (model X.prog X.w) X.A X.env X.xe) (hk : X.env.scope.kind = .function) : ∀ (n : Nat) (s : Stmt), QS X W s (denS dn Γ n sc s)
  | 0, _ => qs_bad
  | n + 1, s => by
    have ih := blk_ok (denS_ok ok po hk n)
    have ex := fun e => den_ok (dn := dn) (Γ := Γ) 40 ok e
    have hw : ∀ x, stB sc x = true → x ∈ dn.N → dn.N.idxOf x ∈ List.range dn.N.length := fun x _ h => by
      rw [List.mem_range]; exact List.idxOf_lt_length_of_mem h
    unfold denS
    simp only
    split
    · exact qs_doc
    · split
      · rename_i hn
        exact qs_expr (ex _).v hn
      · exact qs_bad
    · exact qs_retN
    · exact qs_ret (ret_ok ok ex _)
    · exact qs_if (ex _).t (ih _) (ih _)
    · exact qs_pass
    · exact qs_cont
    · rename_i x p e pos
      split
      · rename_i hc
        simp only [Bool.and_eq_true, decide_eq_true_eq] at hc
        obtain ⟨h1, h2⟩ := ok.st x hc.1
        have hN : X.N[dn.N.idxOf x]? = some x := by rw [ok.hN]; exact hc.2
        exact set_ok ok hk _ hN h1 h2 39
      · exact qs_bad
    · rename_i o i p e pos
      split
      · rename_i hc
        simp only [Bool.and_eq_true] at hc
        exact qs_put (ex _).v (ex _).o (ex _).v hc.1 (by
          intro v
          have h2 := hc.2
          cases i <;> first | rfl | cases h2)
      · exact qs_bad
    · rename_i ts k p e pos
      split
      · rename_i hc
        simp only [Bool.and_eq_true] at hc
        refine qs_asg (ex _).v (tgt_ok ok hw) hc.1.1 ?_ rfl
        have h2 := hc.1.2
        cases e <;> first | rfl | cases h2
      · exact qs_bad
    · rename_i tg iter body pos
      rcases denI_set (f := den dn Γ 40 sc) (sc := sc) (e := iter) with ⟨es, k, p, rfl⟩ | hset
      · exact ⟨fun _ _ _ _ _ _ ⟨_, _, _, _, _, h, _⟩ => h.elim⟩
      · exact qs_for po ok.calm (denI_ok ok ex iter) (tgt_ok ok hw) (ih _) (nofold hset _)
    · exact qs_while po (ex _).t (ih _)
    · exact qs_bad
end DL
/-! the D layer, 11: defs, the law -/
namespace DL
open PySem PySem.Spec L2
def Sub (S' S : Sto) : Prop := ∀ a o, S' a = some o → S a = some o
theorem Sub.refl {S : Sto} : Sub S S := fun _ _ h => h
theorem Sub.put {S S' : Sto} {a : Addr} {u : DO} (h : Sub S S') (ha : S' a = none) : Sub S (S'.put a u) := fun b o q => by
  rw [Sto.put_ne (fun z => by subst z; have := h b o q; rw [ha] at this; cases this)]; exact h b o q
/-- a def's ends: what was made and is not told is forgotten -/
def fnEnds (Q : D → Sto → Prop) (E : Exn → Sto → Prop) : DEnds where
  nx := fun st => ∃ S', Sub S' st.sto ∧ Q .non S'
  rt := fun d S => ∃ S', Sub S' S ∧ Q d S'
  ct := fun _ => False
  ex := fun x st => ∃ S', Sub S' st.sto ∧ E x S'
def startE (n : Nat) (ds : List D) : List (Option D) := ds.map some ++ List.replicate (n - ds.length) none
/-- a def that may be called, at a level up to k -/
structure CalleeK (P : Program) (w : World) (K : PySem.W.Frag) (mg : Str → Option Value) (base : Heap) (k : Nat) (x : Str) (sp : DSpec) : Prop where
  ex : ∃ j f fd ps, j ≤ k ∧ FnOk P w K mg base (L2.CX P w) j f fd ps (LSp K mg sp) ∧ mg x = some (.ref f) ∧ PySem.W.keepIn K (.ref f) = true ∧ Binds K fd ps []
structure Mods (K : PySem.W.Frag) (mg : Str → Option Value) (dn : Dn) : Prop where
  cst : ∀ p ∈ dn.cs, ∃ u v, mg p.1 = some u ∧ RelV v u ∧ ∀ F, RepV K mg F p.2 v
  blt : ∀ x, (biF x).isSome = true ∨ (tyF x).isSome = true ∨ x = ("range" : Str) → mg x = none
theorem start_rep {K : PySem.W.Frag} {mg : Str → Option Value} {F H : Hp} {T S : Sto} {ds : List D} {vs : List V} {N : List Str} (R : RepSto K mg F T H S) (r : RepVs K mg F ds vs) : Rep K mg F T H ⟨startE N.length ds, S⟩ (L2.start N vs) := by
  have hl := r.length
  have key : ∀ (i : Nat) (d : D), (startE N.length ds)[i]? = some (some d) → ds[i]? = some d ∧ i < ds.length := fun i d h => by
    unfold startE at h
    by_cases hi : i < ds.length
    · rw [List.getElem?_append_left (by simpa using hi), List.getElem?_map] at h
      cases e : ds[i]? with
      | none => rw [e] at h; cases h
      | some d' => rw [e] at h; cases h; exact ⟨rfl, hi⟩
    · rw [List.getElem?_append_right (by simpa using hi), List.getElem?_replicate] at h
      split at h <;> cases h
  have own : ∀ (i : Nat) (d : D), (startE N.length ds)[i]? = some (some d) → isOwn d = false := fun i d h => by
    obtain ⟨v, _, r2⟩ := r.get (key i d h).1
    exact r2.notOwn
  refine ⟨R, fun i d h => ?_, fun i j d e a h1 h2 => (by rw [own i d h1] at h2; cases h2), ?_⟩
  · obtain ⟨h1, h2⟩ := key i d h
    obtain ⟨v, h3, h4⟩ := r.get h1
    refine ⟨v, ?_, h4.toQ (st := ⟨[], S⟩)⟩
    unfold L2.start
    rw [List.getElem?_append_left (by rw [List.length_map, ← hl]; exact h2), List.getElem?_map, h3]
    rfl
  · unfold startE L2.start
    simp only [List.length_append, List.length_map, List.length_replicate, hl]
theorem fn_D {P : Program} {w : World} {K : PySem.W.Frag} {mg : Str → Option Value} {base : Heap} {x qual : Str} {st : Stmt} {f : Addr} {fd : FuncData} {ps : List Str} {k n : Nat} {sp : DSpec} {dn : Dn} {Γ : Str → DSpec} (F : Fun K x qual st f fd)
    (S : FnScope dn.N ps (defScope st)) (len : ∀ ds S Q E, sp ds S Q E → ds.length = ps.length) (fn : ∀ g ∈ dn.fns, CalleeK P w K mg base k g (Γ g)) (M : Mods K mg dn)
    (body : ∀ ds S Q E, sp ds S Q E → denB dn Γ n (defScope st) (defBody st) (fnEnds Q E) ⟨startE dn.N.length ds, S⟩) : FnOk P w K mg base (L2.CX P w) (k + 1) f fd ps (LSp K mg sp) := by
  refine F.okX S (fun vs H Q E ⟨F, T, S, ds, Qd, Ed, R, r, h, _⟩ => by rw [← r.length]; exact len ds S Qd Ed h) fun cdv A outer s H vs Q E hr h => ?_
  obtain ⟨F0, T0, S0, ds, Qd, Ed, R, r, h, cq, ce⟩ := h
  have tk : Takes (cxOf (L2.CX P w) P w K mg base dn.N qual (defScope st) f cdv A outer s H E) (fun cls d _ H => E cls d H) := takes_of rfl rfl rfl rfl
  have ok : XOk (cxOf (L2.CX P w) P w K mg base dn.N qual (defScope st) f cdv A outer s H E) (fun cls d _ H => E cls d H) dn Γ (defScope st) (defScope st) :=
    ⟨rfl, S.nd, rfl, rfl, hr.units, tk, fun g hg => by
      obtain ⟨j, a, fd', ps', hj, h1, h2, h3, h4⟩ := (fn g hg).ex
      exact ⟨j, a, fd', ps', h1, hr.mono hj, h2, h3, h4⟩, M.cst, M.blt, fun y hy => by
      refine ⟨?_, .inl rfl⟩
      unfold stB at hy
      split at hy
      · exact .inl (by assumption)
      · exact .inr (by assumption)
      · cases hy⟩
  refine ⟨_, blk_ok (denS_ok ok (passes_of rfl) S.kind n) (defBody st), ?_⟩
  refine ⟨F0, T0, _, _, start_rep R r, body ds S0 Qd Ed h, ?_⟩
  refine ⟨fun F' T' H' st' σ' g R' ⟨S', hs, q⟩ => cq F' T' H' S' .non .non g (R'.toRepSto.weak hs) (show RepV K mg F' .non .non from .non) q, fun F' T' H' st' σ' g R' q => q.elim, fun F' T' H' S1 d v g R' r' ⟨S', hs, q⟩ => cq F' T' H' S' d v g (R'.weak hs) ?_ q,
    fun y st' σ' F' T' H' cls dd g R' r' ⟨S', hs, q⟩ => ce F' T' H' S' y cls dd g (R'.toRepSto.weak hs) r' q⟩
  cases d with
  | own ds => obtain ⟨a, h1, h2, h3⟩ := r'; exact ⟨a, h1, h2, not_none fun z => by obtain ⟨o, ho⟩ := ne_none z; rw [hs a o ho] at h3; cases h3⟩
  | owd ds => obtain ⟨a, h1, h2, h3⟩ := r'; exact ⟨a, h1, h2, not_none fun z => by obtain ⟨o, ho⟩ := ne_none z; rw [hs a o ho] at h3; cases h3⟩
  | _ => exact r'
/-- the law's own promise -/
def lawSp : DSpec := fun ds S Q _ => ∃ ns : List Int, ds = [.lst (ns.map .int)] ∧ ns.length ≤ 63 ∧ Q (.bl true) S
theorem ints_rep {K : PySem.W.Frag} {mg : Str → Option Value} {F : Hp} : ∀ ns : List Int, RepVs K mg F (ns.map .int) (ns.map V.int)
  | [] => .nil
  | n :: ns => .cons (.int n) (ints_rep ns)
theorem law_sp {K : PySem.W.Frag} {mg : Str → Option Value} {H : Hp} {a : Addr} {ns : List Int} (hl : ns.length ≤ 63) (h : SqL K H a (ns.map V.int)) : LSp K mg lawSp [.ref a] H (fun v _ => v = .bl true) fun _ _ _ => False := by
  have hz : (ns.map D.int).length ≤ sizeLine := by rw [List.length_map]; exact Nat.le_trans hl (by decide)
  refine ⟨H, fun _ => none, fun _ => none, [.lst (ns.map .int)], fun d _ => d = .bl true, fun _ _ => False, ⟨fun _ _ h => .inl h, fun _ _ h => (by cases h), fun _ _ h => (by cases h)⟩, .cons (.lst hz h (ints_rep ns)) .nil, ⟨ns, rfl, hl, rfl⟩,
    fun F' T' H' S' d v g R r q => ?_, fun F' T' H' S' x cls dd g R r q => q⟩
  subst q
  cases r
  rfl
end DL
/-! the D layer, 12: one step of a reading -/
namespace DL
open PySem L2
section
variable {n : DSt → Prop} {r : D → Sto → Prop} {ct : DSt → Prop} {ex : PX} {st : DSt} {env : List (Option D)} {S : Sto} {t u : DS} {a b c : DE} {T U : DT} {Q : PQ} {QB : Bool → DSt → Prop} {QL : List D → DSt → Prop} {X : PX} {d : D} {i m : Nat} {f g : D → D → Option D} {f1 : D → Option D} {ts : DA} {fl : List D → Option D} {sp : DSpec}
theorem opt_i {α : Type} {o : Option α} {x : α} {k : α → Prop} (h : o = some x) (hk : k x) : opt o k := by rw [h]; exact hk
theorem x_nil (h : n st) : sNil ⟨n, r, ct, ex⟩ st := h
theorem x_seq (h : t ⟨u ⟨n, r, ct, ex⟩, r, ct, ex⟩ st) : sSeq t u ⟨n, r, ct, ex⟩ st := h
theorem x_drop (h : a st (fun _ st1 => n st1) ex) : sDrop a ⟨n, r, ct, ex⟩ st := h
theorem x_ret (h : a st (fun d st1 => opt (some d) fun d => opt (some st1.sto) fun S => r d S) ex) : sRet a ⟨n, r, ct, ex⟩ st := h
theorem x_retN (h : opt (some st.sto) fun S => r .non S) : sRetN ⟨n, r, ct, ex⟩ st := h
theorem x_cont (h : ct st) : sCont ⟨n, r, ct, ex⟩ st := h
theorem x_if (h : T st (fun b st1 => if b = true then t ⟨n, r, ct, ex⟩ st1 else u ⟨n, r, ct, ex⟩ st1) ex) : sIf T t u ⟨n, r, ct, ex⟩ st := h
theorem x_set (h : a st (fun d st1 => opt (some d) fun d => setSlot m i d st1 n) ex) : sSet m i a ⟨n, r, ct, ex⟩ st := h
theorem x_set0 {k : DSt → Prop} (h : opt (some (env.set i (some (fz d)))) fun e => k ⟨e, S⟩) : setSlot 0 i d ⟨env, S⟩ k := h
theorem x_set1 {k : DSt → Prop} (h : opt (some (env.set i (some d))) fun e => k ⟨e, S⟩) : setSlot 1 i d ⟨env, S⟩ k := h
theorem x_set2 {k : DSt → Prop} {ds : List D} (h : ∀ p, S p = none → opt (some (env.set i (some (.ref p)))) fun e => k ⟨e, S.put p (.lst ds)⟩) : setSlot 2 i (.own ds) ⟨env, S⟩ k := h
theorem x_set2d {k : DSt → Prop} {ds : List D} (h : ∀ p, S p = none → opt (some (env.set i (some (.ref p)))) fun e => k ⟨e, S.put p (.dic ds)⟩) : setSlot 2 i (.owd ds) ⟨env, S⟩ k := h
theorem x_put (h : dFz a st (fun d st1 => opt (some d) fun d => b st1 (fun x st2 => dFz c st2 (fun k st3 => opt (lstAt st3 x) fun ds => opt (intD k) fun m => opt (ixN ds.length m) fun j => opt (some (lstPut st3 x (ds.set j d))) fun st' => n st') ex) ex) ex) : sPut a b c ⟨n, r, ct, ex⟩ st := h
theorem x_asg {G : DG} (h : a st (fun d st1 => opt (some (fz d)) fun d => G d st1 n) ex) : sAsg a G ⟨n, r, ct, ex⟩ st := h
theorem x_tok (h : opt env[i]? fun o => opt o fun _ => Q (.slot i) ⟨env, S⟩) : dTok i ⟨env, S⟩ Q X := by
  obtain ⟨o, h1, h2⟩ := opt_elim h
  obtain ⟨d, h3, h4⟩ := opt_elim h2
  subst h3
  unfold dTok; rw [h1]; exact h4
theorem x_var (h : opt env[i]? fun o => opt o fun d => if isOwn d = true then opt (some (env.set i (some (fz d)))) fun e => Q (fz d) ⟨e, S⟩ else Q d ⟨env, S⟩) : dVar i ⟨env, S⟩ Q X := by
  obtain ⟨o, h1, h2⟩ := opt_elim h
  obtain ⟨d, h3, h4⟩ := opt_elim h2
  subst h3
  unfold dVar; rw [h1]; exact h4
theorem x_move (h : opt env[i]? fun o => opt o fun d => opt (some (env.set i none)) fun e => Q d ⟨e, S⟩) : dMove i ⟨env, S⟩ Q X := by
  obtain ⟨o, h1, h2⟩ := opt_elim h
  obtain ⟨d, h3, h4⟩ := opt_elim h2
  subst h3
  unfold dMove; rw [h1]; exact h4
theorem x_c (k : Q d st) : dC d st Q X := k
theorem x_fz (h : a st (fun d st' => opt (some (fz d)) fun d => Q d st') X) : dFz a st Q X := h
theorem x_op1 (h : a st (fun x st1 => opt (res st1 x) fun x' => opt (f1 x') fun r => Q r st1) X) : dOp1 f1 a st Q X := h
theorem x_op2 (h : a st (fun x st1 => b st1 (fun y st2 => opt (res st2 x) fun x' => opt (res st2 y) fun y' => opt (f x' y') fun r => Q r st2) X) X) : dOp2 f a b st Q X := h
theorem x_anil (h : QL [] st) : aNil st QL X := h
theorem x_acons (h : a st (fun x st1 => ts st1 (fun xs st2 => QL (x :: xs) st2) X) X) : aCons a ts st QL X := h
theorem x_knil (h : QL [] st) : kNil st QL X := h
theorem x_kcons (h : a st (fun x st1 => opt (some (fz x)) fun x => ts st1 (fun xs st2 => QL (x :: xs) st2) X) X) : kCons a ts st QL X := h
theorem x_tup (h : ts st (fun xs st1 => xs.length ≤ 1000 ∧ Q (.tup xs) st1) X) : dTup ts st Q X := h
theorem x_lst (h : ts st (fun xs st1 => xs.length ≤ 1000 ∧ Q (.own xs) st1) X) : dLst ts st Q X := h
theorem x_bi (h : ts st (fun xs st1 => opt (ress st1 xs) fun ys => opt (fl ys) fun r => Q r st1) X) : dBi fl ts st Q X := h
theorem x_call (h : ts st (fun xs st1 => opt (some st1.sto) fun S1 => opt (some st1.env) fun e => sp xs S1 (fun r S' => Q r ⟨e, S'⟩) (fun x S' => X x ⟨e, S'⟩)) X) : dCall sp ts st Q X := h
theorem opt_isSome {α : Type} {o : Option α} {P : Prop} (h : opt o fun _ => P) : o.isSome = true ∧ P := by
  obtain ⟨x, h1, h2⟩ := opt_elim h
  rw [h1]; exact ⟨rfl, h2⟩
theorem x_mth {fm : List D → List D → Option (D × List D)} (h : ∀ k : D → DSt → Prop, (∀ x st1, k x st1 = opt (lstAt st1 x) fun _ => ts st1 (fun xs st2 => opt (lstAt st2 x) fun ds => opt (fm ds xs) fun r => opt (some r.1) fun d => opt (some (lstPut st2 x r.2)) fun st3 => Q d st3) X) → a st k X) : dMth fm a ts st Q X := by
  unfold dMth
  have := h (fun x st1 => (lstAt st1 x).isSome = true ∧ ts st1 (fun xs st2 => opt (lstAt st2 x) fun ds => opt (fm ds xs) fun r => Q r.1 (lstPut st2 x r.2)) X) (fun x st1 => ?_)
  · exact this
  · refine propext ⟨fun ⟨h1, h2⟩ => ?_, fun h => ?_⟩
    · cases e : lstAt st1 x with
      | none => rw [e] at h1; cases h1
      | some ds => exact h2
    · exact opt_isSome h
theorem x_mthT {fm : List D → List D → Option (D × List D)} (h : opt env[i]? fun o => opt o fun _ => opt (lstAt ⟨env, S⟩ (.slot i)) fun _ => ts ⟨env, S⟩ (fun xs st2 => opt (lstAt st2 (.slot i)) fun ds => opt (fm ds xs) fun r => opt (some r.1) fun d => opt (some (lstPut st2 (.slot i) r.2)) fun st3 => Q d st3) X) : dMth fm (dTok i) ts ⟨env, S⟩ Q X :=
  x_mth fun k hk => x_tok (by
    obtain ⟨o, h1, h2⟩ := opt_elim h
    obtain ⟨d, h3, h4⟩ := opt_elim h2
    rw [h1, h3]
    show k _ _
    rw [hk]
    exact h4)
theorem x_tru (h : a st (fun x st1 => opt (res st1 x) fun x' => opt (truD x') fun b => QB b st1) X) : dTru a st QB X := h
theorem x_tst (h : a st (fun x st1 => opt (blD x) fun b => QB b st1) X) : dTst a st QB X := h
theorem x_tnot (h : T st (fun b st1 => opt (some (!b)) fun b => QB b st1) X) : tNotD T st QB X := h
theorem x_tand (h : T st (fun b st1 => if b = true then U st1 QB X else QB false st1) X) : tAndD T U st QB X := h
theorem x_tor (h : T st (fun b st1 => if b = true then QB true st1 else U st1 QB X) X) : tOrD T U st QB X := h
theorem x_tyes (h : QB true st) : tYesD st QB X := h
theorem x_not (h : dTru a st (fun b st1 => opt (some (!b)) fun b => Q (.bl b) st1) X) : dNot a st Q X := h
theorem x_and (h : a st (fun x st1 => opt (some (fz x)) fun x => opt (truD x) fun k => if k = true then b st1 Q X else Q x st1) X) : dAnd a b st Q X := h
theorem x_or (h : a st (fun x st1 => opt (some (fz x)) fun x => opt (truD x) fun k => if k = true then Q x st1 else b st1 Q X) X) : dOr a b st Q X := h
theorem x_ifx (h : T st (fun k st1 => if k = true then a st1 Q X else b st1 Q X) X) : dIf T a b st Q X := h
theorem x_chain (h : a st (fun x st1 => b st1 (fun y st2 => opt (res st2 x) fun x' => opt (res st2 y) fun y' => opt (f x' y') fun r => opt (blD r) fun k =>
  if k = true then c st2 (fun z st3 => opt (res st3 y) fun y' => opt (res st3 z) fun z' => opt (g y' z') fun r => Q r st3) X else Q (.bl false) st2) X) X) : dChain f g a b c st Q X := h
theorem x_sl {lo hi : DPt} (h : a st (fun x st1 => lo st1 (fun l st2 => hi st2 (fun h st3 => opt (res st3 x) fun x' => opt (sliceD x' l h) fun r => Q r st3) X) X) X) : dSl a lo hi st Q X := h
theorem x_nopt {QP : Option Int → DSt → Prop} (h : QP none st) : dNoPt st QP X := h
theorem x_pt {QP : Option Int → DSt → Prop} (h : a st (fun x st1 => opt (intD x) fun i => QP (some i) st1) X) : dPt a st QP X := h
theorem x_gname {k : DSt → Prop} (h : opt (some (env.set i (some d))) fun e => k ⟨e, S⟩) : DL.gName i d ⟨env, S⟩ k := h
theorem x_for {it : DI} {G : DG} (h : it st (fun ds chk st1 => ds.length ≤ sizeLine → forD G t chk ds ⟨n, r, ct, ex⟩ st1) ex) : sFor it G t ⟨n, r, ct, ex⟩ st := h
theorem x_rng {fr : List D → Option (Int × Nat)} {QI : List D → (Sto → Prop) → DSt → Prop} (h : ts st (fun ds st1 => opt (fr ds) fun r => opt (some r.1) fun lo => opt (some r.2) fun m => QI (rngD lo m) (fun _ => True) st1) X) : iRng fr ts st QI X := h
theorem x_comp {it : DI} {G : DG} {own : List Nat} (h : it st (fun ds chk st1 => opt (some (wipeE st1.env own)) fun e => compD G T a own chk ds [] ⟨e, st1.sto⟩ fun acc st2 => opt (some (backE st1.env st2.env own)) fun e' => Q (.own acc) ⟨e', st2.sto⟩) X) : dComp it G T a own st Q X := h
theorem x_true {A B : Prop} (h : A) : if true = true then A else B := by rw [if_pos rfl]; exact h
theorem x_false {A B : Prop} (h : B) : if false = true then A else B := by rw [if_neg Bool.false_ne_true]; exact h
theorem Sub.put0 {S S' : Sto} {a : Addr} {u : DO} (h : Sub S S') (ha : S a = none) : Sub S (S'.put a u) := fun b o q => by
  rw [Sto.put_ne (fun z => by subst z; rw [ha] at q; cases q)]; exact h b o q
/-- both ways go on alike -/
theorem x_join {c : Bool} (P : DSt → Prop) (h1 : ∀ nx : DSt → Prop, (∀ st', P st' → nx st') → if c = true then t ⟨nx, r, ct, ex⟩ st else u ⟨nx, r, ct, ex⟩ st) (h2 : ∀ st', P st' → n st') :
    if c = true then t ⟨n, r, ct, ex⟩ st else u ⟨n, r, ct, ex⟩ st := h1 _ h2
theorem x_cut (P : DSt → Prop) (h1 : ∀ nx : DSt → Prop, (∀ st', P st' → nx st') → t ⟨nx, r, ct, ex⟩ st) (h2 : ∀ st', P st' → n st') : t ⟨n, r, ct, ex⟩ st := h1 _ h2
/-- what is walked -/
def itD (d : D) (st : DSt) (QI : List D → (Sto → Prop) → DSt → Prop) : Prop := match d with
  | .tup ds => QI ds (fun _ => True) st
  | .lst ds => QI ds (fun _ => True) st
  | .str s => s.length ≤ sizeLine ∧ QI (sgnD s) (fun _ => True) st
  | .ref a => match st.sto a with
    | some (.lst ds) => QI ds (fun S => S a = some (.lst ds)) st
    | _ => False
  | _ => False
theorem x_iseq {QI : List D → (Sto → Prop) → DSt → Prop} (h : a st (fun d st1 => opt (some (fz d)) fun d => itD d st1 QI) X) : iSeq a st QI X := h
theorem it_tup {QI : List D → (Sto → Prop) → DSt → Prop} {ds : List D} (h : QI ds (fun _ => True) st) : itD (.tup ds) st QI := h
theorem it_lst {QI : List D → (Sto → Prop) → DSt → Prop} {ds : List D} (h : QI ds (fun _ => True) st) : itD (.lst ds) st QI := h
theorem it_str {QI : List D → (Sto → Prop) → DSt → Prop} {s : Str} (h : s.length ≤ sizeLine ∧ QI (sgnD s) (fun _ => True) st) : itD (.str s) st QI := h
theorem it_ref {QI : List D → (Sto → Prop) → DSt → Prop} {p : Addr} {ds : List D} (hp : S p = some (.lst ds)) (h : QI ds (fun S => S p = some (.lst ds)) ⟨env, S⟩) : itD (.ref p) ⟨env, S⟩ QI := by
  show (match S p with
    | some (.lst ds) => QI ds (fun S => S p = some (.lst ds)) ⟨env, S⟩
    | _ => False)
  rw [hp]; exact h
theorem rng_mem {lo : Int} {m k : Nat} {d : D} (h : (rngD lo m)[k]? = some d) : d = .int (lo + k) ∧ k < m := by
  unfold rngD at h
  rw [List.getElem?_map] at h
  by_cases hk : k < m
  · rw [List.getElem?_range hk] at h
    cases h; exact ⟨rfl, hk⟩
  · rw [List.getElem?_eq_none (by simpa using hk)] at h; cases h
theorem rng_len {lo : Int} {m : Nat} : (rngD lo m).length = m := by unfold rngD; simp
theorem x_ifT {c : Bool} {A B : Prop} (hc : c = true) (h : A) : if c = true then A else B := by rw [if_pos hc]; exact h
theorem x_ifF {c : Bool} {A B : Prop} (hc : c = false) (h : B) : if c = true then A else B := by subst hc; rw [if_neg Bool.false_ne_true]; exact h
theorem x_dec {p : Prop} [Decidable p] {A B : Prop} (h1 : p → A) (h2 : ¬ p → B) : if decide p = true then A else B := by
  by_cases h : p
  · rw [if_pos (decide_eq_true h)]; exact h1 h
  · rw [if_neg (by simpa using h)]; exact h2 h
theorem x_ndec {p : Prop} [Decidable p] {A B : Prop} (h1 : ¬ p → A) (h2 : p → B) : if (!decide p) = true then A else B := by
  by_cases h : p
  · rw [if_neg (by simpa using h)]; exact h2 h
  · rw [if_pos (by simpa using h)]; exact h1 h
theorem x_start {t : DS} {Q : D → Sto → Prop} {E : Exn → Sto → Prop} {n : Nat} {ds : List D} (he : startE n ds = env)
    (h : t ⟨fun st => ∃ S', Sub S' st.sto ∧ Q .non S', fun d S => ∃ S', Sub S' S ∧ Q d S', fun _ => False, fun x st => ∃ S', Sub S' st.sto ∧ E x S'⟩ ⟨env, S⟩) : t (fnEnds Q E) ⟨startE n ds, S⟩ := by subst he; exact h
/-- a walk: what holds ahead of turn k -/
theorem for_inv {G : DG} {chk : Sto → Prop} {ds : List D} (I : Nat → DSt → Prop) (h0 : I 0 st) (hc : ∀ k st, k ≤ ds.length → I k st → chk st.sto)
    (step : ∀ k d st (nx : DSt → Prop), ds[k]? = some d → I k st → (∀ st', I (k + 1) st' → nx st') → G d st fun st1 => t ⟨nx, r, nx, ex⟩ st1) (hend : ∀ st, I ds.length st → n st) : forD G t chk ds ⟨n, r, ct, ex⟩ st := by
  have key : ∀ (es : List D) (k : Nat) (st : DSt), es = ds.drop k → k ≤ ds.length → I k st → forD G t chk es ⟨n, r, ct, ex⟩ st := by
    intro es
    induction es with
    | nil =>
      intro k st he hk hi
      have : k = ds.length := by
        have := congrArg List.length he
        simp only [List.length_nil, List.length_drop] at this
        omega
      subst this
      exact ⟨hc _ _ (Nat.le_refl _) hi, hend _ hi⟩
    | cons e es ih =>
      intro k st he hk hi
      have hk' : k < ds.length := by
        have := congrArg List.length he
        simp only [List.length_cons, List.length_drop] at this
        omega
      have h1 : ds[k]? = some e ∧ es = ds.drop (k + 1) := by
        rw [List.drop_eq_getElem_cons hk'] at he
        injection he with h1 h2
        exact ⟨by rw [List.getElem?_eq_getElem hk', h1], h2⟩
      refine ⟨hc _ _ hk hi, step k e st _ h1.1 hi fun st' hi' => ih (k + 1) st' h1.2 hk' hi'⟩
  exact key ds 0 st (by simp) (Nat.zero_le _) h0
/-- a comprehension: what holds ahead of turn k -/
theorem comp_inv {G : DG} {chk : Sto → Prop} {own : List Nat} {ds : List D} {QL : List D → DSt → Prop} (I : Nat → List D → DSt → Prop) (h0 : I 0 [] st) (hc : ∀ k acc st, k ≤ ds.length → I k acc st → chk st.sto)
    (step : ∀ k d acc st (nx : List D → DSt → Prop), ds[k]? = some d → I k acc st → (∀ acc' st', I (k + 1) acc' st' → nx acc' st') →
      G d st fun st1 => T st1 (fun b st2 => if b = true then a st2 (fun y st3 => nx (acc ++ [fz y]) { st3 with env := wipeE st3.env own }) (fun _ _ => False) else nx acc { st2 with env := wipeE st2.env own }) (fun _ _ => False))
    (hend : ∀ acc st, I ds.length acc st → QL acc st) : compD G T a own chk ds [] st QL := by
  have key : ∀ (es : List D) (k : Nat) (acc : List D) (st : DSt), es = ds.drop k → k ≤ ds.length → I k acc st → compD G T a own chk es acc st QL := by
    intro es
    induction es with
    | nil =>
      intro k acc st he hk hi
      have : k = ds.length := by
        have := congrArg List.length he
        simp only [List.length_nil, List.length_drop] at this
        omega
      subst this
      exact ⟨hc _ _ _ (Nat.le_refl _) hi, hend _ _ hi⟩
    | cons e es ih =>
      intro k acc st he hk hi
      have hk' : k < ds.length := by
        have := congrArg List.length he
        simp only [List.length_cons, List.length_drop] at this
        omega
      have h1 : ds[k]? = some e ∧ es = ds.drop (k + 1) := by
        rw [List.drop_eq_getElem_cons hk'] at he
        injection he with h1 h2
        exact ⟨by rw [List.getElem?_eq_getElem hk', h1], h2⟩
      refine ⟨hc _ _ _ hk hi, step k e acc st (fun acc st => compD G T a own chk es acc st QL) h1.1 hi fun acc' st' hi' => ih (k + 1) acc' st' h1.2 hk' hi'⟩
  exact key ds 0 [] st (by simp) (Nat.zero_le _) h0
/-- a comprehension whose turns change nothing else: f says what each puts there -/
theorem comp_pure {G : DG} {chk : Sto → Prop} {own : List Nat} {ds : List D} {QL : List D → DSt → Prop} (f : D → Option D) (hc : chk st.sto)
    (step : ∀ (k : Nat) (d : D) (acc : List D) (nx : List D → DSt → Prop), ds[k]? = some d → nx (acc ++ (f d).toList) st →
      G d st fun st1 => T st1 (fun b st2 => if b = true then a st2 (fun y st3 => nx (acc ++ [fz y]) { st3 with env := wipeE st3.env own }) (fun _ _ => False) else nx acc { st2 with env := wipeE st2.env own }) (fun _ _ => False))
    (hend : QL (ds.filterMap f) st) : compD G T a own chk ds [] st QL := by
  refine comp_inv (fun k acc st' => acc = (ds.take k).filterMap f ∧ st' = st) ⟨by simp, rfl⟩ (fun k acc st' _ h => by rw [h.2]; exact hc) ?_ ?_
  · rintro k d acc st' nx hd ⟨rfl, rfl⟩ hn
    refine step k d _ nx hd (hn _ _ ⟨?_, rfl⟩)
    have hk : k < ds.length := by
      rcases Nat.lt_or_ge k ds.length with h | h
      · exact h
      · rw [List.getElem?_eq_none h] at hd; cases hd
    rw [List.getElem?_eq_getElem hk] at hd
    cases hd
    rw [List.take_succ_eq_append_getElem hk, List.filterMap_append]
    cases h : f ds[k] <;> simp [h]
  · rintro acc st' ⟨rfl, rfl⟩
    rw [List.take_length]; exact hend
theorem x_while (I : Nat → DSt → Prop) (m : Nat) (h0 : I m st)
    (step : ∀ m st (nx : DSt → Prop), I m st → (∀ m' st', m' < m → I m' st' → nx st') → T st (fun k st1 => if k = true then t ⟨nx, r, nx, ex⟩ st1 else n st1) ex) : sWhile T t ⟨n, r, ct, ex⟩ st :=
  ⟨I, ⟨m, h0⟩, fun m st hi => step m st _ hi fun m' st' hl hi' => ⟨m', hl, hi'⟩⟩
theorem eqD_eqv {a b : D} (h1 : a.ok = true) (h2 : b.ok = true) (h3 : a.deep ≤ 64) : eqD a b = some (.bl (eqv a b)) := by
  unfold eqD
  rw [h1, h2, if_pos (by simp [h3])]
theorem neD_eqv {a b : D} (h1 : a.ok = true) (h2 : b.ok = true) (h3 : a.deep ≤ 64) : neD a b = some (.bl (!eqv a b)) := by
  unfold neD
  rw [h1, h2, if_pos (by simp [h3])]
theorem eqv_int {a b : Int} : eqv (.int a) (.int b) = decide (a = b) := by
  unfold eqv
  simp only [D.py, PyData.eqv]
  by_cases h : a = b <;> simp [h]
theorem eqv_str {a b : Str} : eqv (.str a) (.str b) = decide (a = b) := by
  unfold eqv
  simp only [D.py, PyData.eqv]
  by_cases h : a = b <;> simp [h]
theorem eqv_bl {a b : Bool} : eqv (.bl a) (.bl b) = (a == b) := by
  unfold eqv
  simp only [D.py, PyData.eqv]
theorem eqD_int {a b : Int} : eqD (.int a) (.int b) = some (.bl (decide (a = b))) := by rw [eqD_eqv rfl rfl (Nat.zero_le _), eqv_int]
theorem neD_int {a b : Int} : neD (.int a) (.int b) = some (.bl (!decide (a = b))) := by rw [neD_eqv rfl rfl (Nat.zero_le _), eqv_int]
theorem eqD_str {a b : Str} : eqD (.str a) (.str b) = some (.bl (decide (a = b))) := by rw [eqD_eqv rfl rfl (Nat.zero_le _), eqv_str]
theorem neD_str {a b : Str} : neD (.str a) (.str b) = some (.bl (!decide (a = b))) := by rw [neD_eqv rfl rfl (Nat.zero_le _), eqv_str]
theorem eqD_bl {a b : Bool} : eqD (.bl a) (.bl b) = some (.bl (a == b)) := by rw [eqD_eqv rfl rfl (Nat.zero_le _), eqv_bl]
theorem neD_bl {a b : Bool} : neD (.bl a) (.bl b) = some (.bl (!(a == b))) := by rw [neD_eqv rfl rfl (Nat.zero_le _), eqv_bl]
mutual
theorem ok_py : ∀ {d : D}, d.ok = true → PyData.eqv d.py d.py = true
  | .non, _ => by simp only [D.py, PyData.eqv]
  | .bl b, _ => by simp [D.py, PyData.eqv]
  | .int b, _ => by simp [D.py, PyData.eqv]
  | .str b, _ => by simp [D.py, PyData.eqv]
  | .tup xs, h => by simp only [D.py, PyData.eqv]; exact oks_py (by simpa only [D.ok] using h)
  | .lst xs, h => by simp only [D.py, PyData.eqv]; exact oks_py (by simpa only [D.ok] using h)
  | .dic _, h => by simp [D.ok] at h
  | .ref _, h => by simp [D.ok] at h
  | .fn _, h => by simp [D.ok] at h
  | .ty _, h => by simp [D.ok] at h
  | .own _, h => by simp [D.ok] at h
  | .owd _, h => by simp [D.ok] at h
  | .slot _, h => by simp [D.ok] at h
theorem oks_py : ∀ {ds : List D}, oks ds = true → PyData.eqvAll (pys ds) (pys ds) = true
  | [], _ => by simp only [pys, PyData.eqvAll]
  | d :: ds, h => by
    simp only [oks, Bool.and_eq_true] at h
    simp only [pys, PyData.eqvAll, Bool.and_eq_true]
    exact ⟨ok_py h.1, oks_py h.2⟩
end
theorem eqv_same {d : D} (h : d.ok = true) : eqv d d = true := ok_py h
theorem oks_map {α : Type} {f : α → D} (h : ∀ x, (f x).ok = true) : ∀ xs : List α, oks (xs.map f) = true
  | [] => rfl
  | x :: xs => by simp only [List.map_cons, oks, h, oks_map h xs, Bool.and_self]
theorem deeps_map {α : Type} {f : α → D} {n : Nat} (h : ∀ x, (f x).deep ≤ n) : ∀ xs : List α, deeps (xs.map f) ≤ n
  | [] => Nat.zero_le _
  | x :: xs => by simp only [List.map_cons, deeps]; exact Nat.max_le.2 ⟨h x, deeps_map h xs⟩
theorem eqD_same {d : D} (h : d.ok = true) (hd : d.deep ≤ 64) : eqD d d = some (.bl true) := by
  unfold eqD eqv
  rw [h, ok_py h, if_pos (by simp [hd])]
theorem neD_same {d : D} (h : d.ok = true) (hd : d.deep ≤ 64) : neD d d = some (.bl false) := by
  unfold neD eqv
  rw [h, ok_py h, if_pos (by simp [hd])]
  rfl
theorem small_of {i : Int} (h1 : -(2 ^ 64) < i) (h2 : i < 2 ^ 64) : small i = true := by
  unfold small; exact decide_eq_true ⟨h1, h2⟩
theorem small_emod {a b : Int} (h1 : 0 < b) (h2 : b ≤ 2 ^ 64) : small (a % b) = true :=
  small_of (Int.lt_of_lt_of_le (by decide) (Int.emod_nonneg a (Int.ne_of_gt h1))) (Int.lt_of_lt_of_le (Int.emod_lt_of_pos a h1) h2)
theorem castN {n : Nat} : ((no_index (OfNat.ofNat n) : Nat) : Int) = OfNat.ofNat n := rfl
theorem small_lit {n : Nat} : small (no_index (OfNat.ofNat n)) = decide (n < 2 ^ 64) := by
  unfold small
  have : ((OfNat.ofNat n : Int)) = (n : Int) := rfl
  rw [this]
  congr 1
  refine propext ⟨fun h => by omega, fun h => by omega⟩
theorem append_ok {ds : List D} {x : D} (h : ds.length ≤ 1000000) : appendD ds [x] = some (.non, ds ++ [x]) := by
  show (if ds.length < sizeLine then some (D.non, ds ++ [x]) else none) = _
  rw [if_pos (Nat.lt_of_le_of_lt h (by decide))]
theorem rng1_ok {i : Int} (h0 : 0 ≤ i) (h1 : i ≤ 16777216) : rngOf1 [.int i] = some (0, i.toNat) := by
  show (if i ≤ 16777216 ∧ -(2 ^ 62) ≤ i then some ((0 : Int), i.toNat) else none) = _
  rw [if_pos ⟨h1, Int.le_trans (by decide) h0⟩]
theorem oks_forall : ∀ {xs : List D}, (∀ x ∈ xs, x.ok = true) → oks xs = true
  | [], _ => rfl
  | x :: xs, h => by
    simp only [oks, Bool.and_eq_true]
    exact ⟨h x (List.mem_cons_self ..), oks_forall fun y hy => h y (List.mem_cons_of_mem _ hy)⟩
theorem deeps_le {n : Nat} : ∀ {xs : List D}, (∀ x ∈ xs, x.deep ≤ n) → deeps xs ≤ n
  | [], _ => Nat.zero_le _
  | x :: xs, h => by
    simp only [deeps]
    exact Nat.max_le.2 ⟨h x (List.mem_cons_self ..), deeps_le fun y hy => h y (List.mem_cons_of_mem _ hy)⟩
end
end DL
/-! the D layer, 13: the law's promise, the head's facts -/
namespace DL
open PySem PySem.Spec L2
def BIS : List Str := ["len", "tuple", "list", "max", "min", "int", "all", "any", "isinstance", "str", "bool", "dict", "range"]
theorem blt_of {mg : Str → Option Value} (hz : ∀ x ∈ BIS, mg x = none) : ∀ x, (biF x).isSome = true ∨ (tyF x).isSome = true ∨ x = ("range" : Str) → mg x = none := by
  intro x h
  by_cases hx : x ∈ BIS
  · exact hz x hx
  · exfalso
    simp only [BIS, List.mem_cons, List.not_mem_nil, or_false, not_or] at hx
    simp only [biF, tyF, hx, if_false, Option.isSome_none, Bool.false_eq_true, or_self] at h
theorem mods_of {K : PySem.W.Frag} {mg : Str → Option Value} {dn : Dn} (hc : dn.cs = []) (hz : ∀ x ∈ BIS, mg x = none) : Mods K mg dn := ⟨(by rw [hc]; intro p hp; cases hp), blt_of hz⟩
theorem hz_of {K : PySem.W.Frag} {h : Heap} {mg : Str → Option Value} (X : K.In h) (G : h.Ns mainGlobals mg) (z0 : PySem.W.nsIn K mainGlobals "len" = some none) (z1 : PySem.W.nsIn K mainGlobals "tuple" = some none) (z2 : PySem.W.nsIn K mainGlobals "list" = some none) (z3 : PySem.W.nsIn K mainGlobals "max" = some none) (z4 : PySem.W.nsIn K mainGlobals "min" = some none) (z5 : PySem.W.nsIn K mainGlobals "int" = some none) (z6 : PySem.W.nsIn K mainGlobals "all" = some none) (z7 : PySem.W.nsIn K mainGlobals "any" = some none) (z8 : PySem.W.nsIn K mainGlobals "isinstance" = some none) (z9 : PySem.W.nsIn K mainGlobals "str" = some none) (z10 : PySem.W.nsIn K mainGlobals "bool" = some none) (z11 : PySem.W.nsIn K mainGlobals "dict" = some none) (z12 : PySem.W.nsIn K mainGlobals "range" = some none) : ∀ x ∈ BIS, mg x = none := by
  intro x hx
  unfold BIS at hx
  rcases List.mem_cons.1 hx with rfl | hx
  · exact PySem.W.mg_none_of X G z0
  rcases List.mem_cons.1 hx with rfl | hx
  · exact PySem.W.mg_none_of X G z1
  rcases List.mem_cons.1 hx with rfl | hx
  · exact PySem.W.mg_none_of X G z2
  rcases List.mem_cons.1 hx with rfl | hx
  · exact PySem.W.mg_none_of X G z3
  rcases List.mem_cons.1 hx with rfl | hx
  · exact PySem.W.mg_none_of X G z4
  rcases List.mem_cons.1 hx with rfl | hx
  · exact PySem.W.mg_none_of X G z5
  rcases List.mem_cons.1 hx with rfl | hx
  · exact PySem.W.mg_none_of X G z6
  rcases List.mem_cons.1 hx with rfl | hx
  · exact PySem.W.mg_none_of X G z7
  rcases List.mem_cons.1 hx with rfl | hx
  · exact PySem.W.mg_none_of X G z8
  rcases List.mem_cons.1 hx with rfl | hx
  · exact PySem.W.mg_none_of X G z9
  rcases List.mem_cons.1 hx with rfl | hx
  · exact PySem.W.mg_none_of X G z10
  rcases List.mem_cons.1 hx with rfl | hx
  · exact PySem.W.mg_none_of X G z11
  rcases List.mem_cons.1 hx with rfl | hx
  · exact PySem.W.mg_none_of X G z12
  cases hx
section
variable {P : Program} {w : World} {K : PySem.W.Frag} {mg : Str → Option Value} {base : Heap}
theorem CalleeK.mono {j k : Nat} {x : Str} {sp : DSpec} (c : CalleeK P w K mg base j x sp) (h : j ≤ k) : CalleeK P w K mg base k x sp := by
  obtain ⟨i, f, fd, ps, h1, h2⟩ := c.ex
  exact ⟨⟨i, f, fd, ps, Nat.le_trans h1 h, h2⟩⟩
theorem callee_of {x qual : Str} {st : Stmt} {f : Addr} {fd : FuncData} {ps : List Str} {k n : Nat} {sp : DSpec} {dn : Dn} {Γ : Str → DSpec} (F : Fun K x qual st f fd) (B : Binds K fd ps []) (hm : mg x = some (.ref f))
    (S : FnScope dn.N ps (defScope st)) (len : ∀ ds S Q E, sp ds S Q E → ds.length = ps.length) (fn : ∀ g ∈ dn.fns, CalleeK P w K mg base k g (Γ g)) (M : Mods K mg dn)
    (body : ∀ ds S Q E, sp ds S Q E → denB dn Γ n (defScope st) (defBody st) (fnEnds Q E) ⟨startE dn.N.length ds, S⟩) : CalleeK P w K mg base (k + 1) x sp :=
  ⟨⟨k + 1, f, fd, ps, Nat.le_refl _, fn_D F S len fn M body, hm, F.kp, B⟩⟩
end
/-- what the law is asked, without the module's names -/
def lawS (K : PySem.W.Frag) : Sp := fun vs H Q _ => ∃ (a : Addr) (ns : List Int), vs = [.ref a] ∧ ns.length ≤ 63 ∧ SqL K H a (ns.map V.int) ∧ ∀ H', Q (.bl true) H'
theorem lawS_sp {K : PySem.W.Frag} {mg : Str → Option Value} {vs : List V} {H : Hp} {Q : VK} {E : XK} (h : lawS K vs H Q E) : LSp K mg lawSp vs H Q E := by
  obtain ⟨a, ns, rfl, hl, h, hq⟩ := h
  have hz : (ns.map D.int).length ≤ sizeLine := by rw [List.length_map]; exact Nat.le_trans hl (by decide)
  refine ⟨H, fun _ => none, fun _ => none, [.lst (ns.map .int)], fun d _ => d = .bl true, fun _ _ => False, ⟨fun _ _ h => .inl h, fun _ _ h => (by cases h), fun _ _ h => (by cases h)⟩, .cons (.lst hz h (ints_rep ns)) .nil, ⟨ns, rfl, hl, rfl⟩,
    fun F' T' H' S' d v g R r q => ?_, fun F' T' H' S' x cls dd g R r q => q.elim⟩
  subst q
  cases r
  exact hq _
theorem law_len {x : Str} : ∀ ds S Q E, lawSp ds S Q E → ds.length = [x].length := by
  rintro ds S Q E ⟨ns, rfl, _⟩; rfl
theorem walkD {l : PySem.W.OpenLaw} {k : Nat} {q : Program} {loose : List Str} {XP : (Str → Option Value) → Heap → Prop} {YP : World → Heap → Prop} {d : DefRec} {K : Params → PySem.W.Frag} {x : Str}
    (hn : l.most = some 63) (hdf : d.params.defaults = []) (hr : Room k callerA)
    (hY : ∀ (w : World) (h : Heap), YP w h → (K w.params).In h)
    (F : ∀ (w : World) (mg : Str → Option Value) (fa : Addr) (h : Heap), (K w.params).In h → h.Ns mainGlobals mg → mg d.name = some (.ref fa) →
      ∃ fd : FuncData, (∀ (s : Shared) (u : Value), BindsTo s fd ⟨[u], []⟩ [(x, u)]) ∧
        ∀ base : Heap, (K w.params).In base → base.Ns mainGlobals mg → FnOk l.prog w (K w.params) mg base (L2.CX l.prog w) k fa fd [x] (LSp (K w.params) mg lawSp)) :
    PySem.W.WalkO q loose XP YP l.row.toRowW d [] (fun f vs => PySem.call f vs) :=
  walk_of (n := 63) (k := k) (x := x) (CX := fun w => L2.CX l.prog w) (sp := fun w => lawS (K w.params)) hn (by decide) hdf hr hY
    (fun w mg fa h h1 h2 h3 => by
      obtain ⟨fd, hb, hF⟩ := F w mg fa h h1 h2 h3
      exact ⟨fd, hb, fun base b1 b2 => (hF base b1 b2).imp fun vs H Q E q => lawS_sp q⟩)
    (fun w H a ns hl _ hS => ⟨a, ns, rfl, hl, hS, fun _ => rfl⟩)
    fun w H s e s' c => by
      obtain ⟨_, _, _, _, _, _, _, _, _, _, _, _, q⟩ := c
      exact q
end DL
set_option maxHeartbeats 4000000
namespace K03
open PySem L2 DL
def top (i : Nat) : Stmt := PySem.Challenge.pw_makes_k03_longs.main.body.getD i (.Pass ⟨0, 0, 0, 0⟩)
abbrev s_long_of : Stmt := top 1
def dn_long_of : Dn := ⟨["n", "figures"], [], [], [("figures", 1)]⟩
def t_long_of (Γ : Str → DSpec) : DS :=
  (sSeq (sSet 1 1 (dLst kNil))
    (sSeq (sWhile (dTst (dOp2 geD (dTok 0) (dFz (dC (.int 128))))) (sSeq (sDrop (dMth appendD (dTok 1) (kCons (dOp2 addD (dFz (dOp2 modD (dTok 0) (dFz (dC (.int 128))))) (dFz (dC (.int 128)))) kNil)))
    (sSeq (sSet 0 0 (dOp2 fdivD (dTok 0) (dFz (dC (.int 128)))))
    sNil)))
    (sSeq (sDrop (dMth appendD (dTok 1) (kCons (dVar 0) kNil)))
    (sSeq (sRet (dBi tupleD (aCons (dTok 1) aNil)))
    sNil))))
theorem den_long_of (Γ : Str → DSpec) : denB dn_long_of Γ 20 (defScope s_long_of) (defBody s_long_of) = t_long_of Γ := by kernel_rfl
theorem sc_long_of : FnScope dn_long_of.N ["n"] (defScope s_long_of) := ⟨rfl, rfl, rfl, by decide +kernel, rfl, by decide +kernel, by decide +kernel⟩
abbrev s__law_feed : Stmt := top 3
def dn__law_feed : Dn := ⟨["_law_script", "_law_k", "_law_cell"], [], [], []⟩
def t__law_feed (Γ : Str → DSpec) : DS :=
  (sSeq (sIf (dTst (dOp2 eqD (dFz (dBi lenD (aCons (dTok 0) aNil))) (dFz (dC (.int 0))))) (sSeq (sRet (dLst (kCons (dC (.int 0)) (kCons (dC (.int 0)) (kCons (dVar 1) (kCons (dC (.int 0)) kNil))))))
    sNil) sNil)
    (sSeq (sSet 0 2 (dOp2 ixD' (dTok 0) (dFz (dOp2 modD (dTok 1) (dFz (dBi lenD (aCons (dTok 0) aNil)))))))
    (sSeq (sRet (dLst (kCons (dBi maxD (aCons (dFz (dC (.int 0))) (aCons (dFz (dOp2 subD (dTok 2) (dFz (dOp2 powD (dFz (dC (.int 10))) (dFz (dC (.int 18))))))) aNil))) (kCons (dVar 2) (kCons (dVar 1) (kCons (dC (.int 0)) kNil))))))
    sNil)))
theorem den__law_feed (Γ : Str → DSpec) : denB dn__law_feed Γ 20 (defScope s__law_feed) (defBody s__law_feed) = t__law_feed Γ := by kernel_rfl
theorem sc__law_feed : FnScope dn__law_feed.N ["_law_script", "_law_k"] (defScope s__law_feed) := ⟨rfl, rfl, rfl, by decide +kernel, rfl, by decide +kernel, by decide +kernel⟩
abbrev s__law_draw : Stmt := top 4
def dn__law_draw : Dn := ⟨["_law_feed_here", "_law_many", "_law_figure", "_law_number"], [], [], []⟩
def t__law_draw (Γ : Str → DSpec) : DS :=
  (sSeq (sPut (dOp2 addD (dFz (dOp2 ixD' (dTok 0) (dFz (dC (.int 3))))) (dFz (dC (.int 1)))) (dTok 0) (dC (.int 3)))
    (sSeq (sIf (dTst (dOp2 gtD (dFz (dOp2 ixD' (dTok 0) (dFz (dC (.int 0))))) (dFz (dC (.int 0))))) (sSeq (sSet 0 2 (dOp2 modD (dFz (dOp2 ixD' (dTok 0) (dFz (dC (.int 0))))) (dTok 1)))
    (sSeq (sPut (dOp2 fdivD (dFz (dOp2 ixD' (dTok 0) (dFz (dC (.int 0))))) (dTok 1)) (dTok 0) (dC (.int 0)))
    (sSeq (sRet (dMove 2))
    sNil))) sNil)
    (sSeq (sSet 0 3 (dOp2 modD (dFz (dOp2 addD (dFz (dOp2 addD (dFz (dOp2 ixD' (dTok 0) (dFz (dC (.int 1))))) (dFz (dOp2 mulD (dFz (dC (.int 7919))) (dFz (dOp2 ixD' (dTok 0) (dFz (dC (.int 2))))))))) (dFz (dOp2 mulD (dFz (dC (.int 104729))) (dFz (dOp2 ixD' (dTok 0) (dFz (dC (.int 3))))))))) (dFz (dC (.int 2147483629)))))
    (sSeq (sSet 0 3 (dOp2 modD (dFz (dOp2 addD (dFz (dOp2 addD (dFz (dOp2 mulD (dTok 3) (dTok 3))) (dFz (dOp2 mulD (dFz (dC (.int 48271))) (dTok 3))))) (dFz (dOp2 ixD' (dTok 0) (dFz (dC (.int 2))))))) (dFz (dC (.int 2147483629)))))
    (sSeq (sSet 0 3 (dOp2 modD (dFz (dOp2 addD (dFz (dOp2 addD (dFz (dOp2 mulD (dTok 3) (dTok 3))) (dFz (dOp2 mulD (dFz (dC (.int 69621))) (dTok 3))))) (dFz (dOp2 ixD' (dTok 0) (dFz (dC (.int 3))))))) (dFz (dC (.int 2147483587)))))
    (sSeq (sRet (dOp2 modD (dTok 3) (dTok 1)))
    sNil))))))
theorem den__law_draw (Γ : Str → DSpec) : denB dn__law_draw Γ 20 (defScope s__law_draw) (defBody s__law_draw) = t__law_draw Γ := by kernel_rfl
theorem sc__law_draw : FnScope dn__law_draw.N ["_law_feed_here", "_law_many"] (defScope s__law_draw) := ⟨rfl, rfl, rfl, by decide +kernel, rfl, by decide +kernel, by decide +kernel⟩
abbrev s__law_long : Stmt := top 5
def dn__law_long : Dn := ⟨["_law_n", "_law_found"], [], [], [("_law_found", 1)]⟩
def t__law_long (Γ : Str → DSpec) : DS :=
  (sSeq (sSet 1 1 (dLst (kCons (dOp2 modD (dTok 0) (dFz (dC (.int 128)))) kNil)))
    (sSeq (sWhile (dTst (dOp2 gtD (dTok 0) (dFz (dC (.int 127))))) (sSeq (sPut (dOp2 addD (dFz (dOp2 ixD' (dTok 1) (dFz (dOp1 negD (dFz (dC (.int 1))))))) (dFz (dC (.int 128)))) (dTok 1) (dOp1 negD (dFz (dC (.int 1)))))
    (sSeq (sSet 0 0 (dOp2 fdivD (dTok 0) (dFz (dC (.int 128)))))
    (sSeq (sDrop (dMth appendD (dTok 1) (kCons (dOp2 modD (dTok 0) (dFz (dC (.int 128)))) kNil)))
    sNil))))
    (sSeq (sRet (dBi tupleD (aCons (dTok 1) aNil)))
    sNil)))
theorem den__law_long (Γ : Str → DSpec) : denB dn__law_long Γ 20 (defScope s__law_long) (defBody s__law_long) = t__law_long Γ := by kernel_rfl
theorem sc__law_long : FnScope dn__law_long.N ["_law_n"] (defScope s__law_long) := ⟨rfl, rfl, rfl, by decide +kernel, rfl, by decide +kernel, by decide +kernel⟩
abbrev s_law : Stmt := top 6
def dn_law : Dn := ⟨["_law_script", "_law_k", "_law_feed_here", "_law_n", "_law_j", "_law_found", "_law_byte"], ["_law_feed", "_law_draw", "long_of", "_law_long"], [], [("_law_feed_here", 2)]⟩
def t_law (Γ : Str → DSpec) : DS :=
  (sSeq (sFor (iRng rngOf1 (kCons (dC (.int 20)) kNil)) (DL.gName 1) (sSeq (sSet 2 2 (dCall (Γ "_law_feed") (kCons (dVar 0) (kCons (dVar 1) kNil))))
    (sSeq (sSet 0 3 (dOp2 mulD (dFz (dCall (Γ "_law_draw") (kCons (dVar 2) (kCons (dOp2 powD (dFz (dC (.int 10))) (dFz (dC (.int 9)))) kNil)))) (dFz (dOp2 ixD' (dFz (dLst (kCons (dC (.int 1)) (kCons (dOp2 powD (dFz (dC (.int 10))) (dFz (dC (.int 8)))) (kCons (dOp2 powD (dFz (dC (.int 10))) (dFz (dC (.int 9)))) (kCons (dOp2 powD (dFz (dC (.int 10))) (dFz (dC (.int 20)))) (kCons (dOp2 powD (dFz (dC (.int 10))) (dFz (dC (.int 31)))) kNil))))))) (dFz (dCall (Γ "_law_draw") (kCons (dVar 2) (kCons (dC (.int 5)) kNil))))))))
    (sSeq (sIf (dTst (dOp2 eqD (dFz (dCall (Γ "_law_draw") (kCons (dVar 2) (kCons (dC (.int 2)) kNil)))) (dFz (dC (.int 0))))) (sSeq (sSet 0 3 (dC (.int 1)))
    (sSeq (sFor (iRng rngOf1 (kCons (dCall (Γ "_law_draw") (kCons (dVar 2) (kCons (dC (.int 19)) kNil))) kNil)) (DL.gName 4) (sSeq (sSet 0 3 (dOp2 mulD (dTok 3) (dFz (dC (.int 128)))))
    sNil))
    (sSeq (sSet 0 3 (dBi maxD (aCons (dFz (dC (.int 0))) (aCons (dFz (dOp2 subD (dFz (dOp2 addD (dTok 3) (dFz (dCall (Γ "_law_draw") (kCons (dVar 2) (kCons (dC (.int 3)) kNil)))))) (dFz (dC (.int 1))))) aNil))))
    sNil))) sNil)
    (sSeq (sSet 0 5 (dCall (Γ "long_of") (kCons (dVar 3) kNil)))
    (sSeq (sIf (tOrD (tNotD (dTru (dFz (dBi isiD (aCons (dTok 5) (aCons (dFz (dC (.ty "tuple"))) aNil)))))) (dTst (dOp2 neD (dTok 5) (dFz (dCall (Γ "_law_long") (kCons (dVar 3) kNil)))))) (sSeq (sRet (dC (.bl false)))
    sNil) sNil)
    (sSeq (sIf (dTst (dOp2 neD (dFz (dComp (iSeq (dVar 5)) (DL.gName 6) (tOrD (dTru (dFz (dBi isiD (aCons (dTok 6) (aCons (dFz (dC (.ty "bool"))) aNil))))) (tNotD (dTst (dChain leD leD (dFz (dC (.int 0))) (dTok 6) (dFz (dC (.int 255))))))) (dVar 6) [6])) (dFz (dLst kNil)))) (sSeq (sRet (dC (.bl false)))
    sNil) sNil)
    sNil)))))))
    (sSeq (sRet (dOp2 eqD (dFz (dCall (Γ "long_of") (kCons (dC (.int 0)) kNil))) (dFz (dTup (kCons (dC (.int 0)) kNil)))))
    sNil))
theorem den_law (Γ : Str → DSpec) : denB dn_law Γ 20 (defScope s_law) (defBody s_law) = t_law Γ := by kernel_rfl
theorem sc_law : FnScope dn_law.N ["_law_script"] (defScope s_law) := ⟨rfl, rfl, rfl, by decide +kernel, rfl, by decide +kernel, by decide +kernel⟩
end K03
namespace K03
open PySem L2 DL
local macro_rules
  | `(tactic| walk_at "s") => `(tactic| simp only [res, ress, Option.map_some, Option.bind_some, deref, fz, isOwn, ixD', ixD, L2.ixN, lstAt, lstPut, List.length_cons, List.length_nil, List.set_cons_zero, List.set_cons_succ, List.getElem?_cons_zero, List.getElem?_cons_succ, intD, blD, truD, addD, subD, modD, mulD, fdivD, powD, negD, ltD, leD, gtD, geD, lenD, tupleD, listD, maxD, minD, absD, appendD, popD, eqD_int, neD_int, eqD_str, neD_str, eqD_bl, neD_bl, rngOf1, rngOf2, wipeE, backE, Sto.put_same, small_emod, small_of, Bool.or_true, Bool.true_or, decide_true, Int.reduceLT, Int.reduceLE, Int.reduceGT, Int.reduceGE, Int.reducePow, Int.reduceAdd, Int.reduceSub, Int.reduceMul, Int.reduceNeg, Int.reduceToNat, Int.reduceEq, Int.reduceMod, Int.reduceDiv, Int.cast_ofNat_Int, Nat.reducePow, Nat.reduceAdd, Nat.reduceLT, Nat.reduceLeDiff, Nat.reduceEqDiff, reduceIte, if_pos, and_self, and_true, true_and, *])
local macro_rules
  | `(tactic| walk_at "d") => `(tactic| repeat (first
      | ((with_reducible apply opt_i); focus (first | (simp only [res, ress, Option.map_some, Option.bind_some, deref, fz, isOwn, ixD', ixD, L2.ixN, lstAt, lstPut, List.length_cons, List.length_nil, List.set_cons_zero, List.set_cons_succ, List.getElem?_cons_zero, List.getElem?_cons_succ, intD, blD, truD, addD, subD, modD, mulD, fdivD, powD, negD, ltD, leD, gtD, geD, lenD, tupleD, listD, maxD, minD, absD, appendD, popD, eqD_int, neD_int, eqD_str, neD_str, eqD_bl, neD_bl, rngOf1, rngOf2, wipeE, backE, Sto.put_same, small_emod, small_of, Bool.or_true, Bool.true_or, decide_true, Int.reduceLT, Int.reduceLE, Int.reduceGT, Int.reduceGE, Int.reducePow, Int.reduceAdd, Int.reduceSub, Int.reduceMul, Int.reduceNeg, Int.reduceToNat, Int.reduceEq, Int.reduceMod, Int.reduceDiv, Int.cast_ofNat_Int, Nat.reducePow, Nat.reduceAdd, Nat.reduceLT, Nat.reduceLeDiff, Nat.reduceEqDiff, reduceIte, if_pos, and_self, and_true, true_and, *]; (with_reducible rfl)) | (with_reducible rfl) | rfl))
      | (with_reducible first | refine x_seq ?_ | refine x_set ?_ | refine x_set0 ?_ | refine x_set1 ?_ | refine x_op2 ?_ | refine x_tok ?_ | refine x_fz ?_ | refine x_c ?_ | refine x_acons ?_ | refine x_kcons ?_ | refine x_anil ?_ | refine x_knil ?_ | refine x_bi ?_ | refine x_tst ?_ | refine x_if ?_ | refine x_op1 ?_ | refine x_var ?_ | refine x_move ?_ | refine x_put ?_ | refine x_call ?_ | refine x_ret ?_ | refine x_drop ?_ | refine x_nil ?_ | refine x_retN ?_ | refine x_cont ?_ | refine x_tup ?_ | refine x_lst ?_ | refine x_mthT ?_ | refine x_tru ?_ | refine x_tnot ?_ | refine x_tor ?_ | refine x_tand ?_ | refine x_tyes ?_ | refine x_not ?_ | refine x_and ?_ | refine x_or ?_ | refine x_ifx ?_ | refine x_chain ?_ | refine x_sl ?_ | refine x_nopt ?_ | refine x_pt ?_ | refine x_gname ?_ | refine x_for ?_ | refine x_rng ?_ | refine x_comp ?_ | refine x_true ?_ | refine x_false ?_ | refine x_asg ?_ | refine x_iseq ?_ | refine it_tup ?_ | refine it_lst ?_ | refine x_set2 ?_ | refine x_set2d ?_)
      | (with_reducible refine ⟨Nat.le_of_ble_eq_true rfl, ?_⟩) | refine x_ifT rfl ?_ | refine x_ifF rfl ?_))
/-- a feed: four whole numbers, shared -/
def IsFeed (S0 : Sto) (p : Addr) (S : Sto) : Prop := DL.Sub S0 S ∧ S0 p = none ∧ ∃ a b c d : Int, S p = some (.lst [.int a, .int b, .int c, .int d])
theorem IsFeed.new {S0 S : Sto} {p : Addr} {a b c d : Int} (hs : DL.Sub S0 S) (h : S p = none) : IsFeed S0 p (S.put p (.lst [.int a, .int b, .int c, .int d])) := by
  have h0 : S0 p = none := by
    cases e : S0 p with
    | none => rfl
    | some o => have := hs p o e; rw [h] at this; cases this
  exact ⟨hs.put h, h0, a, b, c, d, Sto.put_same⟩
def sp_draw : DSpec := fun ds S Q _ => ∃ S0 p m, ds = [.ref p, .int m] ∧ IsFeed S0 p S ∧ 0 < m ∧ m < 1073741824 ∧ ∀ r S', 0 ≤ r → r < m → IsFeed S0 p S' → Q (.int r) S'

theorem ok_draw (Γ : Str → DSpec) : ∀ ds S Q E, sp_draw ds S Q E → t__law_draw Γ (fnEnds Q E) ⟨startE 4 ds, S⟩ := by
  rintro ds S Q E ⟨S0, p, m, rfl, ⟨hs, h0, a, b, c, d, hp⟩, hm0, hm1, k⟩
  refine x_start (env := [some (.ref p), some (.int m), none, none]) rfl ?_
  unfold t__law_draw
  walk_at "d"
  refine x_dec (fun ha => ?_) fun ha => ?_
  · walk_at "d"
    exact ⟨_, Sub.refl, k _ _ (Int.emod_nonneg _ (Int.ne_of_gt hm0)) (Int.emod_lt_of_pos _ hm0) ⟨(hs.put0 h0).put0 h0, h0, _, _, _, _, Sto.put_same⟩⟩
  · walk_at "d"
    exact ⟨_, Sub.refl, k _ _ (Int.emod_nonneg _ (Int.ne_of_gt hm0)) (Int.emod_lt_of_pos _ hm0) ⟨hs.put0 h0, h0, _, _, _, _, Sto.put_same⟩⟩
def sp_feed : DSpec := fun ds S Q _ => ∃ (ns : List Int) (k : Int), ds = [.lst (ns.map .int), .int k] ∧ 0 ≤ k ∧ ns.length ≤ 63 ∧ ∀ a b c d : Int, Q (.own [.int a, .int b, .int c, .int d]) S
theorem atI_in {α : Type} {xs : List α} {i : Int} (h0 : 0 ≤ i) (h1 : i < xs.length) : ∃ x, L2.atI xs i = some x ∧ x ∈ xs := by
  unfold L2.atI L2.ixN
  rw [if_pos h0, if_pos h1]
  have h2 : i.toNat < xs.length := by omega
  exact ⟨xs[i.toNat], by simp [h2], List.getElem_mem h2⟩
theorem ok_feed (Γ : Str → DSpec) : ∀ ds S Q E, sp_feed ds S Q E → t__law_feed Γ (fnEnds Q E) ⟨startE 3 ds, S⟩ := by
  rintro ds S Q E ⟨ns, k, rfl, hk, hl, q⟩
  refine x_start (env := [some (.lst (ns.map .int)), some (.int k), none]) rfl ?_
  unfold t__law_feed
  walk_at "d"
  refine x_dec (fun ha => ?_) fun ha => ?_
  · walk_at "d"
    exact ⟨_, Sub.refl, q _ _ _ _⟩
  · have hz : 0 < ((ns.map D.int).length : Int) := by omega
    obtain ⟨x, hx, hm⟩ := atI_in (xs := ns.map D.int) (i := k % ((ns.map D.int).length : Int)) (Int.emod_nonneg _ (Int.ne_of_gt hz)) (Int.emod_lt_of_pos _ hz)
    rw [List.mem_map] at hm
    obtain ⟨i, _, rfl⟩ := hm
    walk_at "d"
    exact ⟨_, Sub.refl, q _ _ _ _⟩
/-- the figures of a number, base 128 -/
def figs (n : Nat) : List Int := if n < 128 then [(n : Int)] else ((n : Int) % 128 + 128) :: figs (n / 128)
theorem figs_lt {n : Nat} (h : n < 128) : figs n = [(n : Int)] := by rw [figs, if_pos h]
theorem figs_ge {n : Nat} (h : ¬ n < 128) : figs n = ((n : Int) % 128 + 128) :: figs (n / 128) := by rw [figs, if_neg h]
theorem figs_len : ∀ (k n : Nat), n < 128 ^ (k + 1) → (figs n).length ≤ k + 1
  | 0, n, h => by rw [figs_lt (by simpa using h)]; exact Nat.le_refl _
  | k + 1, n, h => by
    by_cases hn : n < 128
    · rw [figs_lt hn]; simp
    · rw [figs_ge hn, List.length_cons]
      have := figs_len k (n / 128) (by rw [Nat.div_lt_iff_lt_mul (by decide)]; rw [Nat.pow_succ] at h; exact h)
      omega
theorem figs_byte (n : Nat) : ∀ x ∈ figs n, 0 ≤ x ∧ x ≤ 255 := by
  induction n using Nat.strongRecOn with
  | _ n ih =>
    intro x hx
    by_cases hn : n < 128
    · rw [figs_lt hn] at hx
      simp only [List.mem_singleton] at hx
      omega
    · rw [figs_ge hn, List.mem_cons] at hx
      rcases hx with hx | hx
      · omega
      · exact ih _ (by omega) x hx
def sp_long : DSpec := fun ds S Q _ => ∃ n : Nat, ds = [.int n] ∧ n < 128 ^ 101 ∧ Q (.tup ((figs n).map .int)) S
theorem ok_long_of' (Γ : Str → DSpec) : ∀ ds S Q E, sp_long ds S Q E → t_long_of Γ (fnEnds Q E) ⟨startE 2 ds, S⟩ := by
  rintro ds S Q E ⟨n, rfl, hn, q⟩
  refine x_start (env := [some (.int n), none]) rfl ?_
  unfold t_long_of
  walk_at "d"
  have hl := figs_len 100 n hn
  refine x_while (fun m st => ∃ (k : Nat) (acc : List Int), st = ⟨[some (.int k), some (.own (acc.map .int))], S⟩ ∧ m = k ∧ acc ++ figs k = figs n) n ⟨n, [], rfl, rfl, rfl⟩ ?_
  rintro m st nx ⟨k, acc, rfl, rfl, hf⟩ hnx
  have ha : acc.length + (figs m).length ≤ 101 := by rw [← List.length_append, hf]; exact hl
  have hap : ∀ x, appendD (acc.map .int) [x] = some (.non, acc.map .int ++ [x]) := fun x => append_ok (by rw [List.length_map]; omega)
  walk_at "d"
  refine x_dec (fun hk => ?_) fun hk => ?_
  · walk_at "d"
    refine opt_i (hap _) ?_
    walk_at "d"
    refine hnx (m / 128) _ (by omega) ⟨m / 128, acc ++ [(m : Int) % 128 + 128], ?_, rfl, ?_⟩
    · simp only [List.map_append, List.map_cons, List.map_nil]; rfl
    · rw [← hf, figs_ge (n := m) (by omega), List.append_assoc]; rfl
  · walk_at "d"
    refine opt_i (hap _) ?_
    walk_at "d"
    refine ⟨_, Sub.refl, ?_⟩
    rw [← hf, figs_lt (n := m) (by omega)] at q
    simpa only [List.map_append, List.map_cons, List.map_nil] using q
theorem ixN_last {n : Nat} : L2.ixN (n + 1) (-1) = some n := by
  unfold L2.ixN
  rw [if_neg (by decide), if_pos (by omega)]
  congr 1
  omega
theorem atI_last {α : Type} {xs : List α} {x : α} : L2.atI (xs ++ [x]) (-1) = some x := by
  unfold L2.atI
  rw [List.length_append, List.length_singleton, ixN_last]
  simp
theorem ok_law_long (Γ : Str → DSpec) : ∀ ds S Q E, sp_long ds S Q E → t__law_long Γ (fnEnds Q E) ⟨startE 2 ds, S⟩ := by
  rintro ds S Q E ⟨n, rfl, hn, q⟩
  refine x_start (env := [some (.int n), none]) rfl ?_
  unfold t__law_long
  walk_at "d"
  have hl := figs_len 100 n hn
  refine x_while (fun m st => ∃ (k : Nat) (acc : List Int), st = ⟨[some (.int k), some (.own (acc.map .int ++ [.int ((k : Int) % 128)]))], S⟩ ∧ m = k ∧ acc ++ figs k = figs n) n ⟨n, [], rfl, rfl, rfl⟩ ?_
  rintro m st nx ⟨k, acc, rfl, rfl, hf⟩ hnx
  have ha : acc.length + (figs m).length ≤ 101 := by rw [← List.length_append, hf]; exact hl
  have hap : ∀ x y, appendD (acc.map D.int ++ [y]) [x] = some (.non, acc.map D.int ++ [y] ++ [x]) := fun x y => append_ok (by simp only [List.length_append, List.length_map, List.length_singleton]; omega)
  have h1 : ∀ x : D, ixD' (.lst (acc.map D.int ++ [x])) (.int (-1)) = some x := fun x => atI_last
  have h2 : ∀ x : D, L2.ixN (acc.map D.int ++ [x]).length (-1) = some acc.length := fun x => by rw [List.length_append, List.length_map]; exact ixN_last
  have h3 : ∀ x y : D, (acc.map D.int ++ [x]).set acc.length y = acc.map .int ++ [y] := fun x y => by
    rw [List.set_append_right _ _ (by simp)]; simp
  walk_at "d"
  refine x_dec (fun hk => ?_) fun hk => ?_
  · walk_at "d"
    refine opt_i (h1 _) ?_
    walk_at "d"
    refine opt_i (h2 _) ?_
    rw [h3]
    walk_at "d"
    refine opt_i (hap _ _) ?_
    walk_at "d"
    refine hnx (m / 128) _ (by omega) ⟨m / 128, acc ++ [(m : Int) % 128 + 128], ?_, rfl, ?_⟩
    · simp only [List.map_append, List.map_cons, List.map_nil]; rfl
    · rw [← hf, figs_ge (n := m) (by omega), List.append_assoc]; rfl
  · walk_at "d"
    refine ⟨_, Sub.refl, ?_⟩
    rw [← hf, figs_lt (n := m) (by omega)] at q
    have : (m : Int) % 128 = m := by omega
    rw [this]
    simpa only [List.map_append, List.map_cons, List.map_nil] using q
theorem draw_to {S0 S : Sto} {p : Addr} {m : Int} {Q : D → Sto → Prop} {E : Exn → Sto → Prop} (h : IsFeed S0 p S) (h0 : 0 < m) (h1 : m < 1073741824) (k : ∀ (r : Int) S', 0 ≤ r → r < m → IsFeed S0 p S' → Q (.int r) S') : sp_draw [.ref p, .int m] S Q E :=
  ⟨S0, p, m, rfl, h, h0, h1, k⟩
def GM : Str → DSpec := fun x => if x = ("_law_feed" : Str) then sp_feed else if x = ("_law_draw" : Str) then sp_draw else sp_long
theorem ok_law : ∀ ds S Q E, lawSp ds S Q E → t_law GM (fnEnds Q E) ⟨startE 7 ds, S⟩ := by
  rintro ds S Q E ⟨ns, rfl, hl, q⟩
  refine x_start (env := [some (.lst (ns.map .int)), none, none, none, none, none, none]) rfl ?_
  unfold t_law
  have g1 : GM "_law_feed" = sp_feed := rfl
  have g2 : GM "_law_draw" = sp_draw := rfl
  have g3 : GM "_law_long" = sp_long := rfl
  have g4 : GM "long_of" = sp_long := rfl
  rw [g1, g2, g3, g4]
  clear g1 g2 g3 g4
  walk_at "d"
  intro _
  refine for_inv (fun k st => ∃ e1 e2 e3 e4 e5 e6 S1, st = ⟨[some (.lst (ns.map .int)), e1, e2, e3, e4, e5, e6], S1⟩ ∧ DL.Sub S S1) ⟨_, _, _, _, _, _, S, rfl, Sub.refl⟩ (fun _ _ _ _ => trivial) ?_ ?_
  · rintro k d st nx hd ⟨e1, e2, e3, e4, e5, e6, S1, rfl, hs⟩ hn
    obtain ⟨rfl, hk⟩ := rng_mem hd
    walk_at "d"
    refine ⟨ns, _, rfl, by omega, hl, fun a b c d => ?_⟩
    walk_at "d"
    intro p hp
    have hf := IsFeed.new (a := a) (b := b) (c := c) (d := d) hs hp
    generalize S1.put p _ = S2 at hf ⊢
    walk_at "d"
    refine draw_to hf (by decide) (by decide) fun r1 S3 h0 h1 hf => ?_
    walk_at "d"
    refine draw_to hf (by decide) (by decide) fun r2 S4 h2 h3 hf => ?_
    walk_at "d"
    obtain ⟨v, hv, hv0, hv1⟩ : ∃ v : Int, ixD' (.lst [.int 1, .int 100000000, .int 1000000000, .int 100000000000000000000, .int 10000000000000000000000000000000]) (.int r2) = some (.int v) ∧ 0 ≤ v ∧ v ≤ 10000000000000000000000000000000 := by
      rcases (by omega : r2 = 0 ∨ r2 = 1 ∨ r2 = 2 ∨ r2 = 3 ∨ r2 = 4) with rfl | rfl | rfl | rfl | rfl <;> exact ⟨_, rfl, by decide, by decide⟩
    refine opt_i hv ?_
    have hsm : small r1 = true := small_of (by omega) (by omega)
    walk_at "d"
    refine draw_to hf (by decide) (by decide) fun r3 S5 h4 h5 hf => ?_
    walk_at "d"
    refine x_join (fun st => ∃ n : Nat, ∃ e4 e5 e6 S6, st = ⟨[some (.lst (ns.map .int)), some (.int (0 + k)), some (.ref p), some (.int n), e4, e5, e6], S6⟩ ∧ n < 128 ^ 101 ∧ DL.Sub S S6) ?_ ?_
    · intro nx2 hnx2
      refine x_dec (fun hd2 => ?_) fun hd2 => ?_
      · walk_at "d"
        refine draw_to hf (by decide) (by decide) fun r4 S6 h6 h7 hf => ?_
        walk_at "d"
        refine opt_i (x := (0, r4.toNat)) (rng1_ok (by omega) (by omega)) ?_
        walk_at "d"
        intro _
        refine for_inv (fun j st => ∃ f4, st = ⟨[some (.lst (ns.map .int)), some (.int (0 + k)), some (.ref p), some (.int ((128 ^ j : Nat) : Int)), f4, e5, e6], S6⟩) ⟨_, rfl⟩ (fun _ _ _ _ => trivial) ?_ ?_
        · rintro j d st nx3 hd3 ⟨f4, rfl⟩ hn3
          have hj : ((128 ^ (j + 1) : Nat) : Int) = ((128 ^ j : Nat) : Int) * 128 := by rw [Nat.pow_succ, Int.natCast_mul]; rfl
          rw [hj] at hn3
          generalize ((128 ^ j : Nat) : Int) = N at hn3 ⊢
          walk_at "d"
          exact hn3 _ ⟨_, rfl⟩
        · rintro st ⟨f4, rfl⟩
          rw [rng_len]
          have h8 : 128 ^ r4.toNat ≤ 128 ^ 18 := Nat.pow_le_pow_right (by decide) (by omega)
          generalize 128 ^ r4.toNat = N at h8 ⊢
          walk_at "d"
          refine draw_to hf (by decide) (by decide) fun r5 S7 h9 h10 hf => ?_
          walk_at "d"
          obtain ⟨M, hM, hM2⟩ : ∃ M : Nat, (if (N : Int) + r5 - 1 > 0 then (N : Int) + r5 - 1 else 0) = M ∧ M < 128 ^ 101 := by
            refine ⟨((N : Int) + r5 - 1).toNat, ?_, by omega⟩
            split <;> omega
          rw [hM]
          exact hnx2 _ ⟨M, _, _, _, _, rfl, hM2, hf.1⟩
      · walk_at "d"
        have e : r1 * v = ((r1 * v).toNat : Int) := by have := Int.mul_nonneg h0 hv0; omega
        have h8 : r1 * v ≤ 1000000000 * 10000000000000000000000000000000 := Int.mul_le_mul (Int.le_of_lt h1) hv1 hv0 (by decide)
        obtain ⟨N, hN, hN2⟩ : ∃ N : Nat, r1 * v = N ∧ N < 128 ^ 101 := ⟨(r1 * v).toNat, e, by omega⟩
        rw [hN]
        exact hnx2 _ ⟨N, _, _, _, _, rfl, hN2, hf.1⟩
    · rintro st ⟨n, e4, e5, e6, S6, rfl, hn6, hs6⟩
      walk_at "d"
      refine ⟨n, rfl, hn6, ?_⟩
      walk_at "d"
      refine ⟨n, rfl, hn6, ?_⟩
      walk_at "d"
      have hok : (D.tup ((figs n).map .int)).ok = true := oks_map (fun _ => rfl) _
      have hdp : (D.tup ((figs n).map .int)).deep ≤ 64 := Nat.succ_le_succ (deeps_map (n := 63) (fun _ => Nat.zero_le _) _)
      refine opt_i (neD_same hok hdp) ?_
      walk_at "d"
      refine comp_pure (fun _ => none) trivial ?_ ?_
      · intro k' d' acc nx' hd' hn'
        obtain ⟨b, rfl, hb⟩ : ∃ b : Int, d' = .int b ∧ b ∈ figs n := by
          rw [List.getElem?_map, Option.map_eq_some_iff] at hd'
          obtain ⟨b, h1, rfl⟩ := hd'
          exact ⟨b, rfl, List.mem_of_getElem? h1⟩
        have hb' := figs_byte n b hb
        walk_at "d"
        have e : acc ++ (none : Option D).toList = acc := by simp
        rw [e] at hn'
        exact hn'
      · have : (List.map D.int (figs n)).filterMap (fun _ => none) = ([] : List D) := by simp
        rw [this]
        walk_at "d"
        exact hn _ ⟨_, _, _, _, _, _, S6, rfl, hs6⟩
  · rintro st ⟨e1, e2, e3, e4, e5, e6, S1, rfl, hs⟩
    walk_at "d"
    refine ⟨0, rfl, by decide, ?_⟩
    rw [figs_lt (by decide)]
    walk_at "d"
    exact ⟨S, hs, by rw [show eqv (D.tup (List.map D.int [0])) (D.tup [D.int 0]) = true from eqv_same (d := .tup [.int 0]) rfl]; exact q⟩
theorem len__law_draw : ∀ ds S Q E, sp_draw ds S Q E → ds.length = 2 := by rintro ds S Q E ⟨_, _, _, rfl, _⟩; rfl
theorem len__law_feed : ∀ ds S Q E, sp_feed ds S Q E → ds.length = 2 := by rintro ds S Q E ⟨_, _, rfl, _⟩; rfl
theorem len_long_of : ∀ ds S Q E, sp_long ds S Q E → ds.length = 1 := by rintro ds S Q E ⟨_, rfl, _⟩; rfl
theorem len__law_long : ∀ ds S Q E, sp_long ds S Q E → ds.length = 1 := by rintro ds S Q E ⟨_, rfl, _⟩; rfl
abbrev sp__law_draw := sp_draw
abbrev sp__law_feed := sp_feed
abbrev sp_long_of := sp_long
abbrev sp__law_long := sp_long
theorem ok__law_draw : ∀ ds S Q E, sp__law_draw ds S Q E → t__law_draw GM (fnEnds Q E) ⟨startE 4 ds, S⟩ := ok_draw GM
theorem ok__law_feed : ∀ ds S Q E, sp__law_feed ds S Q E → t__law_feed GM (fnEnds Q E) ⟨startE 3 ds, S⟩ := ok_feed GM
theorem ok__law_long : ∀ ds S Q E, sp__law_long ds S Q E → t__law_long GM (fnEnds Q E) ⟨startE 2 ds, S⟩ := ok_law_long GM
theorem ok_long_of : ∀ ds S Q E, sp_long_of ds S Q E → t_long_of GM (fnEnds Q E) ⟨startE 2 ds, S⟩ := ok_long_of' GM
end K03
namespace K03
open PySem L2 DL PySem.Spec
theorem all_mk {l : PySem.W.OpenLaw} {w : World} {K : PySem.W.Frag} {h : Heap} {mg : Str → Option Value} {fa : Addr} (X : K.In h) (G : h.Ns mainGlobals mg) (hfa : mg "law" = some (.ref fa))
    {f0 f1 f2 f3 f4 : Addr}
    {od0 an0 od1 an1 od2 an2 od3 an3 od4 an4 : Option Addr} {sl0 sl1 sl2 sl3 sl4 : Array (Option Value)} {oc0 kV0 dc0 pm0 cd0 ct0 oc1 kV1 dc1 pm1 cd1 ct1 oc2 kV2 dc2 pm2 cd2 ct2 oc3 kV3 dc3 pm3 cd3 ct3 oc4 kV4 dc4 pm4 cd4 ct4 : Value}
    (a0 : PySem.W.nsIn K mainGlobals "_law_feed" = some (some (.ref f0)))
    (l0 : K.lookup f0 = some ⟨oc0, od0, .func (PySem.W.fnOf "_law_feed" "_law_feed" (defArgs s__law_feed) (defBody s__law_feed) (defScope s__law_feed) .none kV0 dc0 pm0 an0 cd0 ct0), sl0⟩)
    (c0 : PySem.W.codeIn K cd0 "_law_feed" = true)
    (k0 : PySem.W.keepIn K (.ref f0) = true)
    (a1 : PySem.W.nsIn K mainGlobals "_law_draw" = some (some (.ref f1)))
    (l1 : K.lookup f1 = some ⟨oc1, od1, .func (PySem.W.fnOf "_law_draw" "_law_draw" (defArgs s__law_draw) (defBody s__law_draw) (defScope s__law_draw) .none kV1 dc1 pm1 an1 cd1 ct1), sl1⟩)
    (c1 : PySem.W.codeIn K cd1 "_law_draw" = true)
    (k1 : PySem.W.keepIn K (.ref f1) = true)
    (a2 : PySem.W.nsIn K mainGlobals "long_of" = some (some (.ref f2)))
    (l2 : K.lookup f2 = some ⟨oc2, od2, .func (PySem.W.fnOf "long_of" "long_of" (defArgs s_long_of) (defBody s_long_of) (defScope s_long_of) .none kV2 dc2 pm2 an2 cd2 ct2), sl2⟩)
    (c2 : PySem.W.codeIn K cd2 "long_of" = true)
    (k2 : PySem.W.keepIn K (.ref f2) = true)
    (a3 : PySem.W.nsIn K mainGlobals "_law_long" = some (some (.ref f3)))
    (l3 : K.lookup f3 = some ⟨oc3, od3, .func (PySem.W.fnOf "_law_long" "_law_long" (defArgs s__law_long) (defBody s__law_long) (defScope s__law_long) .none kV3 dc3 pm3 an3 cd3 ct3), sl3⟩)
    (c3 : PySem.W.codeIn K cd3 "_law_long" = true)
    (k3 : PySem.W.keepIn K (.ref f3) = true)
    (a4 : PySem.W.nsIn K mainGlobals "law" = some (some (.ref f4)))
    (l4 : K.lookup f4 = some ⟨oc4, od4, .func (PySem.W.fnOf "law" "law" (defArgs s_law) (defBody s_law) (defScope s_law) .none kV4 dc4 pm4 an4 cd4 ct4), sl4⟩)
    (c4 : PySem.W.codeIn K cd4 "law" = true)
    (k4 : PySem.W.keepIn K (.ref f4) = true)
    (z0 : PySem.W.nsIn K mainGlobals "len" = some none)
    (z1 : PySem.W.nsIn K mainGlobals "tuple" = some none)
    (z2 : PySem.W.nsIn K mainGlobals "list" = some none)
    (z3 : PySem.W.nsIn K mainGlobals "max" = some none)
    (z4 : PySem.W.nsIn K mainGlobals "min" = some none)
    (z5 : PySem.W.nsIn K mainGlobals "int" = some none)
    (z6 : PySem.W.nsIn K mainGlobals "all" = some none)
    (z7 : PySem.W.nsIn K mainGlobals "any" = some none)
    (z8 : PySem.W.nsIn K mainGlobals "isinstance" = some none)
    (z9 : PySem.W.nsIn K mainGlobals "str" = some none)
    (z10 : PySem.W.nsIn K mainGlobals "bool" = some none)
    (z11 : PySem.W.nsIn K mainGlobals "dict" = some none)
    (z12 : PySem.W.nsIn K mainGlobals "range" = some none) :
    ∃ fd : FuncData, (∀ (s : Shared) (v : Value), BindsTo s fd ⟨[v], []⟩ [("_law_script", v)]) ∧ ∀ base : Heap, K.In base → base.Ns mainGlobals mg → FnOk l.prog w K mg base (L2.CX l.prog w) 2 fa fd ["_law_script"] (LSp K mg lawSp) := by
  have e := hfa.symm.trans (PySem.W.mg_of X G a4)
  cases e
  have hz := hz_of X G z0 z1 z2 z3 z4 z5 z6 z7 z8 z9 z10 z11 z12
  refine ⟨PySem.W.fnOf "law" "law" (defArgs s_law) (defBody s_law) (defScope s_law) .none kV4 dc4 pm4 an4 cd4 ct4, fun s v => .of_eq rfl, fun base _ _ => ?_⟩
  have F0 := fun_mk (st := s__law_feed) l0 c0 k0
  have B0 := F0.binds (ps := ["_law_script", "_law_k"]) fun _ _ _ _ _ _ us hl => match us, hl with | [_, _], _ => rfl
  have C__law_feed : CalleeK l.prog w K mg base 1 "_law_feed" (GM "_law_feed") := callee_of (Γ := GM) (n := 20) (dn := dn__law_feed) (sp := sp__law_feed) F0 B0 (PySem.W.mg_of X G a0) sc__law_feed len__law_feed (fun g hg => nomatch hg) (mods_of rfl hz) (fun ds S Q E h => by rw [den__law_feed]; exact ok__law_feed ds S Q E h)
  have F1 := fun_mk (st := s__law_draw) l1 c1 k1
  have B1 := F1.binds (ps := ["_law_feed_here", "_law_many"]) fun _ _ _ _ _ _ us hl => match us, hl with | [_, _], _ => rfl
  have C__law_draw : CalleeK l.prog w K mg base 1 "_law_draw" (GM "_law_draw") := callee_of (Γ := GM) (n := 20) (dn := dn__law_draw) (sp := sp__law_draw) F1 B1 (PySem.W.mg_of X G a1) sc__law_draw len__law_draw (fun g hg => nomatch hg) (mods_of rfl hz) (fun ds S Q E h => by rw [den__law_draw]; exact ok__law_draw ds S Q E h)
  have F2 := fun_mk (st := s_long_of) l2 c2 k2
  have B2 := F2.binds (ps := ["n"]) fun _ _ _ _ _ _ us hl => match us, hl with | [_], _ => rfl
  have C_long_of : CalleeK l.prog w K mg base 1 "long_of" (GM "long_of") := callee_of (Γ := GM) (n := 20) (dn := dn_long_of) (sp := sp_long_of) F2 B2 (PySem.W.mg_of X G a2) sc_long_of len_long_of (fun g hg => nomatch hg) (mods_of rfl hz) (fun ds S Q E h => by rw [den_long_of]; exact ok_long_of ds S Q E h)
  have F3 := fun_mk (st := s__law_long) l3 c3 k3
  have B3 := F3.binds (ps := ["_law_n"]) fun _ _ _ _ _ _ us hl => match us, hl with | [_], _ => rfl
  have C__law_long : CalleeK l.prog w K mg base 1 "_law_long" (GM "_law_long") := callee_of (Γ := GM) (n := 20) (dn := dn__law_long) (sp := sp__law_long) F3 B3 (PySem.W.mg_of X G a3) sc__law_long len__law_long (fun g hg => nomatch hg) (mods_of rfl hz) (fun ds S Q E h => by rw [den__law_long]; exact ok__law_long ds S Q E h)
  exact fn_D (Γ := GM) (n := 20) (dn := dn_law) (sp := lawSp) (fun_mk (st := s_law) l4 c4 k4) sc_law law_len (fun g hg => by
      rcases List.mem_cons.1 hg with rfl | hg
      · exact C__law_feed.mono (by decide)
      rcases List.mem_cons.1 hg with rfl | hg
      · exact C__law_draw.mono (by decide)
      rcases List.mem_cons.1 hg with rfl | hg
      · exact C_long_of.mono (by decide)
      rcases List.mem_cons.1 hg with rfl | hg
      · exact C__law_long.mono (by decide)
      cases hg) (mods_of rfl hz) (fun ds S Q E h => by rw [den_law]; exact ok_law ds S Q E h)
end K03
open PySem PySem.W PyProof.Rows in
set_option maxRecDepth 100000 in
set_option maxHeartbeats 0 in
theorem PySem.Challenge.cw_makes_k03_longs_holds : PySem.Challenge.rw_makes_k03_longs.Holds := by
  w_on; o_law; k_head; (case hw => w_witness2)
  k_fill
  refine DL.walkD (l := PySem.Challenge.rw_makes_k03_longs) (k := 2) (x := "_law_script") rfl rfl ⟨rfl, by decide, by decide⟩ (fun w h Y => PySem.W.kIn_of Y) ?F
  case F =>
    intro w mg fa h KX G hmg
    refine' K03.all_mk KX G hmg ?a0 ?l0 ?c0 ?k0 ?a1 ?l1 ?c1 ?k1 ?a2 ?l2 ?c2 ?k2 ?a3 ?l3 ?c3 ?k3 ?a4 ?l4 ?c4 ?k4 ?z0 ?z1 ?z2 ?z3 ?z4 ?z5 ?z6 ?z7 ?z8 ?z9 ?z10 ?z11 ?z12
    (case a0 => k_is)
    (case l0 => k_is)
    (case c0 => k_is)
    (case k0 => k_is)
    (case a1 => k_is)
    (case l1 => k_is)
    (case c1 => k_is)
    (case k1 => k_is)
    (case a2 => k_is)
    (case l2 => k_is)
    (case c2 => k_is)
    (case k2 => k_is)
    (case a3 => k_is)
    (case l3 => k_is)
    (case c3 => k_is)
    (case k3 => k_is)
    (case a4 => k_is)
    (case l4 => k_is)
    (case c4 => k_is)
    (case k4 => k_is)
    (case z0 => k_is)
    (case z1 => k_is)
    (case z2 => k_is)
    (case z3 => k_is)
    (case z4 => k_is)
    (case z5 => k_is)
    (case z6 => k_is)
    (case z7 => k_is)
    (case z8 => k_is)
    (case z9 => k_is)
    (case z10 => k_is)
    (case z11 => k_is)
    (case z12 => k_is)
