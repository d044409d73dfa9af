import PyProof.Rows.All
import Wide.All
import OpenK.AllK
import Wide.FinOn
import HandS.ForMost
import HandS.ForExc
import HandS.CallSlots
import HandS.Walk
import HandS.Deep
import HandS.HeadHook1
import HandS.ExcIs
import HandS.ExcOwn
import HandS.ExcInit
import HandS.Property
import HandS.TupAny
import HandS.TupMul
import HandS.StrMore
import HandS.Conv
import HandS.Style
import HandS.Iter
import HandS.Comp
import HandS.Defaults
import KE.GoesEnum
import HandS.Codes
import HandS.IsInst
import HandS.Dict
import HandS.TryOnly
import PyProof.ExcBaseAll.ValueError
import HandS.ExcValue
import HandS.Star
import KE.KExcIs
import HandS.HeadHook2
import KE.KEqDict
import HandS.Replace
import PyProof.StrReplace2
import PyProof.ToksMono
import HandS.Nested
import KE.KExcSuper
import HandS.ExcField
import HandS.More
import KE.KStateDown
import Lean
import HandS.Ends
import HandS.Words
import HandS.WordsExc
import HandS.Head0
import HandS.Head1
import HandS.Head2
import HandS.HeadEnd
import PySem.Challenge.RW_restingfixes_k38_errors
set_option Elab.async false
set_option linter.all false
set_option maxRecDepth 100000
/-! Pure data over the hand layer: what stands for what, and what is kept. -/
namespace Py
open PySem PySem.Spec PyProof.Rows L2

/-- pure data -/
inductive D where
  | non | bl (b : Bool) | int (i : Int) | str (x : List Nat)
  | tup (xs : List D) | lst (xs : List D) | dic (kvs : List (D × D))
  | err (c : Nat)
  | obj (c : Nat) (fs : List D)
  | bx

/-- the program's own errors, numbered -/
def nameB : Nat → Str
  | 0 => "FixError" | 1 => "InvalidWord" | 2 => "InvalidBook" | 3 => "InvalidNumber" | 4 => "InvalidLetters" | 5 => "TooMany" | 6 => "InvalidText" | 7 => "InvalidPairs"
  | 8 => "InvalidRow" | 9 => "InvalidPlace" | 10 => "NothingToUndo" | 11 => "NothingToRedo" | 12 => "UnknownDeed" | 13 => "InvalidLine" | _ => "ValueError"
/-- a text of the machine -/
def S (x : List Nat) : Str := ⟨x.toArray⟩
/-- codes from 100 on: errors with fields (even: InvalidText, its at; odd: InvalidLine, its line and reason) -/
def bc (c : Nat) : Nat := if c < 100 then c else if c % 2 = 0 then 6 else 13
def nameN (c : Nat) : Str := nameB (bc c)
def rsn : Nat → List Nat
  | 0 => [115, 116, 114, 105, 110, 103] | 1 => [108, 105, 110, 101] | 2 => [102, 105, 120] | 3 => [109, 97, 110, 121] | 4 => [116, 101, 120, 116] | _ => [101, 110, 100]
/-- the fields of an error -/
def xfs (c : Nat) : List (Str × V) := if c % 2 = 0 then [("at", .int ((c - 100) / 2))] else [("reason", .str (S (rsn (((c - 100) / 2) % 6)))), ("line", .int (((c - 100) / 2) / 6))]
/-- an error in flight, new since H0 -/
def FlyX (cl : Nat → Addr) (E : Value → Option Addr → Hp → Prop) (H0 : Hp) (c : Nat) (H : Hp) : Prop := if c < 100 then E (.ref (cl c)) none H else ∀ d, H0 d = none → H d = some (.xd (xfs c)) → E (.ref (cl c)) (some d) H
theorem FlyX.from {cl : Nat → Addr} {E : Value → Option Addr → Hp → Prop} {H0 H1 H : Hp} {c : Nat} (h : FlyX cl E H0 c H) (dom : ∀ a, H1 a = none → H0 a = none) : FlyX cl E H1 c H := by
  unfold FlyX at h ⊢
  by_cases q : c < 100
  · rw [if_pos q] at h ⊢; exact h
  · rw [if_neg q] at h ⊢; exact fun d n e => h d (dom d n) e
def clK (K : PySem.W.Frag) (c : Nat) : Addr := He.ga K (nameN c)
/-- the program's own classes, numbered, and their fields in the order in which __init__ writes them -/
def nameC : Nat → Str
  | 0 => "Reader" | 1 => "Desk" | 2 => "PaperReader" | _ => ""
def flds : Nat → List Str
  | 0 => ["signs", "at"] | 1 => ["page", "past", "ahead"] | 2 => ["fixes", "texts", "line"] | _ => []
def clA (K : PySem.W.Frag) (c : Nat) : Addr := He.ga K (nameC c)
/-- an exception of the class at C, at a -/
def ErD (C a : Addr) (d : Option Addr) : HO := .ext fun h => ∃ (oe : Obj) (vs : Array Value), h.get? a = some oe ∧ Zc (.ref C) d oe ∧ oe.data = .fields vs
abbrev ErO (C a : Addr) : HO := ErD C a none


/-- the slots of a frame: nothing, shared data, an object of one's own (lent by the caller; locked), the source -/
inductive Sl where
  | no | sh (d : D) | own (l z : Bool) (d : D) | src

/-- what an expression gives: shared data, a new object, the object of a slot, the source -/
inductive Rv where
  | sh (d : D) | ow (d : D) | bo (i : Nat) | sr

structure PS where
  env : List Sl
  src : List Int × Int

/-- outside objects that must not be met, the source's two lists -/
structure Gh where
  mx : Addr → Prop
  ga : Option (Addr × Addr)

section
variable (K : PySem.W.Frag)
def KTup (a : Addr) (xs : List V) : Prop := ∃ (o : Obj) (its : Array Value) (n : Nat), K.lookup a = some o ∧ o.cls = .type "tuple" ∧ o.data = .seq its n ∧ its.size ≤ sizeLine ∧ Vals xs its.toList

mutual
inductive Rep (M : Addr → Prop) (H : Hp) : V → D → Prop where
  | non : Rep M H .non .non
  | bl {b : Bool} : Rep M H (.bl b) (.bl b)
  | int {i : Int} : Rep M H (.int i) (.int i)
  | str {x : List Nat} : Rep M H (.str (S x)) (.str x)
  | tup {a : Addr} {xs : List V} {ds : List D} : (Rd H a (.tup xs) ∧ ¬ M a) ∨ KTup K a xs → RepL M H xs ds → Rep M H (.ref a) (.tup ds)
  | lst {a : Addr} {xs : List V} {ds : List D} : H a = some (.lst xs) → ¬ M a → RepL M H xs ds → Rep M H (.ref a) (.lst ds)
  | dic {a : Addr} {kvs : List (Key × V)} {ds : List (D × D)} : H a = some (.dK kvs) → ¬ M a → RepK M H kvs ds → Rep M H (.ref a) (.dic ds)
  | err {a : Addr} {c : Nat} : c < 100 → H a = some (ErO (clK K c) a) → ¬ M a → Rep M H (.ref a) (.err c)
  | erf {a d : Addr} {c : Nat} : 100 ≤ c → H a = some (ErD (clK K c) a (some d)) → H d = some (.xd (xfs c)) → ¬ M a → ¬ M d → Rep M H (.ref a) (.err c)
inductive RepL (M : Addr → Prop) (H : Hp) : List V → List D → Prop where
  | nil : RepL M H [] []
  | cons {v : V} {d : D} {vs : List V} {ds : List D} : Rep M H v d → RepL M H vs ds → RepL M H (v :: vs) (d :: ds)
inductive RepK (M : Addr → Prop) (H : Hp) : List (Key × V) → List (D × D) → Prop where
  | nil : RepK M H [] []
  | cons {k : Key} {v : V} {e d : D} {vs : List (Key × V)} {ds : List (D × D)} : Rep M H (kV k) e → Rep M H v d → RepK M H vs ds → RepK M H ((k, v) :: vs) ((e, d) :: ds)
end

mutual
theorem Rep.mono {M M' : Addr → Prop} {H H' : Hp} (hH : ∀ a o, H a = some o → ¬ M a → H' a = some o) (hM : ∀ a, M' a → M a ∨ H a = none) : ∀ {v : V} {d : D}, Rep K M H v d → Rep K M' H' v d
  | _, _, .non => .non
  | _, _, .bl => .bl
  | _, _, .int => .int
  | _, _, .str => .str
  | _, _, .tup h r => by
    refine .tup ?_ (RepL.mono hH hM r)
    rcases h with ⟨h, n⟩ | h
    · refine .inl ⟨?_, fun z => ?_⟩
      · rcases h with h | ⟨o, h⟩
        · exact .inl (hH _ _ h n)
        · exact .inr ⟨o, hH _ _ h n⟩
      · rcases hM _ z with z | z
        · exact n z
        · rcases h with h | ⟨o, h⟩ <;> (rw [z] at h; cases h)
    · exact .inr h
  | _, _, .lst h n r => by
    refine .lst (hH _ _ h n) (fun z => ?_) (RepL.mono hH hM r)
    rcases hM _ z with z | z
    · exact n z
    · rw [z] at h; cases h
  | _, _, .dic h n r => by
    refine .dic (hH _ _ h n) (fun z => ?_) (RepK.mono hH hM r)
    rcases hM _ z with z | z
    · exact n z
    · rw [z] at h; cases h
  | _, _, .err c h n => by
    refine .err c (hH _ _ h n) fun z => ?_
    rcases hM _ z with z | z
    · exact n z
    · rw [z] at h; cases h
  | _, _, .erf c h k n m => by
    refine .erf c (hH _ _ h n) (hH _ _ k m) (fun z => ?_) fun z => ?_
    · rcases hM _ z with z | z
      · exact n z
      · rw [z] at h; cases h
    · rcases hM _ z with z | z
      · exact m z
      · rw [z] at k; cases k
theorem RepL.mono {M M' : Addr → Prop} {H H' : Hp} (hH : ∀ a o, H a = some o → ¬ M a → H' a = some o) (hM : ∀ a, M' a → M a ∨ H a = none) : ∀ {v : List V} {d : List D}, RepL K M H v d → RepL K M' H' v d
  | _, _, .nil => .nil
  | _, _, .cons r t => .cons (Rep.mono hH hM r) (RepL.mono hH hM t)
theorem RepK.mono {M M' : Addr → Prop} {H H' : Hp} (hH : ∀ a o, H a = some o → ¬ M a → H' a = some o) (hM : ∀ a, M' a → M a ∨ H a = none) : ∀ {v : List (Key × V)} {d : List (D × D)}, RepK K M H v d → RepK K M' H' v d
  | _, _, .nil => .nil
  | _, _, .cons q r t => .cons (Rep.mono hH hM q) (Rep.mono hH hM r) (RepK.mono hH hM t)
end

/-- an object of one's own -/
def OwnAt (M : Addr → Prop) (H : Hp) (a : Addr) : D → Prop
  | .lst ds => ∃ xs, H a = some (.lst xs) ∧ RepL K M H xs ds
  | .dic ds => ∃ kvs, H a = some (.dK kvs) ∧ RepK K M H kvs ds
  | .obj c ds => ∃ dx fs, H a = some (.ins (clA K c) dx fs) ∧ fs.map (·.1) = (flds c).take ds.length ∧ RepL K M H (fs.map (·.2)) ds
  | .bx => ∃ o, H a = some o
  | _ => False
/-- what is read as d -/
def Rdb (M : Addr → Prop) (H : Hp) (v : V) (d : D) : Prop := Rep K M H v d ∨ ∃ a, v = .ref a ∧ OwnAt K M H a d
end

section
variable {K : PySem.W.Frag} {M M' : Addr → Prop} {H H' : Hp} {a : Addr} {d : D} {v : V}
theorem OwnAt.some_ (h : OwnAt K M H a d) : ∃ o, H a = some o := by
  cases d <;> first | exact h.elim | exact h | (obtain ⟨_, _, h, _⟩ := h; exact ⟨_, h⟩) | (obtain ⟨_, h, _⟩ := h; exact ⟨_, h⟩)
theorem OwnAt.mono (hH : ∀ a o, H a = some o → ¬ M a → H' a = some o) (hM : ∀ a, M' a → M a ∨ H a = none) (ha : ∀ o, H a = some o → H' a = some o) (h : OwnAt K M H a d) : OwnAt K M' H' a d := by
  cases d <;> first | exact h.elim | skip
  · obtain ⟨xs, h, r⟩ := h
    exact ⟨xs, ha _ h, RepL.mono K hH hM r⟩
  · obtain ⟨xs, h, r⟩ := h
    exact ⟨xs, ha _ h, RepK.mono K hH hM r⟩
  · obtain ⟨dx, fs, h, e, r⟩ := h
    exact ⟨dx, fs, ha _ h, e, RepL.mono K hH hM r⟩
  · obtain ⟨o, h⟩ := h
    exact ⟨o, ha _ h⟩
/-- what can be shared -/
def D.plain : D → Bool
  | .obj _ _ => false
  | .bx => false
  | _ => true
/-- frozen -/
theorem OwnAt.rep (h : OwnAt K M H a d) (n : ¬ M' a) (hM : ∀ a, M' a → M a) (hp : d.plain = true) : Rep K M' H (.ref a) d := by
  cases d <;> first | exact h.elim | cases hp | skip
  · obtain ⟨xs, h, r⟩ := h
    exact .lst h n (RepL.mono K (fun _ _ h _ => h) (fun a z => .inl (hM a z)) r)
  · obtain ⟨xs, h, r⟩ := h
    exact .dic h n (RepK.mono K (fun _ _ h _ => h) (fun a z => .inl (hM a z)) r)
theorem RepL.length : ∀ {v : List V} {d : List D}, RepL K M H v d → v.length = d.length
  | _, _, .nil => rfl
  | _, _, .cons _ t => congrArg (· + 1) (RepL.length t)
theorem RepL.append : ∀ {v w : List V} {d e : List D}, RepL K M H v d → RepL K M H w e → RepL K M H (v ++ w) (d ++ e)
  | _, _, _, _, .nil, s => s
  | _, _, _, _, .cons r t, s => .cons r (RepL.append t s)
theorem RepL.take : ∀ {v : List V} {d : List D} (n : Nat), RepL K M H v d → RepL K M H (v.take n) (d.take n)
  | _, _, 0, _ => .nil
  | _, _, _ + 1, .nil => .nil
  | _, _, n + 1, .cons r t => .cons r (RepL.take n t)
theorem RepL.drop : ∀ {v : List V} {d : List D} (n : Nat), RepL K M H v d → RepL K M H (v.drop n) (d.drop n)
  | _, _, 0, r => r
  | _, _, _ + 1, .nil => .nil
  | _, _, n + 1, .cons _ t => RepL.drop n t
theorem RepL.get : ∀ {v : List V} {d : List D} {i : Nat} {e : D}, RepL K M H v d → d[i]? = some e → ∃ u, v[i]? = some u ∧ Rep K M H u e
  | _, _, _, _, .nil, h => by simp at h
  | _, _, 0, _, .cons r _, h => by simp at h; subst h; exact ⟨_, rfl, r⟩
  | _, _, i + 1, _, .cons _ t, h => by
    obtain ⟨u, h1, h2⟩ := RepL.get (i := i) t (by simpa using h)
    exact ⟨u, by simpa using h1, h2⟩
theorem RepL.getV : ∀ {v : List V} {d : List D} {i : Nat} {u : V}, RepL K M H v d → v[i]? = some u → ∃ e, d[i]? = some e ∧ Rep K M H u e
  | _, _, _, _, .nil, h => by simp at h
  | _, _, 0, _, .cons r _, h => by simp at h; subst h; exact ⟨_, rfl, r⟩
  | _, _, i + 1, _, .cons _ t, h => by
    obtain ⟨u, h1, h2⟩ := RepL.getV (i := i) t (by simpa using h)
    exact ⟨u, by simpa using h1, h2⟩
theorem RepL.set {w : V} {e : D} (q : Rep K M H w e) : ∀ {v : List V} {d : List D} (i : Nat), RepL K M H v d → RepL K M H (v.set i w) (d.set i e)
  | _, _, _, .nil => .nil
  | _, _, 0, .cons _ t => .cons q t
  | _, _, i + 1, .cons r t => .cons r (RepL.set q i t)
theorem RepL.reverse : ∀ {v : List V} {d : List D}, RepL K M H v d → RepL K M H v.reverse d.reverse
  | _, _, .nil => .nil
  | _, _, .cons r t => by rw [List.reverse_cons, List.reverse_cons]; exact (RepL.reverse t).append (.cons r .nil)
theorem RepL.snoc {v : List V} {d : List D} {w : V} {e : D} (r : RepL K M H v d) (q : Rep K M H w e) : RepL K M H (v ++ [w]) (d ++ [e]) := r.append (.cons q .nil)
end

/-! ### states -/
def ownA (σ : L2.St) (env : List Sl) (a : Addr) : Prop := ∃ (i : Nat) (l z : Bool) (d : D), env[i]? = some (.own l z d) ∧ σ[i]? = some (some (.ref a))
def ownL (σ : L2.St) (env : List Sl) (a : Addr) : Prop := ∃ (i : Nat) (l : Bool) (d : D), env[i]? = some (.own l false d) ∧ σ[i]? = some (some (.ref a))
def gaA (G : Gh) (a : Addr) : Prop := ∃ q, G.ga = some q ∧ (a = q.1 ∨ a = q.2)
def Mu (G : Gh) (σ : L2.St) (env : List Sl) (a : Addr) : Prop := G.mx a ∨ gaA G a ∨ ownA σ env a
def Lm (G : Gh) (σ : L2.St) (env : List Sl) (a : Addr) : Prop := gaA G a ∨ ownL σ env a
theorem Lm.mu {G : Gh} {σ : L2.St} {env : List Sl} {a : Addr} (h : Lm G σ env a) : Mu G σ env a := by
  rcases h with h | ⟨i, l, d, h⟩
  · exact .inr (.inl h)
  · exact .inr (.inr ⟨i, l, false, d, h⟩)
def Gh.more (G : Gh) (a : Addr) : Gh := { G with mx := fun b => G.mx b ∨ b = a }
theorem mu_more {G : Gh} {σ : L2.St} {env : List Sl} {a b : Addr} : Mu (G.more a) σ env b ↔ (Mu G σ env b ∨ b = a) := by
  constructor
  · rintro ((h | h) | h | h)
    · exact .inl (.inl h)
    · exact .inr h
    · exact .inl (.inr (.inl h))
    · exact .inl (.inr (.inr h))
  · rintro ((h | h | h) | h)
    · exact .inl (.inl h)
    · exact .inr (.inl h)
    · exact .inr (.inr h)
    · exact .inl (.inr h)

structure Ok (K : PySem.W.Frag) (G : Gh) (σ : L2.St) (H : Hp) (p : PS) : Prop where
  len : p.env.length = σ.length
  sh : ∀ (i : Nat) (d : D), p.env[i]? = some (.sh d) → ∃ v, σ[i]? = some (some v) ∧ Rep K (Mu G σ p.env) H v d
  ow : ∀ (i : Nat) (l z : Bool) (d : D), p.env[i]? = some (.own l z d) → ∃ a, σ[i]? = some (some (.ref a)) ∧ OwnAt K (Mu G σ p.env) H a d ∧ ¬ G.mx a ∧ ¬ gaA G a
  inj : ∀ (i j : Nat) (l z : Bool) (d : D) (l' z' : Bool) (d' : D) (a : Addr), p.env[i]? = some (.own l z d) → p.env[j]? = some (.own l' z' d') → σ[i]? = some (some (.ref a)) → σ[j]? = some (some (.ref a)) → i = j
  sr : ∀ i : Nat, p.env[i]? = some .src → ∃ q, G.ga = some q ∧ σ[i]? = some (some (.ref q.1))
  mx : ∀ a, G.mx a → H a ≠ none
  ga : ∀ q, G.ga = some q → q.1 ≠ q.2 ∧ H q.1 = some (.lst [.ref q.2, .int p.src.2]) ∧ H q.2 = some (.lst (p.src.1.map V.int)) ∧ ¬ G.mx q.1 ∧ ¬ G.mx q.2

section
variable {K : PySem.W.Frag} {G : Gh} {σ σ' : L2.St} {H H' : Hp} {p p' : PS} {a : Addr} {d : D} {v u : V}
theorem Ok.dom (o : Ok K G σ H p) (h : Mu G σ p.env a) : H a ≠ none := by
  rcases h with h | ⟨q, e, h⟩ | ⟨i, l, z, d, h1, h2⟩
  · exact o.mx a h
  · obtain ⟨_, h1, h2, _⟩ := o.ga q e
    rcases h with rfl | rfl
    · rw [h1]; simp
    · rw [h2]; simp
  · obtain ⟨b, h3, h4, _⟩ := o.ow i l z d h1
    rw [h2] at h3; cases h3
    obtain ⟨ob, h4⟩ := h4.some_
    rw [h4]; simp
/-- a step: what stood stands, but for what may be changed -/
structure Stp (K : PySem.W.Frag) (G : Gh) (σ : L2.St) (p : PS) (H : Hp) (σ' : L2.St) (p' : PS) (H' : Hp) : Prop where
  fr : ∀ a o, H a = some o → ¬ Lm G σ p.env a → H' a = some o
  dom : ∀ a, H' a = none → H a = none
  lm : ∀ a, Lm G σ' p'.env a → Lm G σ p.env a ∨ H a = none
  mu : ∀ a, Mu G σ' p'.env a → Mu G σ p.env a ∨ H a = none
  lent : ∀ (i : Nat) (z : Bool) (d : D), p.env[i]? = some (.own true z d) → ∃ (z' : Bool) (d' : D), p'.env[i]? = some (.own true z' d') ∧ σ'[i]? = σ[i]?
  lk : ∀ (i : Nat) (l : Bool) (d : D), p.env[i]? = some (.own l true d) → ∃ d' : D, p'.env[i]? = some (.own l true d') ∧ σ'[i]? = σ[i]?
  ok : Ok K G σ' H' p'
theorem Stp.refl (o : Ok K G σ H p) : Stp K G σ p H σ p H := ⟨fun _ _ h _ => h, fun _ h => h, fun _ h => .inl h, fun _ h => .inl h, fun _ z d h => ⟨z, d, h, rfl⟩, fun _ _ d h => ⟨d, h, rfl⟩, o⟩
theorem Stp.trans {σ'' : L2.St} {p'' : PS} {H'' : Hp} (s : Stp K G σ p H σ' p' H') (t : Stp K G σ' p' H' σ'' p'' H'') : Stp K G σ p H σ'' p'' H'' where
  fr := fun a o h n => t.fr a o (s.fr a o h n) fun z => by
    rcases s.lm a z with z | z
    · exact n z
    · rw [h] at z; cases z
  dom := fun a h => s.dom a (t.dom a h)
  lm := fun a h => by
    rcases t.lm a h with h | h
    · exact s.lm a h
    · exact .inr (s.dom a h)
  mu := fun a h => by
    rcases t.mu a h with h | h
    · exact s.mu a h
    · exact .inr (s.dom a h)
  lent := fun i z d h => by
    obtain ⟨z', d', h1, e1⟩ := s.lent i z d h
    obtain ⟨z2, d2, h2, e2⟩ := t.lent i z' d' h1
    exact ⟨z2, d2, h2, e2.trans e1⟩
  lk := fun i l d h => by
    obtain ⟨d', h1, e1⟩ := s.lk i l d h
    obtain ⟨d2, h2, e2⟩ := t.lk i l d' h1
    exact ⟨d2, h2, e2.trans e1⟩
  ok := t.ok
theorem Stp.rep (s : Stp K G σ p H σ' p' H') (r : Rep K (Mu G σ p.env) H v d) : Rep K (Mu G σ' p'.env) H' v d :=
  Rep.mono K (fun a o h n => s.fr a o h fun z => n z.mu) s.mu r
theorem Stp.repL {vs : List V} {ds : List D} (s : Stp K G σ p H σ' p' H') (r : RepL K (Mu G σ p.env) H vs ds) : RepL K (Mu G σ' p'.env) H' vs ds :=
  RepL.mono K (fun a o h n => s.fr a o h fun z => n z.mu) s.mu r

/-- the slots that an expression leaves: objects of one's own may have changed -/
def Same1 : Sl → Sl → Prop
  | .own l z _, .own l' z' _ => l = l' ∧ z = z'
  | x, y => x = y
def SameE (e e' : List Sl) : Prop := e.length = e'.length ∧ ∀ (i : Nat) (x : Sl), e[i]? = some x → ∃ y, e'[i]? = some y ∧ Same1 x y
theorem Same1.refl (x : Sl) : Same1 x x := by cases x <;> simp [Same1]
theorem SameE.refl (e : List Sl) : SameE e e := ⟨rfl, fun _ x h => ⟨x, h, Same1.refl x⟩⟩
theorem Same1.trans {x y z : Sl} (a : Same1 x y) (b : Same1 y z) : Same1 x z := by
  cases x <;> cases y <;> simp [Same1] at a <;> cases z <;> simp [Same1] at b <;> simp [Same1, *]
theorem SameE.trans {e e' e'' : List Sl} (a : SameE e e') (b : SameE e' e'') : SameE e e'' := ⟨a.1.trans b.1, fun i x h => by
  obtain ⟨y, h1, s1⟩ := a.2 i x h
  obtain ⟨z, h2, s2⟩ := b.2 i y h1
  exact ⟨z, h2, s1.trans s2⟩⟩
theorem SameE.own {e e' : List Sl} (s : SameE e e') {i : Nat} {l z : Bool} {d : D} (h : e[i]? = some (.own l z d)) : ∃ d', e'[i]? = some (.own l z d') := by
  obtain ⟨y, h1, h2⟩ := s.2 i _ h
  cases y <;> simp [Same1] at h2
  obtain ⟨rfl, rfl⟩ := h2
  exact ⟨_, h1⟩
theorem SameE.symm_own {e e' : List Sl} (s : SameE e e') {i : Nat} {l z : Bool} {d : D} (h : e'[i]? = some (.own l z d)) : ∃ d', e[i]? = some (.own l z d') := by
  have hi : i < e.length := by
    rw [s.1]; exact (List.getElem?_eq_some_iff.mp h).1
  obtain ⟨y, h1, h2⟩ := s.2 i _ (List.getElem?_eq_getElem hi)
  rw [h] at h1; cases h1
  cases q : e[i] <;> rw [q] at h2 <;> simp [Same1] at h2
  obtain ⟨rfl, rfl⟩ := h2
  exact ⟨_, by rw [List.getElem?_eq_getElem hi, q]⟩
theorem SameE.ownA {e e' : List Sl} (s : SameE e e') : ownA σ e' a ↔ ownA σ e a := by
  constructor
  · rintro ⟨i, l, z, d, h1, h2⟩
    obtain ⟨d', h1⟩ := s.symm_own h1
    exact ⟨i, l, z, d', h1, h2⟩
  · rintro ⟨i, l, z, d, h1, h2⟩
    obtain ⟨d', h1⟩ := s.own h1
    exact ⟨i, l, z, d', h1, h2⟩
theorem SameE.ownL {e e' : List Sl} (s : SameE e e') : ownL σ e' a ↔ ownL σ e a := by
  constructor
  · rintro ⟨i, l, d, h1, h2⟩
    obtain ⟨d', h1⟩ := s.symm_own h1
    exact ⟨i, l, d', h1, h2⟩
  · rintro ⟨i, l, d, h1, h2⟩
    obtain ⟨d', h1⟩ := s.own h1
    exact ⟨i, l, d', h1, h2⟩
theorem SameE.mu {e e' : List Sl} (s : SameE e e') : Mu G σ e' = Mu G σ e := by
  funext a; apply propext; unfold Mu; rw [s.ownA]
theorem SameE.lm {e e' : List Sl} (s : SameE e e') : Lm G σ e' = Lm G σ e := by
  funext a; apply propext; unfold Lm; rw [s.ownL]
end
end Py
set_option maxRecDepth 100000
namespace Py
open PySem PySem.Spec PyProof.Rows L2

/-! ### results -/
inductive R (α : Type) where
  | ok (a : α) (p : PS) | exc (c : Nat) (p : PS) | bad
def R.bind {α β : Type} (r : R α) (f : α → PS → R β) : R β := match r with
  | .ok a p => f a p
  | .exc c p => .exc c p
  | .bad => .bad
@[simp] theorem R.bind_ok {α β : Type} (a : α) (p : PS) (f : α → PS → R β) : (R.ok a p).bind f = f a p := rfl
@[simp] theorem R.bind_exc {α β : Type} (c : Nat) (p : PS) (f : α → PS → R β) : (R.exc c p : R α).bind f = .exc c p := rfl
@[simp] theorem R.bind_bad {α β : Type} (f : α → PS → R β) : (R.bad : R α).bind f = .bad := rfl
abbrev Dn := PS → R Rv
abbrev DnL := PS → R (List Rv)
/-- an optional value, or bad -/
def give (o : Option Rv) (p : PS) : R Rv := match o with
  | some v => .ok v p
  | none => .bad
@[simp] theorem give_some (v : Rv) (p : PS) : give (some v) p = .ok v p := rfl
@[simp] theorem give_none (p : PS) : give none p = .bad := rfl

def opd (v : Rv) (p : PS) : Option D := match v with
  | .sh d => some d
  | .ow d => some d
  | .bo i => match p.env[i]? with
    | some (.own _ _ d) => some d
    | _ => none
  | .sr => none
def Rv.soft : Rv → Rv
  | .ow d => .sh d
  | v => v
@[simp] theorem opd_sh (d : D) (p : PS) : opd (.sh d) p = some d := rfl
@[simp] theorem opd_ow (d : D) (p : PS) : opd (.ow d) p = some d := rfl
@[simp] theorem soft_sh (d : D) : (Rv.sh d).soft = .sh d := rfl
@[simp] theorem soft_ow (d : D) : (Rv.ow d).soft = .sh d := rfl
@[simp] theorem soft_bo (i : Nat) : (Rv.bo i).soft = .bo i := rfl
@[simp] theorem soft_sr : (Rv.sr).soft = .sr := rfl

section
variable (K : PySem.W.Frag)
def StpE (G : Gh) (σ : L2.St) (p : PS) (H : Hp) (p' : PS) (H' : Hp) : Prop := Stp K G σ p H σ p' H' ∧ SameE p.env p'.env
def RvOk (G : Gh) (σ : L2.St) (p : PS) (H0 H : Hp) (u : V) : Rv → Prop
  | .sh d => Rep K (Mu G σ p.env) H u d
  | .ow d => d.plain = true ∧ ∃ a, u = .ref a ∧ H0 a = none ∧ ¬ Mu G σ p.env a ∧ OwnAt K (Mu (G.more a) σ p.env) H a d ∧ Ok K (G.more a) σ H p
  | .bo i => (∃ l z d, p.env[i]? = some (.own l z d)) ∧ σ[i]? = some (some u)
  | .sr => ∃ q, G.ga = some q ∧ u = .ref q.1
def Post (cl : Nat → Addr) (W : WX) (G : Gh) (σ : L2.St) (H : Hp) (p : PS) (Q : VK) : R Rv → Prop
  | .ok v p' => ∀ u H', StpE K G σ p H p' H' → RvOk K G σ p' H H' u v → Q u H'
  | .exc c p' => ∀ H', StpE K G σ p H p' H' → FlyX cl (fun v d H' => W v d σ H') H c H'
  | .bad => False
/-- an expression's reading from its meaning -/
def tE (cl : Nat → Addr) (W : WX) (den : Dn) : TE := fun σ H Q => ∃ (G : Gh) (p : PS), Ok K G σ H p ∧ Post K cl W G σ H p Q (den p)
def PostL (cl : Nat → Addr) (W : WX) (G : Gh) (σ : L2.St) (H : Hp) (p : PS) (Q : List V → Hp → Prop) : R (List Rv) → Prop
  | .ok vs p' => ∀ us H', StpE K G σ p H p' H' → Paired (fun u v => RvOk K G σ p' H' H' u v) us vs → Q us H'
  | .exc c p' => ∀ H', StpE K G σ p H p' H' → FlyX cl (fun v d H' => W v d σ H') H c H'
  | .bad => False
def tL (cl : Nat → Addr) (W : WX) (den : DnL) : TA := fun σ H Q => ∃ (G : Gh) (p : PS), Ok K G σ H p ∧ PostL K cl W G σ H p Q (den p)
end

section
variable {K : PySem.W.Frag} {G : Gh} {σ : L2.St} {H H' H0 : Hp} {p p' p'' : PS} {a : Addr} {d : D} {u : V} {v : Rv} {cl : Nat → Addr} {W : WX}
theorem StpE.refl (o : Ok K G σ H p) : StpE K G σ p H p H := ⟨.refl o, .refl _⟩
theorem StpE.trans {H'' : Hp} (s : StpE K G σ p H p' H') (t : StpE K G σ p' H' p'' H'') : StpE K G σ p H p'' H'' := ⟨s.1.trans t.1, s.2.trans t.2⟩
theorem StpE.ok (s : StpE K G σ p H p' H') : Ok K G σ H' p' := s.1.ok
theorem RvOk.soft (r : RvOk K G σ p H0 H u v) : RvOk K G σ p H H u v.soft := by
  cases v with
  | ow d =>
    obtain ⟨hp, a, rfl, h1, h2, h3, h4⟩ := r
    exact h3.rep h2 (fun b z => mu_more.mpr (.inl z)) hp
  | sh d => exact r
  | bo i => exact r
  | sr => exact r
theorem RvOk.step (r : RvOk K G σ p H0 H u v.soft) (s : StpE K G σ p H p' H') : RvOk K G σ p' H' H' u v.soft := by
  cases v with
  | ow d => exact s.1.rep (show Rep K _ H u d from r)
  | sh d => exact s.1.rep (show Rep K _ H u d from r)
  | bo i =>
    obtain ⟨⟨l, z, d, h1⟩, h2⟩ := r
    obtain ⟨d', h1⟩ := s.2.own h1
    exact ⟨⟨l, z, d', h1⟩, h2⟩
  | sr => exact r
theorem opd_soft (v : Rv) (p : PS) : opd v.soft p = opd v p := by cases v <;> rfl
theorem RvOk.rdb (o : Ok K G σ H p) (r : RvOk K G σ p H0 H u v) (h : opd v p = some d) : Rdb K (Mu G σ p.env) H u d := by
  cases v with
  | sh e => cases h; exact .inl r
  | ow e => cases h; exact .inl (show Rep K _ _ _ _ from r.soft)
  | bo i =>
    obtain ⟨⟨l, z, e, h1⟩, h2⟩ := r
    have h : (match p.env[i]? with | some (.own _ _ d) => some d | _ => none) = some d := h
    rw [h1] at h; cases h
    obtain ⟨b, h3, h4, _⟩ := o.ow i l z _ h1
    rw [h2] at h3; cases h3
    exact .inr ⟨b, rfl, h4⟩
  | sr => cases h

/-- the heap has grown -/
theorem Ok.grow (o : Ok K G σ H p) (s : Same H H') : Ok K G σ H' p where
  len := o.len
  sh := fun i d h => by
    obtain ⟨v, h1, h2⟩ := o.sh i d h
    exact ⟨v, h1, Rep.mono K (fun a ob h _ => s a ob h) (fun a z => .inl z) h2⟩
  ow := fun i l z d h => by
    obtain ⟨b, h1, h2, h3⟩ := o.ow i l z d h
    exact ⟨b, h1, h2.mono (fun a ob h _ => s a ob h) (fun a z => .inl z) (fun ob h => s b ob h), h3⟩
  inj := o.inj
  sr := o.sr
  mx := fun a h => by
    cases q : H a with
    | none => exact absurd q (o.mx a h)
    | some ob => rw [s a ob q]; simp
  ga := fun q h => by
    obtain ⟨h1, h2, h3, h4⟩ := o.ga q h
    exact ⟨h1, s _ _ h2, s _ _ h3, h4⟩
theorem Ok.more (o : Ok K G σ H p) (s : Same H H') (hn : H a = none) (hs : H' a ≠ none) : Ok K (G.more a) σ H' p where
  len := o.len
  sh := fun i d h => by
    obtain ⟨v, h1, h2⟩ := o.sh i d h
    refine ⟨v, h1, Rep.mono K (fun a ob h _ => s a ob h) (fun b z => ?_) h2⟩
    rcases mu_more.mp z with z | rfl
    · exact .inl z
    · exact .inr hn
  ow := fun i l z d h => by
    obtain ⟨b, h1, h2, h3, h4⟩ := o.ow i l z d h
    refine ⟨b, h1, h2.mono (fun a ob h _ => s a ob h) (fun b z => ?_) (fun ob h => s b ob h), ?_, h4⟩
    · rcases mu_more.mp z with z | rfl
      · exact .inl z
      · exact .inr hn
    · rintro (z | rfl)
      · exact h3 z
      · obtain ⟨ob, h2⟩ := h2.some_
        rw [hn] at h2; cases h2
  inj := o.inj
  sr := o.sr
  mx := fun b h => by
    rcases h with h | rfl
    · cases q : H b with
      | none => exact absurd q (o.mx b h)
      | some ob => rw [s b ob q]; simp
    · exact hs
  ga := fun q h => by
    obtain ⟨h1, h2, h3, h4, h5⟩ := o.ga q h
    refine ⟨h1, s _ _ h2, s _ _ h3, ?_, ?_⟩
    · rintro (z | z)
      · exact h4 z
      · rw [z, hn] at h2; cases h2
    · rintro (z | z)
      · exact h5 z
      · rw [z, hn] at h3; cases h3
theorem StpE.grow (o : Ok K G σ H p) (s : Same H H') : StpE K G σ p H p H' :=
  ⟨⟨fun a ob h _ => s a ob h, fun a h => s.free h, fun a h => .inl h, fun a h => .inl h, fun i z d h => ⟨z, d, h, rfl⟩, fun i l d h => ⟨d, h, rfl⟩, o.grow s⟩, .refl _⟩

/-- what an operation on values gives -/
def Res (K : PySem.W.Frag) (M : Addr → Prop) (H : Hp) (Q : VK) : Rv → Prop
  | .sh d => ∀ z H', Same H H' → Rep K M H' z d → Q z H'
  | .ow d => ∀ q H', Same H H' → H q = none → OwnAt K (fun b => M b ∨ b = q) H' q d → Q (.ref q) H'
  | _ => False
theorem same_upd {H : Hp} {a : Addr} {o : HO} (h : H a = none) : Same H (upd H a o) := fun b x e => by
  rw [upd_ne (ne_of_none e h)]; exact e
theorem res_of {Q : VK} (o : Ok K G σ H p) (h : ∀ u H', StpE K G σ p H p H' → RvOk K G σ p H H' u v → Q u H') (hb : ∀ i, v ≠ .bo i) (hs : v ≠ .sr) (hd : ∀ d, v = .ow d → d.plain = true) : Res K (Mu G σ p.env) H Q v := by
  cases v with
  | sh d => exact fun z H' s r => h z H' (.grow o s) r
  | ow d =>
    refine fun q H' s hq r => h (.ref q) H' (.grow o s) ⟨hd d rfl, q, rfl, hq, fun z => o.dom z hq, ?_, ?_⟩
    · have e : (fun b => Mu G σ p.env b ∨ b = q) = Mu (G.more q) σ p.env := by
        funext b; exact propext mu_more.symm
      rw [← e]; exact r
    · obtain ⟨ob, r⟩ := r.some_
      exact o.more s hq (by rw [r]; simp)
  | bo i => exact absurd rfl (hb i)
  | sr => exact absurd rfl hs
/-- plain results: shared or new -/
def Rv.plain : Rv → Bool
  | .sh _ => true
  | .ow d => d.plain
  | _ => false
theorem res_of' {Q : VK} (o : Ok K G σ H p) (h : ∀ u H', StpE K G σ p H p H' → RvOk K G σ p H H' u v → Q u H') (hp : v.plain = true) : Res K (Mu G σ p.env) H Q v :=
  res_of o h (fun i e => by subst e; cases hp) (fun e => by subst e; cases hp) (fun d e => by subst e; exact hp)
end

/-! ### the static side -/
structure Sx where
  N : List Str
  sc : Scope
  fn : Str → Bool
inductive FR where
  | ok (fresh : Bool) (d : D) (back : List Sl) (src : List Int × Int)
  | exc (c : Nat) (back : List Sl) (src : List Int × Int)
  | bad
structure Tab where
  k : Nat
  er : Nat → Bool
  name : Nat → Option Str
  mt : Nat → Option (Nat × Str)
  ob : Nat → Bool
  ar : Nat → Nat
  sem : Nat → List Sl → List Int × Int → FR
  free : Str → Bool
  con : Str → Option D
/-- the arguments at a call -/
def ArgOk (K : PySem.W.Frag) (G : Gh) (M : Addr → Prop) (H : Hp) (v : V) : Sl → Prop
  | .sh d => Rep K M H v d
  | .own l z d => l = true ∧ z = false ∧ ∃ a, v = .ref a ∧ OwnAt K M H a d ∧ ¬ G.mx a ∧ ¬ gaA G a
  | .src => ∃ q, G.ga = some q ∧ v = .ref q.1
  | .no => False
/-- the addresses of what is lent -/
def lentA (vs : List V) (args : List Sl) (a : Addr) : Prop := ∃ (i : Nat) (l z : Bool) (d : D), args[i]? = some (.own l z d) ∧ vs[i]? = some (.ref a)
def Ma (G : Gh) (vs : List V) (args : List Sl) (a : Addr) : Prop := G.mx a ∨ gaA G a ∨ lentA vs args a
structure CallOk (K : PySem.W.Frag) (G : Gh) (H : Hp) (vs : List V) (args : List Sl) (src : List Int × Int) : Prop where
  ar : Paired (fun v s => ArgOk K G (Ma G vs args) H v s) vs args
  inj : ∀ (i j : Nat) (l z : Bool) (d : D) (l' z' : Bool) (d' : D) (a : Addr), args[i]? = some (.own l z d) → args[j]? = some (.own l' z' d') → vs[i]? = some (.ref a) → vs[j]? = some (.ref a) → i = j
  mx : ∀ a, G.mx a → H a ≠ none
  ga : ∀ q, G.ga = some q → q.1 ≠ q.2 ∧ H q.1 = some (.lst [.ref q.2, .int src.2]) ∧ H q.2 = some (.lst (src.1.map V.int)) ∧ ¬ G.mx q.1 ∧ ¬ G.mx q.2
/-- behind a call: the lent arguments as back tells, the rest as it was -/
structure BackOk (K : PySem.W.Frag) (G : Gh) (H : Hp) (vs : List V) (args : List Sl) (back : List Sl) (src : List Int × Int) (H' : Hp) : Prop where
  fr : ∀ a o, H a = some o → ¬ (gaA G a ∨ lentA vs args a) → H' a = some o
  dom : ∀ a, H' a = none → H a = none
  bk : SameE args back
  own : ∀ (i : Nat) (l z : Bool) (d : D) (a : Addr), back[i]? = some (.own l z d) → vs[i]? = some (.ref a) → OwnAt K (Ma G vs args) H' a d
  ga : ∀ q, G.ga = some q → H' q.1 = some (.lst [.ref q.2, .int src.2]) ∧ H' q.2 = some (.lst (src.1.map V.int))
def spF (K : PySem.W.Frag) (cl : Nat → Addr) (n : Nat) (sem : List Sl → List Int × Int → FR) : Sp := fun vs H Q E => vs.length = n ∧ ∃ (G : Gh) (args : List Sl) (src : List Int × Int), CallOk K G H vs args src ∧
  match sem args src with
  | .ok false d back src' => ∀ u H', BackOk K G H vs args back src' H' → Rep K (Ma G vs args) H' u d → Q u H'
  | .ok true d back src' => ∀ q H', H q = none → d.plain = true → BackOk K (G.more q) H vs args back src' H' → OwnAt K (Ma (G.more q) vs args) H' q d → Q (.ref q) H'
  | .exc c back src' => ∀ H', BackOk K G H vs args back src' H' → FlyX cl E H c H'
  | .bad => False

/-- class n is below class m: FixError is 0, the others stand below it -/
def subN (n m : Nat) : Bool := n == m || m == 0
/-- what the module's run tells of an error class of the program -/
structure ErrC (K : PySem.W.Frag) (mg : Str → Option Value) (n : Nat) : Prop where
  glo : mg (nameN n) = some (.ref (clK K n))
  ei : (n == 6 || n == 13) = false → PySem.W.excIn K (clK K n) He.veBase "ValueError.__new__" = true
  kp : PySem.W.keepIn K (.ref (clK K n)) = true
  sb : PySem.W.subIn K (.ref (clK K n)) (.type "BaseException") = some true
  ty : PySem.W.typeIn K (.ref (clK K n)) = some (.type "type")
  sv : PySem.W.kitOne K (.ref (clK K n)) (.type "ValueError") = some true
  ec : ExcC K (clK K n)
/-- the names of an error's fields, as __init__ writes them -/
def xnm (n : Nat) : List Str := if n = 6 then ["at"] else ["line", "reason"]
/-- what an error's __init__ does -/
def spX (K : PySem.W.Frag) (n : Nat) : Sp := fun vs H Q E => ∃ (a : Addr) (ws : List V), vs = .ref a :: ws ∧ ws.length = (xnm n).length ∧ H a = some (exo a (clK K n) none) ∧
  ∀ d H', H d = none → d ≠ a → (∀ b, b ≠ a → b ≠ d → H' b = H b) → H' a = some (exo a (clK K n) (some d)) → H' d = some (exd d ((xnm n).zip ws).reverse) → Q .non H'
/-- what the module's run tells of an error class with an __init__ -/
structure XrC (P : Program) (w : World) (K : PySem.W.Frag) (mg : Str → Option Value) (base : Heap) (n : Nat) : Prop where
  ox : OexC K (clK K n)
  ini : ∃ (f : Addr) (fd : FuncData) (ps : List Str), PySem.W.findIn K (.ref (clK K n)) "__init__" = some (some (.ref f)) ∧ PySem.W.typeIn K (.ref f) = some (.type "function") ∧ Binds K fd ps [] ∧ FnOk P w K mg base (L2.CX P w) 1 f fd ps (spX K n)
  noat : ∀ x ∈ xnm n, PySem.W.findIn K (.ref (clK K n)) x = some none
/-- what the module's run tells of a class of the program -/
structure ClsC (K : PySem.W.Frag) (mg : Str → Option Value) (c : Nat) : Prop where
  glo : mg (nameC c) = some (.ref (clA K c))
  cls : Cls K (clA K c)
  noat : ∀ f ∈ flds c, NoAttr K (clA K c) f
  makes : PySem.W.makesIn K (clA K c) = true
  kp : PySem.W.keepIn K (.ref (clA K c)) = true
/-- the names that are properties -/
def propN (x : Str) : Bool := x == ("book" : Str) || x == ("text" : Str)
/-- the def at f under the name x of the class: a method, a property's getter -/
def MK (K : PySem.W.Frag) (C : Addr) (x : Str) (f : Addr) : Prop := if propN x = true then ∃ p, L2.PropOf K C x p f else Meth K C x f
theorem mk_meth {K : PySem.W.Frag} {C : Addr} {x : Str} {f : Addr} (h : propN x = false) (m : MK K C x f) : Meth K C x f := by
  unfold MK at m
  rw [if_neg (by rw [h]; exact Bool.false_ne_true)] at m
  exact m
theorem mk_prop {K : PySem.W.Frag} {C : Addr} {x : Str} {f : Addr} (h : propN x = true) (m : MK K C x f) : ∃ p, L2.PropOf K C x p f := by
  unfold MK at m
  rw [if_pos h] at m
  exact m
theorem meth_mk {K : PySem.W.Frag} {C : Addr} {x : Str} {f : Addr} (h : propN x = false) (m : Meth K C x f) : MK K C x f := by
  unfold MK
  rw [if_neg (by rw [h]; exact Bool.false_ne_true)]
  exact m
theorem prop_mk {K : PySem.W.Frag} {C : Addr} {x : Str} {p f : Addr} (h : propN x = true) (m : L2.PropOf K C x p f) : MK K C x f := by
  unfold MK
  rw [if_pos h]
  exact ⟨p, m⟩
structure Facts (T : Tab) (P : Program) (w : World) (K : PySem.W.Frag) (mg : Str → Option Value) (base : Heap) : Prop where
  fn : ∀ n x, T.name n = some x → (x == ("__debug__" : Str)) = false ∧ ∃ (f : Addr) (fd : FuncData) (ps : List Str), mg x = some (.ref f) ∧ PySem.W.keepIn K (.ref f) = true ∧ Binds K fd ps [] ∧ ps.length = T.ar n ∧ FnOk P w K mg base (L2.CX P w) T.k f fd ps (spF K (clK K) (T.ar n) (T.sem n))
  free : ∀ x, T.free x = true → mg x = none
  con : ∀ x d, T.con x = some d → (x == ("__debug__" : Str)) = false ∧ ∃ (v : V) (u : Value), mg x = some u ∧ RelV v u ∧ ∀ M H, Rep K M H v d
  er : ∀ n, T.er n = true → ErrC K mg n
  mt : ∀ n c x, T.mt n = some (c, x) → n + 1 ≤ T.k ∧ ∃ (f : Addr) (fd : FuncData) (ps : List Str), MK K (clA K c) x f ∧ Binds K fd ps [] ∧ ps.length = T.ar n ∧ FnOk P w K mg base (L2.CX P w) (n + 1) f fd ps (spF K (clK K) (T.ar n) (T.sem n))
  ob : ∀ c, T.ob c = true → ClsC K mg c
  xr : ∀ n, T.er n = true → (n == 6 || n == 13) = true → XrC P w K mg base n
  sub : ∀ n m, T.er n = true → T.er m = true → PySem.W.exmOne K (.ref (clK K n)) (.ref (clK K m)) = some (subN n m)

structure CtxOk (s : Sx) (T : Tab) (X : Cx) : Prop where
  N : X.N = s.N
  sc : X.env.scope = s.sc
  nd : s.N.Nodup
  calm : X.calm = true
  room : Room T.k X.A
  fn : ∀ x, s.fn x = true → X.fn x = true
  fac : Facts T X.prog X.w X.K X.mg X.base

/-- an expression and its meaning -/
def VE (s : Sx) (T : Tab) (e : Expr) (den : Dn) : Prop := ∀ (X : Cx) (W : WX), CtxOk s T X → Takes X W → PE X e (tE X.K (clK X.K) W den)
def VL (s : Sx) (T : Tab) (es : List Expr) (den : DnL) : Prop := ∀ (X : Cx) (W : WX), CtxOk s T X → Takes X W → PA X es (tL X.K (clK X.K) W den)

theorem PE.of {X : Cx} {e : Expr} {t t' : TE} (h : PE X e t) (i : ∀ σ H Q, t' σ H Q → t σ H Q) : PE X e t' := ⟨fun pins s σ H Q I q => h.run pins s σ H Q I (i σ H Q q)⟩
theorem PA.of {X : Cx} {e : List Expr} {t t' : TA} (h : PA X e t) (i : ∀ σ H Q, t' σ H Q → t σ H Q) : PA X e t' := ⟨fun pos pins s σ H Q I q => h.run pos pins s σ H Q I (i σ H Q q)⟩
theorem PT.of {X : Cx} {e : Expr} {t t' : TT} (h : PT X e t) (i : ∀ σ H Q, t' σ H Q → t σ H Q) : PT X e t' := ⟨fun pins s σ H Q I q => h.run pins s σ H Q I (i σ H Q q)⟩

/-! ### the general steps -/
section
variable {K : PySem.W.Frag} {G : Gh} {σ : L2.St} {H H' H0 : Hp} {p p' p'' : PS} {cl : Nat → Addr} {W : WX}
/-- a later part's end, told from the beginning -/
theorem Post.from {r : R Rv} {Q : VK} (s : StpE K G σ p H p' H') (h : Post K cl W G σ H p Q r) : Post K cl W G σ H' p' Q r := by
  cases r with
  | ok v p2 =>
    refine fun u H2 t r => h u H2 (s.trans t) ?_
    cases v with
    | ow d =>
      obtain ⟨hp, a, e, h1, h2⟩ := r
      exact ⟨hp, a, e, s.1.dom a h1, h2⟩
    | sh d => exact r
    | bo i => exact r
    | sr => exact r
  | exc c p2 => exact fun H2 t => (h H2 (s.trans t)).from s.1.dom
  | bad => exact h.elim
theorem PostL.from {r : R (List Rv)} {Q : List V → Hp → Prop} (s : StpE K G σ p H p' H') (h : PostL K cl W G σ H p Q r) : PostL K cl W G σ H' p' Q r := by
  cases r with
  | ok v p2 => exact fun u H2 t r => h u H2 (s.trans t) r
  | exc c p2 => exact fun H2 t => (h H2 (s.trans t)).from s.1.dom
  | bad => exact h.elim
/-- go on behind a first part -/
theorem te_bind {da : Dn} {f : Rv → PS → R Rv} {Q : VK} {Q' : VK} (o : Ok K G σ H p) (h : Post K cl W G σ H p Q ((da p).bind f))
    (k : ∀ v p1 u H1, StpE K G σ p H p1 H1 → RvOk K G σ p1 H H1 u v → Post K cl W G σ H1 p1 Q (f v p1) → Q' u H1) : tE K cl W da σ H Q' := by
  refine ⟨G, p, o, ?_⟩
  cases e : da p with
  | ok v p1 =>
    rw [e] at h
    exact fun u H1 s r => k v p1 u H1 s r (Post.from s h)
  | exc c p1 => rw [e] at h; exact h
  | bad => rw [e] at h; exact h.elim
theorem te_bindL {da : Dn} {f : Rv → PS → R (List Rv)} {Q : List V → Hp → Prop} {Q' : VK} (o : Ok K G σ H p) (h : PostL K cl W G σ H p Q ((da p).bind f))
    (k : ∀ v p1 u H1, StpE K G σ p H p1 H1 → RvOk K G σ p1 H H1 u v → PostL K cl W G σ H1 p1 Q (f v p1) → Q' u H1) : tE K cl W da σ H Q' := by
  refine ⟨G, p, o, ?_⟩
  cases e : da p with
  | ok v p1 =>
    rw [e] at h
    exact fun u H1 s r => k v p1 u H1 s r (PostL.from s h)
  | exc c p1 => rw [e] at h; exact h
  | bad => rw [e] at h; exact h.elim
theorem tl_bind {da : DnL} {f : List Rv → PS → R Rv} {Q : VK} {Q' : List V → Hp → Prop} (o : Ok K G σ H p) (h : Post K cl W G σ H p Q ((da p).bind f))
    (k : ∀ v p1 u H1, StpE K G σ p H p1 H1 → Paired (fun u v => RvOk K G σ p1 H1 H1 u v) u v → Post K cl W G σ H1 p1 Q (f v p1) → Q' u H1) : tL K cl W da σ H Q' := by
  refine ⟨G, p, o, ?_⟩
  cases e : da p with
  | ok v p1 =>
    rw [e] at h
    exact fun u H1 s r => k v p1 u H1 s r (Post.from s h)
  | exc c p1 => rw [e] at h; exact h
  | bad => rw [e] at h; exact h.elim
theorem tl_bindL {da : DnL} {f : List Rv → PS → R (List Rv)} {Q : List V → Hp → Prop} {Q' : List V → Hp → Prop} (o : Ok K G σ H p) (h : PostL K cl W G σ H p Q ((da p).bind f))
    (k : ∀ v p1 u H1, StpE K G σ p H p1 H1 → Paired (fun u v => RvOk K G σ p1 H1 H1 u v) u v → PostL K cl W G σ H1 p1 Q (f v p1) → Q' u H1) : tL K cl W da σ H Q' := by
  refine ⟨G, p, o, ?_⟩
  cases e : da p with
  | ok v p1 =>
    rw [e] at h
    exact fun u H1 s r => k v p1 u H1 s r (PostL.from s h)
  | exc c p1 => rw [e] at h; exact h
  | bad => rw [e] at h; exact h.elim
theorem post_give {o : Option Rv} {Q : VK} (k : Ok K G σ H p) (h : Post K cl W G σ H p Q (give o p)) (hp : ∀ v, o = some v → v.plain = true) : ∃ v, o = some v ∧ Res K (Mu G σ p.env) H Q v := by
  cases o with
  | none => exact h.elim
  | some v => exact ⟨v, rfl, res_of' k h (hp v rfl)⟩
end
end Py
set_option maxRecDepth 100000
namespace Py
open PySem PySem.Spec PyProof.Rows L2

/-! ### names, constants -/
def dVar (i : Nat) : Dn := fun p => match p.env[i]? with
  | some (.sh d) => .ok (.sh d) p
  | some (.own _ _ _) => .ok (.bo i) p
  | some .src => .ok .sr p
  | _ => .bad
def dC (d : D) : Dn := fun p => .ok (.sh d) p
section
variable {s : Sx} {T : Tab} {pos : Pos}
def visB (sc : Scope) (x : Str) : Bool := match sc.names.lookup x with
  | some .local => true
  | some .cell => true
  | some .free => true
  | _ => false
theorem vis_of {sc : Scope} {x : Str} (h : visB sc x = true) : Vis sc x := by
  unfold visB at h
  unfold Vis
  cases q : sc.names.lookup x with
  | none => rw [q] at h; cases h
  | some k => cases k <;> rw [q] at h <;> simp at h ⊢
theorem v_var (i : Nat) {x : Str} (hN : s.N[i]? = some x) (hv : visB s.sc x = true) (hd : (x == ("__debug__" : Str)) = false := by decide) (hcd : (x == ("__classdict__" : Str)) = false := by decide) : VE s T (.Name x pos) (dVar i) := fun X W c tk => by
  refine PE.of (pe_var (i := i) (by rw [c.N]; exact hN) (by rw [c.sc]; exact vis_of hv) hd hcd) fun σ H Q h => ?_
  obtain ⟨G, p, o, h⟩ := h
  unfold dVar at h
  cases q : p.env[i]? with
  | none => rw [q] at h; exact h.elim
  | some sl =>
    rw [q] at h
    cases sl with
    | no => exact h.elim
    | sh d =>
      obtain ⟨v, h1, h2⟩ := o.sh i d q
      exact ⟨v, h1, h v H (.refl o) h2⟩
    | own l z d =>
      obtain ⟨a, h1, h2, _⟩ := o.ow i l z d q
      exact ⟨.ref a, h1, h (.ref a) H (.refl o) ⟨⟨l, z, d, q⟩, h1⟩⟩
    | src =>
      obtain ⟨g, h1, h2⟩ := o.sr i q
      exact ⟨_, h2, h _ H (.refl o) ⟨g, h1, rfl⟩⟩
theorem v_c {e : Expr} {v : V} {d : D} (h : ∀ X, PE X e (tC v)) (r : ∀ K M H, Rep K M H v d) : VE s T e (dC d) := fun X W c tk => PE.of (h X) fun σ H Q h => by
  obtain ⟨G, p, o, h⟩ := h
  exact h v H (.refl o) (r _ _ _)
theorem v_int {i : Int} {j : Nat} : VE s T (.Constant (.int i) j pos) (dC (.int i)) := v_c (fun _ => pe_int) fun _ _ _ => .int
theorem v_bl {i : Bool} {j : Nat} : VE s T (.Constant (.bool i) j pos) (dC (.bl i)) := v_c (fun _ => pe_bl) fun _ _ _ => .bl
theorem v_non {j : Nat} : VE s T (.Constant .none j pos) (dC .non) := v_c (fun _ => pe_non) fun _ _ _ => .non
theorem S_of {x : Str} {l : List Nat} (h : x.cps.toList = l) : x = S l := by
  subst h
  cases x
  simp [S]
theorem v_str {x : Str} {l : List Nat} {j : Nat} (h : x.cps.toList = l) : VE s T (.Constant (.str x) j pos) (dC (.str l)) := v_c (v := .str x) (fun _ => pe_str) fun _ _ _ => by
  rw [S_of h]
  exact .str
theorem v_con {x : Str} {d : D} (hc : T.con x = some d) (hg : s.sc.names.lookup x = some .globalImplicit) : VE s T (.Name x pos) (dC d) := fun X W c tk => by
  obtain ⟨hdb, v, u, h1, h2, h3⟩ := c.fac.con x d hc
  refine PE.of (pe_glob (v := v) (u := u) (by show X.env.scope.names.lookup x = _; rw [c.sc]; exact hg) h1 h2 hdb) fun σ H Q h => ?_
  obtain ⟨G, p, o, h⟩ := h
  exact h v H (.refl o) (h3 _ _)

/-! ### two operands -/
def fin2 (f : D → D → Option Rv) (x y : Rv) (p : PS) : R Rv := match opd x p, opd y p with
  | some a, some b => give (f a b) p
  | _, _ => .bad
def d2 (f : D → D → Option Rv) (da db : Dn) : Dn := fun p => (da p).bind fun x p1 => (db p1).bind fun y p2 => fin2 f x y p2
def Op2 (K : PySem.W.Frag) (f : D → D → Option Rv) (r : R2) : Prop := ∀ (M : Addr → Prop) (H : Hp) (x y : V) (a b : D) (v : Rv) (Q : VK), (∀ z, M z → H z ≠ none) → Rdb K M H x a → Rdb K M H y b → f a b = some v →
  v.plain = true ∧ (Res K M H Q v → r x y H Q)
theorem fin2_run {K : PySem.W.Frag} {cl : Nat → Addr} {W : WX} {f : D → D → Option Rv} {r : R2} (h2 : Op2 K f r) {G : Gh} {σ : L2.St} {H H0 H0' : Hp} {p : PS} {Q : VK} {x y : V} {v w : Rv} (o : Ok K G σ H p) (rx : RvOk K G σ p H0 H x v) (ry : RvOk K G σ p H0' H y w)
    (h : Post K cl W G σ H p Q (fin2 f v w p)) : r x y H Q := by
  unfold fin2 at h
  cases e1 : opd v p with
  | none => rw [e1] at h; exact h.elim
  | some a =>
    cases e2 : opd w p with
    | none => rw [e1, e2] at h; exact h.elim
    | some b =>
      rw [e1, e2] at h
      have ra := rx.rdb o e1
      have rb := ry.rdb o e2
      obtain ⟨z, hz, q⟩ := post_give o h fun v e => (h2 _ H x y a b v Q (fun z => o.dom) ra rb e).1
      exact (h2 _ H x y a b z Q (fun z => o.dom) ra rb hz).2 q
theorem fin2_soft {f : D → D → Option Rv} {v w : Rv} {p : PS} : fin2 f v.soft w p = fin2 f v w p := by
  unfold fin2
  rw [opd_soft]
theorem op2_run {K : PySem.W.Frag} {cl : Nat → Addr} {W : WX} {f : D → D → Option Rv} {r : R2} {da db : Dn} (h2 : Op2 K f r) {σ : L2.St} {H : Hp} {Q : VK} (h : tE K cl W (d2 f da db) σ H Q) : tE K cl W da σ H fun x H1 => tE K cl W db σ H1 fun y H2 => r x y H2 Q := by
  obtain ⟨G, p, o, h⟩ := h
  refine te_bind o h fun v p1 u H1 s1 r1 h => ?_
  refine te_bind s1.ok h fun v2 p2 u2 H2 s2 r2 h => ?_
  rw [← fin2_soft] at h
  exact fin2_run h2 s2.ok (r1.soft.step s2) r2 h
theorem v_bin {a b : Expr} {op : Operator} {f : D → D → Option Rv} {r : PySem.W.Frag → R2} {da db : Dn} (ho : ∀ X, CtxOk s T X → OpR X (binaryOp op) (r X.K)) (h2 : ∀ K, Op2 K f (r K)) (ha : VE s T a da) (hb : VE s T b db) : VE s T (.BinOp a op b pos) (d2 f da db) :=
  fun X W c tk => PE.of (pe_op (ho X c) (ha X W c tk) (hb X W c tk)) fun σ H Q h => op2_run (h2 X.K) h
theorem v_cmp {a b : Expr} {op : CmpOp} {f : D → D → Option Rv} {r : PySem.W.Frag → R2} {da db : Dn} (ho : ∀ X, CtxOk s T X → OpR X (compareOp op) (r X.K)) (h2 : ∀ K, Op2 K f (r K)) (ha : VE s T a da) (hb : VE s T b db) (hm : behindInMarks op b = false) : VE s T (.Compare a [op] [b] pos) (d2 f da db) :=
  fun X W c tk => PE.of (pe_cmpR (ho X c) (ha X W c tk) (hb X W c tk) hm) fun σ H Q h => op2_run (h2 X.K) h
theorem v_ix {a b : Expr} {f : D → D → Option Rv} {r : PySem.W.Frag → R2} {da db : Dn} (ho : ∀ X, CtxOk s T X → IxR X (r X.K)) (h2 : ∀ K, Op2 K f (r K)) (ha : VE s T a da) (hb : VE s T b db) (hm : PlainIx b) : VE s T (.Subscript a b pos) (d2 f da db) :=
  fun X W c tk => PE.of (pe_ix (ho X c) (ha X W c tk) (hb X W c tk) hm) fun σ H Q h => op2_run (h2 X.K) h
/-! ### one operand -/
def fin1 (f : D → Option Rv) (x : Rv) (p : PS) : R Rv := match opd x p with
  | some a => give (f a) p
  | _ => .bad
def d1 (f : D → Option Rv) (da : Dn) : Dn := fun p => (da p).bind fun x p1 => fin1 f x p1
def Op1 (K : PySem.W.Frag) (f : D → Option Rv) (r : V → Hp → VK → Prop) : Prop := ∀ (M : Addr → Prop) (H : Hp) (x : V) (a : D) (v : Rv) (Q : VK), (∀ z, M z → H z ≠ none) → Rdb K M H x a → f a = some v →
  v.plain = true ∧ (Res K M H Q v → r x H Q)
theorem fin1_run {K : PySem.W.Frag} {cl : Nat → Addr} {W : WX} {f : D → Option Rv} {r : V → Hp → VK → Prop} (h2 : Op1 K f r) {G : Gh} {σ : L2.St} {H H0 : Hp} {p : PS} {Q : VK} {x : V} {v : Rv} (o : Ok K G σ H p) (rx : RvOk K G σ p H0 H x v)
    (h : Post K cl W G σ H p Q (fin1 f v p)) : r x H Q := by
  unfold fin1 at h
  cases e1 : opd v p with
  | none => rw [e1] at h; exact h.elim
  | some a =>
    rw [e1] at h
    have ra := rx.rdb o e1
    obtain ⟨z, hz, q⟩ := post_give o h fun v e => (h2 _ H x a v Q (fun z => o.dom) ra e).1
    exact (h2 _ H x a z Q (fun z => o.dom) ra hz).2 q
theorem op1_run {K : PySem.W.Frag} {cl : Nat → Addr} {W : WX} {f : D → Option Rv} {r : V → Hp → VK → Prop} {da : Dn} (h2 : Op1 K f r) {σ : L2.St} {H : Hp} {Q : VK} (h : tE K cl W (d1 f da) σ H Q) : tE K cl W da σ H fun x H1 => r x H1 Q := by
  obtain ⟨G, p, o, h⟩ := h
  refine te_bind o h fun v p1 u H1 s1 r1 h => ?_
  exact fin1_run h2 s1.ok r1 h
theorem v_un {a : Expr} {op : UnaryOp} {f : D → Option Rv} {r : PySem.W.Frag → V → Hp → VK → Prop} {da : Dn} (ho : ∀ X, CtxOk s T X → UnR X (unaryOp op) (r X.K)) (h2 : ∀ K, Op1 K f (r K)) (ha : VE s T a da) : VE s T (.UnaryOp op a pos) (d1 f da) :=
  fun X W c tk => PE.of (pe_un (ho X c) (ha X W c tk)) fun σ H Q h => op1_run (h2 X.K) h

/-! ### arguments -/
def dNil : DnL := fun p => .ok [] p
def dCons (da : Dn) (dr : DnL) : DnL := fun p => (da p).bind fun x p1 => (dr p1).bind fun xs p2 => .ok (x.soft :: xs) p2
theorem vl_nil : VL s T [] dNil := fun X W c tk => PA.of pa_nil fun σ H Q h => by
  obtain ⟨G, p, o, h⟩ := h
  exact h [] H (.refl o) .nil
theorem vl_cons {e : Expr} {es : List Expr} {da : Dn} {dr : DnL} (ha : VE s T e da) (hr : VL s T es dr) (hs : ∀ env, starEach (e :: es) env = (false, eval e env) :: starEach es env := by intro _; rfl) : VL s T (e :: es) (dCons da dr) := fun X W c tk => PA.of (pa_cons (ha X W c tk) (hr X W c tk) (hs _)) fun σ H Q h => by
  obtain ⟨G, p, o, h⟩ := h
  refine te_bindL o h fun v p1 u H1 s1 r1 h => ?_
  refine tl_bindL s1.ok h fun v2 p2 us H2 s2 r2 h => ?_
  exact h (u :: us) H2 (.refl s2.ok) (.cons ((r1.soft.step s2)) r2)
def opds (p : PS) : List Rv → Option (List D)
  | [] => some []
  | v :: vs => match opd v p, opds p vs with
    | some d, some ds => some (d :: ds)
    | _, _ => none
def finN (f : List D → Option Rv) (xs : List Rv) (p : PS) : R Rv := match opds p xs with
  | some a => give (f a) p
  | _ => .bad
def dN (f : List D → Option Rv) (da : DnL) : Dn := fun p => (da p).bind fun x p1 => finN f x p1
def OpN (K : PySem.W.Frag) (f : List D → Option Rv) (r : List V → Hp → VK → Prop) : Prop := ∀ (M : Addr → Prop) (H : Hp) (x : List V) (a : List D) (v : Rv) (Q : VK), (∀ z, M z → H z ≠ none) → Paired (Rdb K M H) x a → f a = some v →
  v.plain = true ∧ (Res K M H Q v → r x H Q)
theorem rdbs {K : PySem.W.Frag} {G : Gh} {σ : L2.St} {H H0 : Hp} {p : PS} (o : Ok K G σ H p) : ∀ {xs : List V} {vs : List Rv} {ds : List D}, Paired (fun u v => RvOk K G σ p H0 H u v) xs vs → opds p vs = some ds → Paired (Rdb K (Mu G σ p.env) H) xs ds
  | _, _, _, .nil, h => by
    have h : some ([] : List D) = some _ := h
    cases h; exact .nil
  | _, v :: vs, ds, .cons r t, h => by
    unfold opds at h
    cases e1 : opd v p with
    | none => rw [e1] at h; cases h
    | some d =>
      cases e2 : opds p vs with
      | none => rw [e1, e2] at h; cases h
      | some es =>
        rw [e1, e2] at h
        cases h
        exact .cons (r.rdb o e1) (rdbs o t e2)
theorem finN_run {K : PySem.W.Frag} {cl : Nat → Addr} {W : WX} {f : List D → Option Rv} {r : List V → Hp → VK → Prop} (h2 : OpN K f r) {G : Gh} {σ : L2.St} {H H0 : Hp} {p : PS} {Q : VK} {x : List V} {v : List Rv} (o : Ok K G σ H p) (rx : Paired (fun u v => RvOk K G σ p H0 H u v) x v)
    (h : Post K cl W G σ H p Q (finN f v p)) : r x H Q := by
  unfold finN at h
  cases e1 : opds p v with
  | none => rw [e1] at h; exact h.elim
  | some a =>
    rw [e1] at h
    have ra := rdbs o rx e1
    obtain ⟨z, hz, q⟩ := post_give o h fun v e => (h2 _ H x a v Q (fun z => o.dom) ra e).1
    exact (h2 _ H x a z Q (fun z => o.dom) ra hz).2 q
theorem opN_run {K : PySem.W.Frag} {cl : Nat → Addr} {W : WX} {f : List D → Option Rv} {r : List V → Hp → VK → Prop} {da : DnL} (h2 : OpN K f r) {σ : L2.St} {H : Hp} {Q : VK} (h : tE K cl W (dN f da) σ H Q) : tL K cl W da σ H fun x H1 => r x H1 Q := by
  obtain ⟨G, p, o, h⟩ := h
  refine tl_bind o h fun v p1 u H1 s1 r1 h => ?_
  exact finN_run h2 s1.ok r1 h
/-- a built-in function by its name -/
theorem v_bi {x : Str} {id : String} {e : Expr} {es : List Expr} {f : List D → Option Rv} {r : PySem.W.Frag → List V → Hp → VK → Prop} {da : DnL} {q : Pos} (hc : ∀ X, CtxOk s T X → CallR X (.builtin id) (r X.K)) (h2 : ∀ K, OpN K f (r K)) (hg : s.sc.names.lookup x = some .globalImplicit) (hf : T.free x = true) (hv : bootBuiltins x = some (.builtin id))
    (ha : VL s T (e :: es) da) (hn : x ≠ "__name__" := by decide) (hdb : (x == ("__debug__" : Str)) = false := by decide) (he : ∀ env, starEach (e :: es) env = (false, eval e env) :: starEach es env := by intro _; rfl) (hpl : ∀ env, (backTo pos (starEach es env)).any (·.1) = false := by intro _; rfl) :
    VE s T (.Call (.Name x q) (e :: es) [] pos) (dN f da) := fun X W c tk =>
  PE.of (pe_callB (hc X c) (by show X.env.scope.names.lookup x = _; rw [c.sc]; exact hg) (c.fac.free x hf) hv (ha X W c tk) hn hdb (he _) (hpl _)) fun σ H Q h => opN_run (h2 X.K) h
/-- a built-in class by its name -/
theorem v_ty {x : Str} {id : String} {e : Expr} {es : List Expr} {f : List D → Option Rv} {r : PySem.W.Frag → List V → Hp → VK → Prop} {da : DnL} {q : Pos} (hc : ∀ X, CtxOk s T X → CallR X (.type id) (r X.K)) (h2 : ∀ K, OpN K f (r K)) (hg : s.sc.names.lookup x = some .globalImplicit) (hf : T.free x = true) (hv : bootBuiltins x = some (.type id))
    (ha : VL s T (e :: es) da) (hn : x ≠ "__name__" := by decide) (hdb : (x == ("__debug__" : Str)) = false := by decide) (he : ∀ env, starEach (e :: es) env = (false, eval e env) :: starEach es env := by intro _; rfl) (hpl : ∀ env, (backTo pos (starEach es env)).any (·.1) = false := by intro _; rfl) :
    VE s T (.Call (.Name x q) (e :: es) [] pos) (dN f da) := fun X W c tk =>
  PE.of (pe_callTy (hc X c) (by show X.env.scope.names.lookup x = _; rw [c.sc]; exact hg) (c.fac.free x hf) hv (ha X W c tk) hn hdb (he _) (hpl _)) fun σ H Q h => opN_run (h2 X.K) h
end
end Py
set_option maxRecDepth 100000
namespace Py
open PySem PySem.Spec PyProof.Rows L2

/-! ### tests that are not computed -/
theorem ex_sb (p : Prop) : ∃ b : Bool, b = true ↔ p := by
  by_cases h : p
  · exact ⟨true, fun _ => h, fun _ => rfl⟩
  · exact ⟨false, (fun e => nomatch e), fun z => absurd z h⟩
noncomputable def sb (p : Prop) : Bool := Classical.choose (ex_sb p)
theorem sb_iff {p : Prop} : sb p = true ↔ p := Classical.choose_spec (ex_sb p)

/-! ### equality of data -/
def okD : Nat → D → Bool
  | _, .non => true
  | _, .bl _ => true
  | _, .int _ => true
  | _, .str x => PyData.strOk (S x)
  | n + 1, .tup ds => ds.all (okD n)
  | n + 1, .lst ds => ds.all (okD n)
  | _, _ => false
def pyD : Nat → D → PyData
  | _, .non => .none
  | _, .bl b => .bool b
  | _, .int i => .int i
  | _, .str x => .str (S x)
  | n + 1, .tup ds => .tuple (ds.map (pyD n))
  | n + 1, .lst ds => .list (ds.map (pyD n))
  | _, _ => .none
mutual
def deq : D → D → Bool
  | .non, .non => true
  | .bl a, .bl b => a == b
  | .bl a, .int j => (if a then 1 else 0) == j
  | .int i, .bl b => i == (if b then 1 else 0)
  | .int i, .int j => i == j
  | .str x, .str y => x == y
  | .tup xs, .tup ys => deqL xs ys
  | .lst xs, .lst ys => deqL xs ys
  | _, _ => false
def deqL : List D → List D → Bool
  | [], [] => true
  | x :: xs, y :: ys => deq x y && deqL xs ys
  | _, _ => false
end
theorem S_inj {x y : List Nat} (h : S x = S y) : x = y := by
  unfold S at h
  injection h with h
  exact (List.toArray_inj h)
theorem S_beq (x y : List Nat) : (S x == S y) = (x == y) := by
  by_cases h : x = y
  · subst h; simp
  · have h2 : S x ≠ S y := fun e => h (S_inj e)
    rw [beq_eq_false_iff_ne.mpr h, beq_eq_false_iff_ne.mpr h2]
theorem okL {n : Nat} {ds : List D} : ds.all (okD n) = true ↔ ∀ d ∈ ds, okD n d = true := List.all_eq_true
theorem eqvAll_of {n : Nat} (ih : ∀ a b, okD n a = true → okD n b = true → PyData.eqv (pyD n a) (pyD n b) = deq a b) : ∀ (xs ys : List D), xs.all (okD n) = true → ys.all (okD n) = true → PyData.eqvAll (xs.map (pyD n)) (ys.map (pyD n)) = deqL xs ys
  | [], [], _, _ => by simp [PyData.eqvAll, deqL]
  | [], _ :: _, _, _ => by simp [PyData.eqvAll, deqL]
  | _ :: _, [], _, _ => by simp [PyData.eqvAll, deqL]
  | x :: xs, y :: ys, h1, h2 => by
    rw [List.all_cons, Bool.and_eq_true] at h1 h2
    simp only [List.map_cons, PyData.eqvAll, deqL]
    rw [ih x y h1.1 h2.1, eqvAll_of ih xs ys h1.2 h2.2]
theorem eqv_deq : ∀ (n : Nat) (a b : D), okD n a = true → okD n b = true → PyData.eqv (pyD n a) (pyD n b) = deq a b
  | 0, a, b, h1, h2 => by
    cases a <;> cases b <;> simp [okD] at h1 h2 <;> simp [pyD, PyData.eqv, deq]
    · exact S_beq _ _
  | n + 1, a, b, h1, h2 => by
    cases a <;> cases b <;> simp only [okD] at h1 h2 <;> (try cases h1) <;> (try cases h2) <;> (try simp [pyD, PyData.eqv, deq])
    · exact S_beq _ _
    · exact eqvAll_of (eqv_deq n) _ _ (by assumption) (by assumption)
    · exact eqvAll_of (eqv_deq n) _ _ (by assumption) (by assumption)

mutual
theorem rep_dp {K : PySem.W.Frag} {M : Addr → Prop} {H : Hp} : ∀ {v : V} {d : D} (n : Nat), Rep K M H v d → okD n d = true → Dp K H v (pyD n d)
  | _, _, n, .non, _ => by cases n <;> exact .non
  | _, _, n, .bl, _ => by cases n <;> exact .bl _
  | _, _, n, .int, _ => by cases n <;> exact .int _
  | _, _, n, .str, _ => by cases n <;> exact .str _
  | _, _, 0, .tup _ _, h => by simp [okD] at h
  | _, _, 0, .lst _ _ _, h => by simp [okD] at h
  | _, _, 0, .dic _ _ _, h => by simp [okD] at h
  | _, _, n + 1, .tup h r, hk => .tup (h.elim (fun h => .inl h.1) .inr) (repL_dp n r hk)
  | _, _, n + 1, .lst h _ r, hk => .lst (.inl (.inl h)) (repL_dp n r hk)
  | _, _, n + 1, .dic _ _ _, h => by simp [okD] at h
  | _, _, n, .err _ _ _, h => by cases n <;> simp [okD] at h
  | _, _, n, .erf _ _ _ _ _, h => by cases n <;> simp [okD] at h
theorem repL_dp {K : PySem.W.Frag} {M : Addr → Prop} {H : Hp} : ∀ {v : List V} {d : List D} (n : Nat), RepL K M H v d → d.all (okD n) = true → DpAll K H v (d.map (pyD n))
  | _, _, _, .nil, _ => .nil
  | _, _, n, .cons r t, h => by
    rw [List.all_cons, Bool.and_eq_true] at h
    exact .cons (rep_dp n r h.1) (repL_dp n t h.2)
end
theorem rdb_dp {K : PySem.W.Frag} {M : Addr → Prop} {H : Hp} {v : V} {d : D} {n : Nat} (r : Rdb K M H v d) (h : okD n d = true) : Dp K H v (pyD n d) := by
  rcases r with r | ⟨a, rfl, r⟩
  · exact rep_dp n r h
  · cases d with
    | lst ds =>
      obtain ⟨xs, h1, h2⟩ := r
      cases n with
      | zero => simp [okD] at h
      | succ n => exact .lst (.inl (.inl h1)) (repL_dp n h2 h)
    | dic ds => cases n <;> simp [okD] at h
    | obj c ds => cases n <;> simp [okD] at h
    | bx => cases n <;> simp [okD] at h
    | _ => exact r.elim
theorem pyD_lay : ∀ (n : Nat) (d : D), okD n d = true → (pyD n d).canLay0 = true ∧ (pyD n d).depth ≤ n := by
  have key : ∀ (n : Nat), (∀ d, okD n d = true → (pyD n d).canLay0 = true ∧ (pyD n d).depth ≤ n) → ∀ ds : List D, ds.all (okD n) = true → PyData.canLayAll0 (ds.map (pyD n)) = true ∧ PyData.depthAll (ds.map (pyD n)) ≤ n := by
    intro n ih ds
    induction ds with
    | nil => intro _; simp [PyData.canLayAll0, PyData.depthAll]
    | cons d ds ih2 =>
      intro h
      rw [List.all_cons, Bool.and_eq_true] at h
      obtain ⟨h1, h2⟩ := ih d h.1
      obtain ⟨h3, h4⟩ := ih2 h.2
      simp only [List.map_cons, PyData.canLayAll0, PyData.depthAll, h1, h3, Bool.and_self, true_and]
      omega
  intro n
  induction n with
  | zero => intro d h; cases d <;> simp [okD] at h <;> simp [pyD, PyData.canLay0, PyData.depth, h]
  | succ n ih =>
    intro d h
    cases d with
    | tup ds =>
      obtain ⟨h1, h2⟩ := key n ih ds h
      simp only [pyD, PyData.canLay0, PyData.depth]
      exact ⟨h1, by omega⟩
    | lst ds =>
      obtain ⟨h1, h2⟩ := key n ih ds h
      simp only [pyD, PyData.canLay0, PyData.depth]
      exact ⟨h1, by omega⟩
    | dic ds => simp [okD] at h
    | err c => simp [okD] at h
    | obj c ds => simp [okD] at h
    | str x => simp [okD] at h; simp [pyD, PyData.canLay0, PyData.depth, h]
    | _ => simp [pyD, PyData.canLay0, PyData.depth]
theorem pyD_shaped {n : Nat} {d : D} (hn : n ≤ 64) (h : okD n d = true) : SeqAt.shaped (pyD n d) = true := by
  obtain ⟨h1, h2⟩ := pyD_lay n d h
  unfold SeqAt.shaped
  rw [h1, Bool.true_and]
  exact decide_eq_true (by omega)

/-- data that can be compared: no dicts, at most twenty deep -/
def okq (d : D) : Bool := okD 20 d
def opEq (a b : D) : Option Rv := if okq a && okq b then some (.sh (.bl (deq a b))) else none
def opNe (a b : D) : Option Rv := if okq a && okq b then some (.sh (.bl (!deq a b))) else none
theorem res_bl {K : PySem.W.Frag} {M : Addr → Prop} {H : Hp} {Q : VK} {b : Bool} (h : Res K M H Q (.sh (.bl b))) : Q (.bl b) H := h _ H (.refl H) .bl
theorem res_int {K : PySem.W.Frag} {M : Addr → Prop} {H : Hp} {Q : VK} {b : Int} (h : Res K M H Q (.sh (.int b))) : Q (.int b) H := h _ H (.refl H) .int
theorem res_str {K : PySem.W.Frag} {M : Addr → Prop} {H : Hp} {Q : VK} {b : List Nat} (h : Res K M H Q (.sh (.str b))) : Q (.str (S b)) H := h _ H (.refl H) .str
theorem op2_eq {K : PySem.W.Frag} : Op2 K opEq (rEqD K) := by
  intro M H x y a b v Q _ ra rb h
  unfold opEq at h
  split at h
  · rename_i hk
    rw [Bool.and_eq_true] at hk
    cases h
    refine ⟨rfl, fun q => ⟨_, _, rdb_dp ra hk.1, rdb_dp rb hk.2, pyD_shaped (by decide) hk.1, pyD_shaped (by decide) hk.2, ?_⟩⟩
    rw [eqv_deq 20 a b hk.1 hk.2]
    exact res_bl q
  · cases h
theorem op2_ne {K : PySem.W.Frag} : Op2 K opNe (rNeD K) := by
  intro M H x y a b v Q _ ra rb h
  unfold opNe at h
  split at h
  · rename_i hk
    rw [Bool.and_eq_true] at hk
    cases h
    refine ⟨rfl, fun q => ⟨_, _, rdb_dp ra hk.1, rdb_dp rb hk.2, pyD_shaped (by decide) hk.1, pyD_shaped (by decide) hk.2, ?_⟩⟩
    rw [eqv_deq 20 a b hk.1 hk.2]
    exact res_bl q
  · cases h

/-! ### numbers, texts, lists, tuples: operators -/
def opAdd : D → D → Option Rv
  | .int i, .int j => some (.sh (.int (i + j)))
  | .str x, .str y => if x.length + y.length ≤ 16777216 then some (.sh (.str (x ++ y))) else none
  | .lst x, .lst y => if x.length + y.length ≤ 16777216 then some (.ow (.lst (x ++ y))) else none
  | .tup x, .tup y => if x.length + y.length ≤ 16777216 then some (.sh (.tup (x ++ y))) else none
  | _, _ => none
theorem S_app (x y : List Nat) : S x ++ S y = S (x ++ y) := by
  show (⟨x.toArray ++ y.toArray⟩ : Str) = ⟨(x ++ y).toArray⟩
  simp
theorem S_len (x : List Nat) : (S x).length = x.length := by simp [S, Str.length]
theorem Rdb.lst_ {K : PySem.W.Frag} {M : Addr → Prop} {H : Hp} {v : V} {ds : List D} (r : Rdb K M H v (.lst ds)) : ∃ a xs, v = .ref a ∧ H a = some (.lst xs) ∧ RepL K M H xs ds := by
  rcases r with r | ⟨a, rfl, r⟩
  · cases r with
    | lst h _ r => exact ⟨_, _, rfl, h, r⟩
  · obtain ⟨xs, h1, h2⟩ := r
    exact ⟨a, xs, rfl, h1, h2⟩
theorem Rdb.tup_ {K : PySem.W.Frag} {M : Addr → Prop} {H : Hp} {v : V} {ds : List D} (r : Rdb K M H v (.tup ds)) : ∃ a xs, v = .ref a ∧ ((Rd H a (.tup xs) ∧ ¬ M a) ∨ KTup K a xs) ∧ SqT K H a xs ∧ RepL K M H xs ds := by
  rcases r with r | ⟨a, rfl, r⟩
  · cases r with
    | tup h r => exact ⟨_, _, rfl, h, h.elim (fun z => .inl z.1) .inr, r⟩
  · exact r.elim
theorem Rdb.int_ {K : PySem.W.Frag} {M : Addr → Prop} {H : Hp} {v : V} {i : Int} (r : Rdb K M H v (.int i)) : v = .int i := by
  rcases r with r | ⟨a, rfl, r⟩
  · cases r; rfl
  · exact r.elim
theorem Rdb.str_ {K : PySem.W.Frag} {M : Addr → Prop} {H : Hp} {v : V} {i : List Nat} (r : Rdb K M H v (.str i)) : v = .str (S i) := by
  rcases r with r | ⟨a, rfl, r⟩
  · cases r; rfl
  · exact r.elim
theorem Rdb.bl_ {K : PySem.W.Frag} {M : Addr → Prop} {H : Hp} {v : V} {i : Bool} (r : Rdb K M H v (.bl i)) : v = .bl i := by
  rcases r with r | ⟨a, rfl, r⟩
  · cases r; rfl
  · exact r.elim
theorem Rdb.non_ {K : PySem.W.Frag} {M : Addr → Prop} {H : Hp} {v : V} (r : Rdb K M H v .non) : v = .non := by
  rcases r with r | ⟨a, rfl, r⟩
  · cases r; rfl
  · exact r.elim
theorem Rdb.dic_ {K : PySem.W.Frag} {M : Addr → Prop} {H : Hp} {v : V} {ds : List (D × D)} (r : Rdb K M H v (.dic ds)) : ∃ a xs, v = .ref a ∧ H a = some (.dK xs) ∧ RepK K M H xs ds := by
  rcases r with r | ⟨a, rfl, r⟩
  · cases r with
    | dic h _ r => exact ⟨_, _, rfl, h, r⟩
  · obtain ⟨xs, h1, h2⟩ := r
    exact ⟨a, xs, rfl, h1, h2⟩
/-- a new list, a new tuple -/
theorem res_lst {K : PySem.W.Frag} {M : Addr → Prop} {H : Hp} {Q : VK} {xs : List V} {ds : List D} (r : RepL K M H xs ds) (h : Res K M H Q (.ow (.lst ds))) : ∀ q, H q = none → Q (.ref q) (upd H q (.lst xs)) := fun q hq =>
  h q _ (same_upd hq) hq ⟨xs, upd_same, RepL.mono K (fun a o e _ => same_upd hq a o e) (fun a z => z.elim .inl fun e => .inr (e ▸ hq)) r⟩
theorem res_tup {K : PySem.W.Frag} {M : Addr → Prop} {H : Hp} {Q : VK} {xs : List V} {ds : List D} (dom : ∀ z, M z → H z ≠ none) (r : RepL K M H xs ds) (h : Res K M H Q (.sh (.tup ds))) : ∀ q, H q = none → Q (.ref q) (upd H q (.tup xs)) := fun q hq =>
  h (.ref q) _ (same_upd hq) (.tup (.inl ⟨.inl upd_same, fun z => dom q z hq⟩) (RepL.mono K (fun a o e _ => same_upd hq a o e) (fun a z => .inl z) r))
theorem res_same {K : PySem.W.Frag} {M : Addr → Prop} {H : Hp} {Q : VK} {v : V} {d : D} (r : Rep K M H v d) (h : Res K M H Q (.sh d)) : Q v H := h v H (.refl H) r
theorem szl {n : Nat} (h : n ≤ 16777216) : n ≤ sizeLine := by rw [sizeLine_eq]; exact h
def rAdds (K : PySem.W.Frag) : R2 := fun x y H Q => rI0 (fun i j => .int (i + j)) x y H Q ∨ (fun x y H Q => ∃ i j, x = .str i ∧ y = .str j ∧ i.length + j.length ≤ sizeLine ∧ Q (.str (i ++ j)) H) x y H Q ∨ rCat x y H Q ∨ rCatA K x y H Q
theorem op_adds {X : Cx} : OpR X (binaryOp .Add) (rAdds X.K) := op_add.or (op_add_str.or (op_cat.or op_catA))
theorem op2_add {K : PySem.W.Frag} : Op2 K opAdd (rAdds K) := by
  intro M H x y a b v Q dom ra rb h
  cases a <;> cases b <;> simp only [opAdd] at h <;> (try cases h)
  · refine ⟨rfl, fun q => .inl ⟨_, _, ra.int_, rb.int_, res_int q⟩⟩
  · split at h
    · rename_i hl
      cases h
      refine ⟨rfl, fun q => .inr (.inl ⟨_, _, ra.str_, rb.str_, by rw [S_len, S_len]; exact szl hl, ?_⟩)⟩
      rw [S_app]; exact res_str q
    · cases h
  · split at h
    · rename_i hl
      cases h
      obtain ⟨q1, xs, rfl, h1, r1⟩ := ra.tup_
      obtain ⟨q2, ys, rfl, h2, r2⟩ := rb.tup_
      refine ⟨rfl, fun q => .inr (.inr (.inr ⟨q1, q2, xs, ys, rfl, rfl, r1.1, r2.1, by rw [r1.2.length, r2.2.length]; exact szl hl, fun e => ?_, fun _ e => ?_, fun _ _ => res_tup dom (r1.2.append r2.2) q⟩))⟩
      · subst e
        have := r1.2
        cases this
        exact res_same (.tup h2 r2.2) q
      · subst e
        have := r2.2
        cases this
        rw [List.append_nil] at q
        exact res_same (.tup h1 r1.2) q
    · cases h
  · split at h
    · rename_i hl
      cases h
      obtain ⟨q1, xs, rfl, h1, r1⟩ := ra.lst_
      obtain ⟨q2, ys, rfl, h2, r2⟩ := rb.lst_
      exact ⟨rfl, fun q => .inr (.inr (.inl ⟨q1, q2, xs, ys, rfl, rfl, h1, h2, by rw [r1.length, r2.length]; exact szl hl, res_lst (r1.append r2) q⟩))⟩
    · cases h
end Py
set_option maxRecDepth 100000
namespace Py
open PySem PySem.Spec PyProof.Rows L2

/-! ### more operators -/
def opSub : D → D → Option Rv
  | .int i, .int j => some (.sh (.int (i - j)))
  | _, _ => none
theorem op2_sub {K : PySem.W.Frag} : Op2 K opSub (rI0 fun i j => .int (i - j)) := by
  intro M H x y a b v Q dom ra rb h
  cases a <;> cases b <;> simp only [opSub] at h <;> (try cases h)
  exact ⟨rfl, fun q => ⟨_, _, ra.int_, rb.int_, res_int q⟩⟩
/-- // and % by a positive number -/
def opMod : D → D → Option Rv
  | .int i, .int j => if 0 < j then some (.sh (.int (i % j))) else none
  | _, _ => none
theorem op2_mod {K : PySem.W.Frag} : Op2 K opMod (rI (fun _ j => 0 < j) fun i j => .int (i % j)) := by
  intro M H x y a b v Q dom ra rb h
  cases a <;> cases b <;> simp only [opMod] at h <;> (try cases h)
  split at h
  · rename_i hj
    cases h
    exact ⟨rfl, fun q => ⟨_, _, ra.int_, rb.int_, hj, res_int q⟩⟩
  · cases h
noncomputable def opDiv : D → D → Option Rv
  | .int i, .int j => if sb (0 < j ∧ j < 1073741824) = true then some (.sh (.int (i / j))) else none
  | _, _ => none
theorem op2_div {K : PySem.W.Frag} : Op2 K opDiv (rI CDiv fun i j => .int (i / j)) := by
  intro M H x y a b v Q dom ra rb h
  cases a <;> cases b <;> simp only [opDiv] at h <;> (try cases h)
  split at h
  · rename_i hj
    cases h
    exact ⟨rfl, fun q => ⟨_, _, ra.int_, rb.int_, sb_iff.mp hj, res_int q⟩⟩
  · cases h
def opNeg : D → Option Rv
  | .int i => some (.sh (.int (-i)))
  | _ => none
theorem op1_neg {K : PySem.W.Frag} : Op1 K opNeg (rU fun i => .int (-i)) := by
  intro M H x a v Q dom ra h
  cases a <;> simp only [opNeg] at h <;> (try cases h)
  exact ⟨rfl, fun q => ⟨_, ra.int_, res_int q⟩⟩

/-! ### * -/
def rMulS : R2 := fun x y H Q => ∃ z n, x = .str z ∧ y = .int n ∧ -(2 ^ 62) < n ∧ n < 2 ^ 62 ∧ z.length * n.toNat ≤ 16777216 ∧ Q (.str (S (List.replicate n.toNat z.cps.toList).flatten)) H
theorem foldl_arr (x : Array Nat) : ∀ (k : Nat) (acc : Array Nat), (List.replicate k x).foldl (· ++ ·) acc = acc ++ ((List.replicate k x.toList).flatten).toArray := by
  intro k
  induction k with
  | zero => intro acc; simp
  | succ k ih =>
    intro acc
    rw [List.replicate_succ, List.foldl_cons, ih, List.replicate_succ, List.flatten_cons]
    apply Array.ext'
    simp
theorem txt_mul (z : Str) (n : Int) : Txt.mul z n = S (List.replicate n.toNat z.cps.toList).flatten := by
  unfold Txt.mul
  by_cases h1 : n < 1
  · rw [if_pos h1]
    have : n.toNat = 0 := by omega
    rw [this]; rfl
  · rw [if_neg h1]
    by_cases h2 : (n == 1 || z.length == 0) = true
    · rw [if_pos h2]
      rw [Bool.or_eq_true] at h2
      rcases h2 with h2 | h2
      · have : n = 1 := by simpa using h2
        subst this
        show z = S ([z.cps.toList].flatten)
        cases z; simp [S]
      · have e : z.cps = #[] := by
          have : z.cps.size = 0 := by simpa [Str.length] using h2
          exact Array.eq_empty_of_size_eq_zero this
        cases z with
        | mk c =>
          have e : c = #[] := e
          subst e
          simp [S]
    · rw [if_neg h2]
      show (⟨_⟩ : Str) = ⟨_⟩
      congr 1
      rw [foldl_arr]
      simp
theorem op_mulS {X : Cx} : OpR X (binaryOp .Mult) rMulS := by
  intro pins s σ H x y v u Q I rx ry h
  obtain ⟨z, n, rfl, rfl, h1, h2, h3, q⟩ := h
  obtain ⟨t, rfl⟩ := rx
  obtain ⟨t', rfl⟩ := ry
  refine SB.mul ⟨by rw [decide_eq_false (by omega), decide_eq_false (by omega)]; rfl, fun a b => ?_, fun a b => ?_⟩ fun t' k => ⟨.str (Txt.mul z n), H, I.tok _, ⟨_, rfl⟩, by rw [txt_mul]; exact q⟩
  · intro c
    have hn : 0 < n := by omega
    have hz : (z.length : Int) * n ≤ 16777216 := by
      have e : ((z.length * n.toNat : Nat) : Int) = (z.length : Int) * n := by
        rw [Int.natCast_mul, Int.toNat_of_nonneg (by omega)]
      have : ((z.length * n.toNat : Nat) : Int) ≤ 16777216 := by omega
      omega
    have c : (2 ^ 63 - 1) / n < (z.length : Int) := c
    rw [Int.ediv_lt_iff_lt_mul hn] at c
    omega
  · have : ¬ (z.length * n.toNat > 16777216) := by omega
    unfold Builtin.Str.tooLong
    rw [sizeLine_eq]
    exact decide_eq_false (by omega)
noncomputable def opMul : D → D → Option Rv
  | .int i, .int j => if sb ((-(2 ^ 64) < i ∧ i < 2 ^ 64) ∨ (-(2 ^ 64) < j ∧ j < 2 ^ 64)) = true then some (.sh (.int (i * j))) else none
  | .str x, .int n => if sb (-(2 ^ 62) < n ∧ n < 2 ^ 62 ∧ x.length * n.toNat ≤ 16777216) = true then some (.sh (.str (List.replicate n.toNat x).flatten)) else none
  | .lst x, .int n => if sb (-(2 ^ 62) < n ∧ n < 2 ^ 62 ∧ x.length * n.toNat ≤ 16777216) = true then some (.ow (.lst (List.replicate n.toNat x).flatten)) else none
  | .tup x, .int n => if sb (x ≠ [] ∧ 2 ≤ n ∧ n ≤ 1000 ∧ x.length ≤ 1000) = true then some (.sh (.tup (List.replicate n.toNat x).flatten)) else none
  | _, _ => none
theorem repL_rep {K : PySem.W.Frag} {M : Addr → Prop} {H : Hp} {xs : List V} {ds : List D} (r : RepL K M H xs ds) : ∀ n, RepL K M H (List.replicate n xs).flatten (List.replicate n ds).flatten
  | 0 => .nil
  | n + 1 => by
    rw [List.replicate_succ, List.replicate_succ, List.flatten_cons, List.flatten_cons]
    exact r.append (repL_rep r n)
def rMuls (K : PySem.W.Frag) : R2 := fun x y H Q => rI CMul (fun i j => .int (i * j)) x y H Q ∨ rMulS x y H Q ∨ rRep x y H Q ∨ rRepT K x y H Q
theorem op_muls {X : Cx} : OpR X (binaryOp .Mult) (rMuls X.K) := op_mul.or (op_mulS.or (op_rep.or op_repT))
theorem op2_mul {K : PySem.W.Frag} : Op2 K opMul (rMuls K) := by
  intro M H x y a b v Q dom ra rb h
  cases a <;> cases b <;> simp only [opMul] at h <;> (try cases h)
  · split at h
    · rename_i hj
      have hj := sb_iff.mp hj
      cases h
      exact ⟨rfl, fun q => .inl ⟨_, _, ra.int_, rb.int_, hj, res_int q⟩⟩
    · cases h
  · split at h
    · rename_i hj
      have hj := sb_iff.mp hj
      cases h
      exact ⟨rfl, fun q => .inr (.inl ⟨_, _, ra.str_, rb.int_, hj.1, hj.2.1, by rw [S_len]; exact hj.2.2, res_str q⟩)⟩
    · cases h
  · split at h
    · rename_i hj
      have hj := sb_iff.mp hj
      cases h
      obtain ⟨q1, xs, rfl, h1, h2, r1⟩ := ra.tup_
      refine ⟨rfl, fun q => .inr (.inr (.inr ⟨q1, _, xs, rfl, rb.int_, h2, ?_, hj.2.1, hj.2.2.1, by rw [r1.length]; exact hj.2.2.2, res_tup dom (repL_rep r1 _) q⟩))⟩
      intro e; subst e
      cases r1
      exact hj.1 rfl
    · cases h
  · split at h
    · rename_i hj
      have hj := sb_iff.mp hj
      cases h
      obtain ⟨q1, xs, rfl, h1, r1⟩ := ra.lst_
      exact ⟨rfl, fun q => .inr (.inr (.inl ⟨q1, _, xs, rfl, rb.int_, h1, by have := hj.1; omega, by have := hj.2.1; omega, by rw [r1.length]; exact szl hj.2.2, res_lst (repL_rep r1 _) q⟩))⟩
    · cases h

/-! ### order of numbers and of texts -/
def opLt : D → D → Option Rv
  | .int i, .int j => some (.sh (.bl (decide (i < j))))
  | .str x, .str y => some (.sh (.bl (decide (x < y))))
  | _, _ => none
def opLe : D → D → Option Rv
  | .int i, .int j => some (.sh (.bl (decide (i ≤ j))))
  | .str x, .str y => some (.sh (.bl (!decide (y < x))))
  | _, _ => none
def opGt : D → D → Option Rv
  | .int i, .int j => some (.sh (.bl (decide (j < i))))
  | .str x, .str y => some (.sh (.bl (decide (y < x))))
  | _, _ => none
def opGe : D → D → Option Rv
  | .int i, .int j => some (.sh (.bl (decide (j ≤ i))))
  | .str x, .str y => some (.sh (.bl (!decide (x < y))))
  | _, _ => none
theorem S_list (x : List Nat) : (S x).cps.toList = x := by simp [S]
theorem op_lts {X : Cx} : OpR X (compareOp .Lt) (fun x y H Q => rI0 (fun i j => .bl (decide (i < j))) x y H Q ∨ (fun x y H Q => ∃ i j, x = .str i ∧ y = .str j ∧ Q (.bl (decide (i.cps.toList < j.cps.toList))) H) x y H Q) := op_lt.or op_lt_str
theorem op_les {X : Cx} : OpR X (compareOp .LtE) (fun x y H Q => rI0 (fun i j => .bl (decide (i ≤ j))) x y H Q ∨ (fun x y H Q => ∃ i j, x = .str i ∧ y = .str j ∧ Q (.bl (!decide (j.cps.toList < i.cps.toList))) H) x y H Q) := op_le.or op_le_str
theorem op_gts {X : Cx} : OpR X (compareOp .Gt) (fun x y H Q => rI0 (fun i j => .bl (decide (j < i))) x y H Q ∨ (fun x y H Q => ∃ i j, x = .str i ∧ y = .str j ∧ Q (.bl (decide (j.cps.toList < i.cps.toList))) H) x y H Q) := op_gt.or op_gt_str
theorem op_ges {X : Cx} : OpR X (compareOp .GtE) (fun x y H Q => rI0 (fun i j => .bl (decide (j ≤ i))) x y H Q ∨ (fun x y H Q => ∃ i j, x = .str i ∧ y = .str j ∧ Q (.bl (!decide (i.cps.toList < j.cps.toList))) H) x y H Q) := op_ge.or op_ge_str
theorem op2_lt {K : PySem.W.Frag} : Op2 K opLt (fun x y H Q => rI0 (fun i j => .bl (decide (i < j))) x y H Q ∨ (fun x y H Q => ∃ i j, x = .str i ∧ y = .str j ∧ Q (.bl (decide (i.cps.toList < j.cps.toList))) H) x y H Q) := by
  intro M H x y a b v Q dom ra rb h
  cases a <;> cases b <;> simp only [opLt] at h <;> (try cases h)
  · exact ⟨rfl, fun q => .inl ⟨_, _, ra.int_, rb.int_, res_bl q⟩⟩
  · exact ⟨rfl, fun q => .inr ⟨_, _, ra.str_, rb.str_, by rw [S_list, S_list]; exact res_bl q⟩⟩
theorem op2_le {K : PySem.W.Frag} : Op2 K opLe (fun x y H Q => rI0 (fun i j => .bl (decide (i ≤ j))) x y H Q ∨ (fun x y H Q => ∃ i j, x = .str i ∧ y = .str j ∧ Q (.bl (!decide (j.cps.toList < i.cps.toList))) H) x y H Q) := by
  intro M H x y a b v Q dom ra rb h
  cases a <;> cases b <;> simp only [opLe] at h <;> (try cases h)
  · exact ⟨rfl, fun q => .inl ⟨_, _, ra.int_, rb.int_, res_bl q⟩⟩
  · exact ⟨rfl, fun q => .inr ⟨_, _, ra.str_, rb.str_, by rw [S_list, S_list]; exact res_bl q⟩⟩
theorem op2_gt {K : PySem.W.Frag} : Op2 K opGt (fun x y H Q => rI0 (fun i j => .bl (decide (j < i))) x y H Q ∨ (fun x y H Q => ∃ i j, x = .str i ∧ y = .str j ∧ Q (.bl (decide (j.cps.toList < i.cps.toList))) H) x y H Q) := by
  intro M H x y a b v Q dom ra rb h
  cases a <;> cases b <;> simp only [opGt] at h <;> (try cases h)
  · exact ⟨rfl, fun q => .inl ⟨_, _, ra.int_, rb.int_, res_bl q⟩⟩
  · exact ⟨rfl, fun q => .inr ⟨_, _, ra.str_, rb.str_, by rw [S_list, S_list]; exact res_bl q⟩⟩
theorem op2_ge {K : PySem.W.Frag} : Op2 K opGe (fun x y H Q => rI0 (fun i j => .bl (decide (j ≤ i))) x y H Q ∨ (fun x y H Q => ∃ i j, x = .str i ∧ y = .str j ∧ Q (.bl (!decide (i.cps.toList < j.cps.toList))) H) x y H Q) := by
  intro M H x y a b v Q dom ra rb h
  cases a <;> cases b <;> simp only [opGe] at h <;> (try cases h)
  · exact ⟨rfl, fun q => .inl ⟨_, _, ra.int_, rb.int_, res_bl q⟩⟩
  · exact ⟨rfl, fun q => .inr ⟨_, _, ra.str_, rb.str_, by rw [S_list, S_list]; exact res_bl q⟩⟩

/-! ### is None -/
def isNon : D → Bool
  | .non => true
  | _ => false
def opIsN (a b : D) : Option Rv := if isNon b then some (.sh (.bl (isNon a))) else none
def opNotN (a b : D) : Option Rv := if isNon b then some (.sh (.bl (!isNon a))) else none
theorem Rdb.isNon {K : PySem.W.Frag} {M : Addr → Prop} {H : Hp} {v : V} {d : D} (r : Rdb K M H v d) : decide (v = .non) = Py.isNon d := by
  rcases r with r | ⟨a, rfl, r⟩
  · cases r <;> rfl
  · cases d <;> first | rfl | exact r.elim
theorem non_of {d : D} (h : isNon d = true) : d = .non := by cases d <;> first | rfl | cases h
theorem op2_isn {K : PySem.W.Frag} : Op2 K opIsN (fun x y H Q => y = .non ∧ Q (.bl (decide (x = .non))) H) := by
  intro M H x y a b v Q dom ra rb h
  unfold opIsN at h
  split at h
  · rename_i hb
    cases non_of hb
    cases h
    exact ⟨rfl, fun q => ⟨rb.non_, by rw [ra.isNon]; exact res_bl q⟩⟩
  · cases h
theorem op2_notn {K : PySem.W.Frag} : Op2 K opNotN (fun x y H Q => y = .non ∧ Q (.bl (!decide (x = .non))) H) := by
  intro M H x y a b v Q dom ra rb h
  unfold opNotN at h
  split at h
  · rename_i hb
    cases non_of hb
    cases h
    exact ⟨rfl, fun q => ⟨rb.non_, by rw [ra.isNon]; exact res_bl q⟩⟩
  · cases h

/-! ### in -/
def opIn : D → D → Option Rv
  | .str [c], .str z => some (.sh (.bl (decide (c ∈ z))))
  | a, .lst ds => if okq a && okq (.lst ds) then some (.sh (.bl (ds.any fun z => deq z a))) else none
  | _, _ => none
def opNotIn : D → D → Option Rv
  | .str [c], .str z => some (.sh (.bl (!decide (c ∈ z))))
  | a, .lst ds => if okq a && okq (.lst ds) then some (.sh (.bl (!ds.any fun z => deq z a))) else none
  | _, _ => none
theorem any_deq {ds : List D} {a : D} (h1 : okD 20 a = true) (h2 : okD 20 (.lst ds) = true) : ((ds.map (pyD 19)).any fun z => PyData.eqv z (pyD 20 a)) = ds.any fun z => deq z a := by
  have key : ∀ (n : Nat) (d : D), okD n d = true → ∀ m, n ≤ m → okD m d = true ∧ pyD m d = pyD n d := by
    intro n
    induction n with
    | zero => intro d h m _; cases d <;> simp [okD] at h <;> cases m <;> simp [okD, pyD, h]
    | succ n ih =>
      intro d h m hm
      obtain ⟨m, rfl⟩ : ∃ k, m = k + 1 := ⟨m - 1, by omega⟩
      cases d with
      | tup ds =>
        simp only [okD] at h ⊢
        rw [okL] at h ⊢
        refine ⟨fun d hd => (ih d (h d hd) m (by omega)).1, ?_⟩
        simp only [pyD]
        congr 1
        exact List.map_congr_left fun d hd => (ih d (h d hd) m (by omega)).2
      | lst ds =>
        simp only [okD] at h ⊢
        rw [okL] at h ⊢
        refine ⟨fun d hd => (ih d (h d hd) m (by omega)).1, ?_⟩
        simp only [pyD]
        congr 1
        exact List.map_congr_left fun d hd => (ih d (h d hd) m (by omega)).2
      | str x => simp [okD] at h; simp [okD, pyD, h]
      | dic ds => simp [okD] at h
      | err c => simp [okD] at h
      | obj c ds => simp [okD] at h
      | bx => simp [okD] at h
      | _ => simp [okD, pyD]
  have h2 : ds.all (okD 19) = true := h2
  rw [okL] at h2
  rw [List.any_map]
  rw [Bool.eq_iff_iff, List.any_eq_true, List.any_eq_true]
  constructor
  · rintro ⟨d, hd, e⟩
    refine ⟨d, hd, ?_⟩
    have q := key 19 d (h2 d hd) 20 (by omega)
    rw [← eqv_deq 20 d a q.1 h1, q.2]; exact e
  · rintro ⟨d, hd, e⟩
    refine ⟨d, hd, ?_⟩
    have q := key 19 d (h2 d hd) 20 (by omega)
    rw [← eqv_deq 20 d a q.1 h1, q.2] at e; exact e
def rIns (K : PySem.W.Frag) : R2 := fun x y H Q => (fun x y H Q => ∃ (c : Nat) (z : Str), x = .str ⟨#[c]⟩ ∧ y = .str z ∧ Q (.bl (decide (c ∈ z.cps.toList))) H) x y H Q ∨ rInD K x y H Q
def rNotIns (K : PySem.W.Frag) : R2 := fun x y H Q => (fun x y H Q => ∃ (c : Nat) (z : Str), x = .str ⟨#[c]⟩ ∧ y = .str z ∧ Q (.bl (!decide (c ∈ z.cps.toList))) H) x y H Q ∨ rNotInD K x y H Q
theorem in_cases {a b : D} {v : Rv} (h : opIn a b = some v) : (∃ c z, a = .str [c] ∧ b = .str z ∧ v = .sh (.bl (decide (c ∈ z)))) ∨ ∃ ds, b = .lst ds ∧ okq a = true ∧ okq (.lst ds) = true ∧ v = .sh (.bl (ds.any fun z => deq z a)) := by
  unfold opIn at h
  split at h
  · cases h; exact .inl ⟨_, _, rfl, rfl, rfl⟩
  · split at h
    · rename_i hk
      rw [Bool.and_eq_true] at hk
      cases h
      exact .inr ⟨_, rfl, hk.1, hk.2, rfl⟩
    · cases h
  · cases h
theorem notIn_cases {a b : D} {v : Rv} (h : opNotIn a b = some v) : (∃ c z, a = .str [c] ∧ b = .str z ∧ v = .sh (.bl (!decide (c ∈ z)))) ∨ ∃ ds, b = .lst ds ∧ okq a = true ∧ okq (.lst ds) = true ∧ v = .sh (.bl (!ds.any fun z => deq z a)) := by
  unfold opNotIn at h
  split at h
  · cases h; exact .inl ⟨_, _, rfl, rfl, rfl⟩
  · split at h
    · rename_i hk
      rw [Bool.and_eq_true] at hk
      cases h
      exact .inr ⟨_, rfl, hk.1, hk.2, rfl⟩
    · cases h
  · cases h
theorem pyD_lst {ds : List D} : pyD 20 (.lst ds) = .list (ds.map (pyD 19)) := rfl
theorem op2_in {K : PySem.W.Frag} : Op2 K opIn (rIns K) := by
  intro M H x y a b v Q dom ra rb h
  rcases in_cases h with ⟨c, z, rfl, rfl, rfl⟩ | ⟨ds, rfl, h1, h2, rfl⟩
  · exact ⟨rfl, fun q => .inl ⟨c, _, ra.str_, rb.str_, by rw [S_list]; exact res_bl q⟩⟩
  · exact ⟨rfl, fun q => .inr ⟨_, _, rdb_dp ra h1, pyD_lst ▸ rdb_dp rb h2, pyD_shaped (by decide) h1, pyD_lst ▸ pyD_shaped (by decide) h2, by rw [any_deq h1 h2]; exact res_bl q⟩⟩
theorem op2_notin {K : PySem.W.Frag} : Op2 K opNotIn (rNotIns K) := by
  intro M H x y a b v Q dom ra rb h
  rcases notIn_cases h with ⟨c, z, rfl, rfl, rfl⟩ | ⟨ds, rfl, h1, h2, rfl⟩
  · exact ⟨rfl, fun q => .inl ⟨c, _, ra.str_, rb.str_, by rw [S_list]; exact res_bl q⟩⟩
  · exact ⟨rfl, fun q => .inr ⟨_, _, rdb_dp ra h1, pyD_lst ▸ rdb_dp rb h2, pyD_shaped (by decide) h1, pyD_lst ▸ pyD_shaped (by decide) h2, by rw [any_deq h1 h2]; exact res_bl q⟩⟩

/-! ### subscripts -/
def getI (ds : List D) (i : Int) : Option D := atI ds i
def opIx : D → D → Option Rv
  | .lst ds, .int i => (atI ds i).map .sh
  | .tup ds, .int i => (atI ds i).map .sh
  | .str x, .int i => if x.length ≤ 16777216 then (atI x i).map fun c => .sh (.str [c]) else none
  | _, _ => none
theorem atI_rep {K : PySem.W.Frag} {M : Addr → Prop} {H : Hp} {xs : List V} {ds : List D} {i : Int} {d : D} (r : RepL K M H xs ds) (h : atI ds i = some d) : ∃ v, atI xs i = some v ∧ Rep K M H v d := by
  unfold atI at h ⊢
  rw [r.length]
  cases e : ixN ds.length i with
  | none => rw [e] at h; cases h
  | some j =>
    rw [e] at h
    exact r.get h
theorem op2_ix {K : PySem.W.Frag} : Op2 K opIx (rIx K) := by
  intro M H x y a b v Q dom ra rb h
  cases a <;> cases b <;> simp only [opIx] at h <;> (try cases h)
  · split at h
    · rename_i hl
      cases e : atI _ _ with
      | none => rw [e] at h; cases h
      | some c =>
        rw [e] at h; cases h
        refine ⟨rfl, fun q => .inr (.inr ⟨_, _, c, ra.str_, rb.int_, by rw [S_len]; exact szl hl, by rw [S_list]; exact e, res_str q⟩)⟩
    · cases h
  · cases e : atI _ _ with
    | none => rw [e] at h; cases h
    | some c =>
      rw [e] at h; cases h
      obtain ⟨q1, xs, rfl, h1, h2, r1⟩ := ra.tup_
      obtain ⟨u, e2, ru⟩ := atI_rep r1 e
      exact ⟨rfl, fun q => .inr (.inl ⟨q1, xs, _, u, rfl, rb.int_, h2, e2, res_same ru q⟩)⟩
  · cases e : atI _ _ with
    | none => rw [e] at h; cases h
    | some c =>
      rw [e] at h; cases h
      obtain ⟨q1, xs, rfl, h1, r1⟩ := ra.lst_
      obtain ⟨u, e2, ru⟩ := atI_rep r1 e
      exact ⟨rfl, fun q => .inl ⟨q1, xs, _, u, rfl, rb.int_, .inl (.inl h1), e2, res_same ru q⟩⟩
end Py
set_option maxRecDepth 100000
namespace Py
open PySem PySem.Spec PyProof.Rows L2

/-! ### truth -/
def onB (x : Rv) (p : PS) (t f : PS → R Rv) : R Rv := match x with
  | .sh (.bl true) => t p
  | .sh (.bl false) => f p
  | _ => .bad
def dAnd (da db : Dn) : Dn := fun p => (da p).bind fun x p1 => onB x p1 db (fun p1 => .ok (.sh (.bl false)) p1)
def dOr (da db : Dn) : Dn := fun p => (da p).bind fun x p1 => onB x p1 (fun p1 => .ok (.sh (.bl true)) p1) db
def dNot (da : Dn) : Dn := fun p => (da p).bind fun x p1 => onB x p1 (fun p1 => .ok (.sh (.bl false)) p1) (fun p1 => .ok (.sh (.bl true)) p1)
def dIf (dt da db : Dn) : Dn := fun p => (dt p).bind fun x p1 => onB x p1 da db
section
variable {s : Sx} {T : Tab} {pos : Pos}
theorem onB_run {K : PySem.W.Frag} {cl : Nat → Addr} {W : WX} {G : Gh} {σ : L2.St} {H0 H : Hp} {p : PS} {Q : VK} {u : V} {x : Rv} {t f : PS → R Rv} (r : RvOk K G σ p H0 H u x) (h : Post K cl W G σ H p Q (onB x p t f)) :
    ∃ b, u = .bl b ∧ Post K cl W G σ H p Q (if b = true then t p else f p) := by
  unfold onB at h
  split at h
  · cases (show Rep K _ H u (.bl true) from r)
    exact ⟨true, rfl, by rw [if_pos rfl]; exact h⟩
  · cases (show Rep K _ H u (.bl false) from r)
    exact ⟨false, rfl, by rw [if_neg Bool.false_ne_true]; exact h⟩
  · exact h.elim
theorem ok_bl {K : PySem.W.Frag} {cl : Nat → Addr} {W : WX} {G : Gh} {σ : L2.St} {H : Hp} {p : PS} {Q : VK} {b : Bool} (o : Ok K G σ H p) (h : Post K cl W G σ H p Q (.ok (.sh (.bl b)) p)) : Q (.bl b) H := h _ H (.refl o) .bl
theorem v_one {op : BoolOp} {a : Expr} {da : Dn} (h : VE s T a da) : VE s T (.BoolOp op [a] pos) da := fun X W c tk => pe_one (h X W c tk)
theorem and_imp {K : PySem.W.Frag} {cl : Nat → Addr} {W : WX} {da db : Dn} {σ : L2.St} {H : Hp} {Q : VK} (h : tE K cl W (dAnd da db) σ H Q) : tAndV (tE K cl W da) (tE K cl W db) σ H Q := by
  obtain ⟨G, p, o, h⟩ := h
  refine te_bind o h fun v p1 u H1 s1 r1 h => ?_
  obtain ⟨b, rfl, h⟩ := onB_run r1 h
  refine ⟨b, rfl, ?_⟩
  cases b with
  | true => exact ⟨G, p1, s1.ok, h⟩
  | false => exact ok_bl s1.ok h
theorem or_imp {K : PySem.W.Frag} {cl : Nat → Addr} {W : WX} {da db : Dn} {σ : L2.St} {H : Hp} {Q : VK} (h : tE K cl W (dOr da db) σ H Q) : tOrV (tE K cl W da) (tE K cl W db) σ H Q := by
  obtain ⟨G, p, o, h⟩ := h
  refine te_bind o h fun v p1 u H1 s1 r1 h => ?_
  obtain ⟨b, rfl, h⟩ := onB_run r1 h
  refine ⟨b, rfl, ?_⟩
  cases b with
  | false => exact ⟨G, p1, s1.ok, h⟩
  | true => exact ok_bl s1.ok h
theorem v_and {a b : Expr} {rest : List Expr} {da db : Dn} (ha : VE s T a da) (hb : VE s T (.BoolOp .And (b :: rest) pos) db) : VE s T (.BoolOp .And (a :: b :: rest) pos) (dAnd da db) :=
  fun X W c tk => PE.of (pe_and (ha X W c tk) (hb X W c tk)) fun σ H Q h => and_imp h
theorem v_or {a b : Expr} {rest : List Expr} {da db : Dn} (ha : VE s T a da) (hb : VE s T (.BoolOp .Or (b :: rest) pos) db) : VE s T (.BoolOp .Or (a :: b :: rest) pos) (dOr da db) :=
  fun X W c tk => PE.of (pe_or (ha X W c tk) (hb X W c tk)) fun σ H Q h => or_imp h
theorem v_not {a : Expr} {da : Dn} (ha : VE s T a da) : VE s T (.UnaryOp .Not a pos) (dNot da) :=
  fun X W c tk => PE.of (pe_not (ha X W c tk)) fun σ H Q h => by
    obtain ⟨G, p, o, h⟩ := h
    refine te_bind o h fun v p1 u H1 s1 r1 h => ?_
    obtain ⟨b, rfl, h⟩ := onB_run r1 h
    refine ⟨b, rfl, ?_⟩
    cases b <;> exact ok_bl s1.ok h

/-! ### tests -/
def VT (s : Sx) (T : Tab) (e : Expr) (den : Dn) : Prop := ∀ (X : Cx) (W : WX), CtxOk s T X → Takes X W → PT X e (tB (tE X.K (clK X.K) W den))
def VW (s : Sx) (T : Tab) (e : Expr) (den : Dn) : Prop := ∀ (X : Cx) (W : WX), CtxOk s T X → Takes X W → PW X e (tB (tE X.K (clK X.K) W den))
theorem PW.of {X : Cx} {e : Expr} {t t' : TT} (h : PW X e t) (i : ∀ σ H Q, t' σ H Q → t σ H Q) : PW X e t' := ⟨fun w pins s σ H Q I q => h.run w pins s σ H Q I (i σ H Q q)⟩
/-- a value that is a bool, as a test -/
theorem t_val {e : Expr} {d : Dn} (h : VE s T e d) (he : ∀ env whole, isTrue e env whole = (do let v ← whole; standAt e.pos; holding [v] (truthy v)) := by intro _ _; rfl) : VT s T e d := fun X W c tk => pt_val (h X W c tk) (he X.env)
theorem t_cmp {a b : Expr} {op : CmpOp} {f : D → D → Option Rv} {r : PySem.W.Frag → R2} {da db : Dn} (ho : ∀ X, CtxOk s T X → OpR X (compareOp op) (r X.K)) (h2 : ∀ K, Op2 K f (r K)) (ha : VE s T a da) (hb : VE s T b db) (hm : behindInMarks op b = false) : VT s T (.Compare a [op] [b] pos) (d2 f da db) :=
  fun X W c tk => PT.of (pt_cmpR (ho X c) (ha X W c tk) (hb X W c tk) hm) fun σ H Q h => op2_run (h2 X.K) h
theorem w_and1 {a : Expr} {da : Dn} (ha : VT s T a da) : VW s T (.BoolOp .And [a] pos) da := fun X W c tk => pw_and1 (ha X W c tk)
theorem w_or1 {a : Expr} {da : Dn} (ha : VT s T a da) : VW s T (.BoolOp .Or [a] pos) da := fun X W c tk => pw_or1 (ha X W c tk)
theorem w_and {a b : Expr} {rest : List Expr} {da db : Dn} (ha : VT s T a da) (hb : VW s T (.BoolOp .And (b :: rest) pos) db) : VW s T (.BoolOp .And (a :: b :: rest) pos) (dAnd da db) :=
  fun X W c tk => PW.of (pw_and (ha X W c tk) (hb X W c tk)) fun σ H Q h => by
    obtain ⟨G, p, o, h⟩ := h
    refine te_bind o h fun v p1 u H1 s1 r1 h => ?_
    obtain ⟨b, rfl, h⟩ := onB_run r1 h
    refine ⟨b, rfl, ?_⟩
    cases b with
    | true => exact ⟨G, p1, s1.ok, h⟩
    | false =>
      obtain ⟨b, e, q⟩ := ok_bl s1.ok h
      cases e; exact q
theorem w_or {a b : Expr} {rest : List Expr} {da db : Dn} (ha : VT s T a da) (hb : VW s T (.BoolOp .Or (b :: rest) pos) db) : VW s T (.BoolOp .Or (a :: b :: rest) pos) (dOr da db) :=
  fun X W c tk => PW.of (pw_or (ha X W c tk) (hb X W c tk)) fun σ H Q h => by
    obtain ⟨G, p, o, h⟩ := h
    refine te_bind o h fun v p1 u H1 s1 r1 h => ?_
    obtain ⟨b, rfl, h⟩ := onB_run r1 h
    refine ⟨b, rfl, ?_⟩
    cases b with
    | false => exact ⟨G, p1, s1.ok, h⟩
    | true =>
      obtain ⟨b, e, q⟩ := ok_bl s1.ok h
      cases e; exact q
theorem t_w {e : Expr} {d : Dn} (h : VW s T e d) : VT s T e d := fun X W c tk => (h X W c tk).pt
theorem t_not {a : Expr} {da : Dn} (ha : VT s T a da) : VT s T (.UnaryOp .Not a pos) (dNot da) :=
  fun X W c tk => PT.of (pt_not (ha X W c tk)) fun σ H Q h => by
    obtain ⟨G, p, o, h⟩ := h
    refine te_bind o h fun v p1 u H1 s1 r1 h => ?_
    obtain ⟨b, rfl, h⟩ := onB_run r1 h
    refine ⟨b, rfl, ?_⟩
    cases b with
    | false =>
      obtain ⟨b, e, q⟩ := ok_bl s1.ok h
      cases e; exact q
    | true =>
      obtain ⟨b, e, q⟩ := ok_bl s1.ok h
      cases e; exact q
theorem v_if {c a b : Expr} {dc da db : Dn} (hc : VT s T c dc) (ha : VE s T a da) (hb : VE s T b db) : VE s T (.IfExp c a b pos) (dIf dc da db) :=
  fun X W cx tk => PE.of (pe_ifExp (hc X W cx tk) (ha X W cx tk) (hb X W cx tk)) fun σ H Q h => by
    obtain ⟨G, p, o, h⟩ := h
    refine te_bind o h fun v p1 u H1 s1 r1 h => ?_
    obtain ⟨b, rfl, h⟩ := onB_run r1 h
    refine ⟨b, rfl, ?_⟩
    cases b <;> exact ⟨G, p1, s1.ok, h⟩
/-! ### a < b < c -/
def dChain (f g : D → D → Option Rv) (da db dc : Dn) : Dn := fun p => (da p).bind fun x p1 => (db p1).bind fun y p2 => (fin2 f x y p2).bind fun z p3 => onB z p3 (fun p3 => (dc p3).bind fun w p4 => fin2 g y.soft w p4) (fun p3 => .ok (.sh (.bl false)) p3)
theorem chain_imp {K : PySem.W.Frag} {cl : Nat → Addr} {W : WX} {f g : D → D → Option Rv} {r r' : R2} (h2 : Op2 K f r) (h3 : Op2 K g r') (hb : ∀ a b v, f a b = some v → ∃ k, v = .sh (.bl k)) {da db dc : Dn} {σ : L2.St} {H : Hp} {Q : VK} (h : tE K cl W (dChain f g da db dc) σ H Q) : tChain r r' (tE K cl W da) (tE K cl W db) (tE K cl W dc) σ H Q := by
  obtain ⟨G, p, o, h⟩ := h
  refine te_bind o h fun v p1 u H1 s1 r1 h => ?_
  refine te_bind s1.ok h fun v2 p2 u2 H2 s2 r2 h => ?_
  rw [← fin2_soft] at h
  refine fin2_run (f := f) (cl := cl) (W := W) h2 s2.ok (r1.soft.step s2) r2 ?_
  cases e : fin2 f v.soft v2 p2 with
  | bad => rw [e] at h; exact h.elim
  | exc c q =>
    unfold fin2 at e
    split at e
    · unfold give at e; split at e <;> cases e
    · cases e
  | ok z p3 =>
    rw [e] at h
    have hz : (∃ k, z = .sh (.bl k)) ∧ p3 = p2 := by
      unfold fin2 at e
      split at e
      · unfold give at e
        split at e
        · rename_i e3
          cases e
          exact ⟨hb _ _ _ e3, rfl⟩
        · cases e
      · cases e
    obtain ⟨⟨k, rfl⟩, rfl⟩ := hz
    refine fun u3 H3 s3 r3 => ?_
    cases (show Rep K _ H3 u3 (.bl k) from r3)
    refine ⟨k, rfl, ?_⟩
    have h := Post.from s3 h
    cases k with
    | false => exact ok_bl s3.ok h
    | true =>
      refine te_bind s3.ok h fun v4 p4 u4 H4 s4 r4 h => ?_
      exact fin2_run h3 s4.ok ((r2.soft.step s3).step s4) r4 h

/-! ### displays -/
def mkTup (ds : List D) : Option Rv := if ds.length ≤ 16777216 then some (.sh (.tup ds)) else none
def mkLst (ds : List D) : Option Rv := if ds.length ≤ 16777216 then some (.ow (.lst ds)) else none
def reps : List Rv → Option (List D)
  | [] => some []
  | .sh d :: vs => (reps vs).map (d :: ·)
  | _ :: _ => none
def finR (f : List D → Option Rv) (xs : List Rv) (p : PS) : R Rv := match reps xs with
  | some ds => give (f ds) p
  | none => .bad
def dTup (da : DnL) : Dn := fun p => (da p).bind fun xs p1 => finR mkTup xs p1
def dLst (da : DnL) : Dn := fun p => (da p).bind fun xs p1 => finR mkLst xs p1
theorem reps_ok {K : PySem.W.Frag} {G : Gh} {σ : L2.St} {H0 H : Hp} {p : PS} : ∀ {us : List V} {vs : List Rv} {ds : List D}, Paired (fun u v => RvOk K G σ p H0 H u v) us vs → reps vs = some ds → RepL K (Mu G σ p.env) H us ds
  | _, _, _, .nil, h => by
    have h : some ([] : List D) = some _ := h
    cases h; exact .nil
  | _, v :: vs, ds, .cons r t, h => by
    cases v with
    | sh d =>
      have h : (reps vs).map (d :: ·) = some ds := h
      cases e : reps vs with
      | none => rw [e] at h; cases h
      | some es =>
        rw [e] at h; cases h
        exact .cons r (reps_ok t e)
    | ow d => cases h
    | bo i => cases h
    | sr => cases h
theorem v_tup {es : List Expr} {k : Nat} {da : DnL} (ha : VL s T es da) : VE s T (.Tuple es k pos) (dTup da) :=
  fun X W c tk => PE.of (pe_tup (ha X W c tk)) fun σ H Q h => by
    obtain ⟨G, p, o, h⟩ := h
    refine tl_bind o h fun v p1 u H1 s1 r1 h => ?_
    unfold finR at h
    cases e : reps v with
    | none => rw [e] at h; exact h.elim
    | some ds =>
      rw [e] at h
      have rr := reps_ok r1 e
      by_cases hl : ds.length ≤ 16777216
      · have e2 : mkTup ds = some (.sh (.tup ds)) := if_pos hl
        have h : Post X.K (clK X.K) W G σ H1 p1 Q (give (mkTup ds) p1) := h
        rw [e2] at h
        refine ⟨by rw [rr.length]; exact szl hl, ?_⟩
        exact res_tup (fun z => s1.ok.dom) rr (res_of' (v := .sh (.tup ds)) s1.ok h rfl)
      · have e2 : mkTup ds = none := if_neg hl
        have h : Post X.K (clK X.K) W G σ H1 p1 Q (give (mkTup ds) p1) := h
        rw [e2] at h
        exact h.elim
theorem v_lst {es : List Expr} {da : DnL} (ha : VL s T es da) : VE s T (.List es pos) (dLst da) :=
  fun X W c tk => PE.of (pe_lst (ha X W c tk)) fun σ H Q h => by
    obtain ⟨G, p, o, h⟩ := h
    refine tl_bind o h fun v p1 u H1 s1 r1 h => ?_
    unfold finR at h
    cases e : reps v with
    | none => rw [e] at h; exact h.elim
    | some ds =>
      rw [e] at h
      have rr := reps_ok r1 e
      by_cases hl : ds.length ≤ 16777216
      · have e2 : mkLst ds = some (.ow (.lst ds)) := if_pos hl
        have h : Post X.K (clK X.K) W G σ H1 p1 Q (give (mkLst ds) p1) := h
        rw [e2] at h
        refine ⟨by rw [rr.length]; exact szl hl, ?_⟩
        exact res_lst rr (res_of' (v := .ow (.lst ds)) s1.ok h rfl)
      · have e2 : mkLst ds = none := if_neg hl
        have h : Post X.K (clK X.K) W G σ H1 p1 Q (give (mkLst ds) p1) := h
        rw [e2] at h
        exact h.elim

/-! ### slices -/
abbrev DnO := PS → R (Option Int)
def PostO (K : PySem.W.Frag) (cl : Nat → Addr) (W : WX) (G : Gh) (σ : L2.St) (H : Hp) (p : PS) (Q : Option Int → Hp → Prop) : R (Option Int) → Prop
  | .ok o p' => ∀ H', StpE K G σ p H p' H' → Q o H'
  | .exc c p' => ∀ H', StpE K G σ p H p' H' → FlyX cl (fun v d H' => W v d σ H') H c H'
  | .bad => False
/-- a slice's part: none stands for nothing written -/
def VO (s : Sx) (T : Tab) (e : Option Expr) (den : DnO) : Prop := ∀ (X : Cx) (W : WX), CtxOk s T X → Takes X W → ∃ t : TO, PO X e t ∧ ∀ G σ H p (Q : Option Int → Hp → Prop), Ok X.K G σ H p → PostO X.K (clK X.K) W G σ H p Q (den p) → t σ H Q
def dO0 : DnO := fun p => .ok none p
def asI (x : Rv) (p : PS) : R (Option Int) := match x with
  | .sh (.int i) => .ok (some i) p
  | _ => .bad
def dO1 (d : Dn) : DnO := fun p => (d p).bind fun x p1 => asI x p1
theorem o_none : VO s T none dO0 := fun X W c tk => ⟨_, po_none, fun G σ H p Q o h => h H (.refl o)⟩
theorem o_some {e : Expr} {d : Dn} (h : VE s T e d) : VO s T (some e) (dO1 d) := fun X W c tk => ⟨_, po_some (h X W c tk), fun G σ H p Q o h => by
  unfold dO1 at h
  refine ⟨G, p, o, ?_⟩
  cases e : d p with
  | bad => rw [e] at h; exact h.elim
  | exc c q => rw [e] at h; exact h
  | ok v p1 =>
    rw [e] at h
    have h : PostO X.K (clK X.K) W G σ H p Q (asI v p1) := h
    intro u H1 s1 r1
    unfold asI at h
    split at h
    · cases (show Rep X.K _ H1 u (.int _) from r1)
      exact ⟨_, rfl, h H1 s1⟩
    · exact h.elim⟩
def cutD {α : Type} (xs : List α) (lo hi : Option Int) : List α := (xs.drop (HT.sIx xs.length 0 lo)).take (HT.sIx xs.length xs.length hi - HT.sIx xs.length 0 lo)
def opSl (lo hi : Option Int) : D → Option Rv
  | .str x => if x.length ≤ 16777216 then some (.sh (.str (cutD x lo hi))) else none
  | .lst x => some (.ow (.lst (cutD x lo hi)))
  | .tup x => some (.sh (.tup (cutD x lo hi)))
  | _ => none
def dSl (da : Dn) (dl dh : DnO) : Dn := fun p => (da p).bind fun x p1 => (dl p1).bind fun l p2 => (dh p2).bind fun h p3 => fin1 (opSl l h) x.soft p3
theorem cutS_S (x : List Nat) (lo hi : Option Int) : cutS (S x) lo hi = S (cutD x lo hi) := by
  unfold cutS cutD
  rw [S_len, S_list]
  rfl
theorem po_bind {K : PySem.W.Frag} {cl : Nat → Addr} {W : WX} {G : Gh} {σ : L2.St} {H : Hp} {p : PS} {Q : VK} {r : R (Option Int)} {f : Option Int → PS → R Rv} {Q' : Option Int → Hp → Prop} (h : Post K cl W G σ H p Q (r.bind f))
    (k : ∀ v p1 H1, StpE K G σ p H p1 H1 → Post K cl W G σ H1 p1 Q (f v p1) → Q' v H1) : PostO K cl W G σ H p Q' r := by
  cases r with
  | ok v p1 => exact fun H1 s => k v p1 H1 s (Post.from s h)
  | exc c p1 => exact h
  | bad => exact h.elim
theorem cutV_rep {K : PySem.W.Frag} {M : Addr → Prop} {H : Hp} {xs : List V} {ds : List D} (r : RepL K M H xs ds) (lo hi : Option Int) : RepL K M H (cutV xs lo hi) (cutD ds lo hi) := by
  unfold cutV cutD
  rw [r.length]
  exact (r.drop _).take _
theorem cut_all {α : Type} (xs : List α) (lo hi : Option Int) (h : HT.sIx xs.length 0 lo = 0 ∧ HT.sIx xs.length xs.length hi = xs.length) : cutD xs lo hi = xs := by
  unfold cutD
  rw [h.1, h.2, List.drop_zero, Nat.sub_zero, List.take_length]
def rSls (K : PySem.W.Frag) : V → Option Int → Option Int → Hp → VK → Prop := fun x lo hi H Q => rSlS x lo hi H Q ∨ rSlL K x lo hi H Q ∨ rSlA K x lo hi H Q
theorem op1_sl {K : PySem.W.Frag} (lo hi : Option Int) : Op1 K (opSl lo hi) (fun x H Q => rSls K x lo hi H Q) := by
  intro M H x a v Q dom ra h
  cases a <;> simp only [opSl] at h <;> (try cases h)
  · split at h
    · rename_i hl
      cases h
      exact ⟨rfl, fun q => .inl ⟨_, ra.str_, by rw [S_len]; exact szl hl, by rw [cutS_S]; exact res_str q⟩⟩
    · cases h
  · obtain ⟨q1, xs, rfl, h1, h2, r1⟩ := ra.tup_
    refine ⟨rfl, fun q => .inr (.inr ⟨q1, xs, rfl, h2, fun e => ?_, fun _ => res_tup dom (cutV_rep r1 lo hi) q⟩)⟩
    rw [r1.length] at e
    rw [cut_all _ _ _ e] at q
    exact res_same (.tup h1 r1) q
  · obtain ⟨q1, xs, rfl, h1, r1⟩ := ra.lst_
    exact ⟨rfl, fun q => .inr (.inl ⟨q1, xs, rfl, .inl (.inl h1), res_lst (cutV_rep r1 lo hi) q⟩)⟩
theorem v_sl {e : Expr} {lo hi : Option Expr} {da : Dn} {dl dh : DnO} {p2 : Pos} (ha : VE s T e da) (hl : VO s T lo dl) (hh : VO s T hi dh) : VE s T (.Subscript e (.Slice lo hi none p2) pos) (dSl da dl dh) := fun X W c tk => by
  obtain ⟨tl, pl, il⟩ := hl X W c tk
  obtain ⟨th, ph, ih⟩ := hh X W c tk
  refine PE.of (pe_slice (sl_str.or (sl_list.or sl_tupA)) (ha X W c tk) pl ph) fun σ H Q h => ?_
  obtain ⟨G, p, o, h⟩ := h
  refine te_bind o h fun v p1 u H1 s1 r1 h => il G σ H1 p1 _ s1.ok (po_bind h fun l p2 H2 s2 h => ih G σ H2 p2 _ s2.ok (po_bind h fun hv p3 H3 s3 h => ?_))
  exact fin1_run (op1_sl l hv) s3.ok ((r1.soft.step s2).step s3) h
/-! ### xs[::-1] -/
def opRev : D → Option Rv
  | .lst x => some (.ow (.lst x.reverse))
  | _ => none
theorem op1_rev {K : PySem.W.Frag} : Op1 K opRev (fun x H Q => ∃ a xs, x = .ref a ∧ SqL K H a xs ∧ ∀ p, H p = none → Q (.ref p) (upd H p (.lst xs.reverse))) := by
  intro M H x a v Q dom ra h
  cases a <;> simp only [opRev] at h <;> (try cases h)
  obtain ⟨q1, xs, rfl, h1, r1⟩ := ra.lst_
  exact ⟨rfl, fun q => ⟨q1, xs, rfl, .inl (.inl h1), res_lst r1.reverse q⟩⟩
theorem v_rev {e : Expr} {da : Dn} {k : Nat} {p1 p2 p3 : Pos} (ha : VE s T e da) : VE s T (.Subscript e (.Slice none none (some (.UnaryOp .USub (.Constant (.int 1) k p1) p2)) p3) pos) (d1 opRev da) :=
  fun X W c tk => PE.of (pe_revL (ha X W c tk)) fun σ H Q h => op1_run (op1_rev (K := X.K)) h
end
end Py
set_option maxRecDepth 100000
namespace Py
open PySem PySem.Spec PyProof.Rows L2

/-! ### calls of own defs -/
/-- the arguments as the callee meets them -/
def argSl (p : PS) : Rv → Option Sl
  | .sh d => some (.sh d)
  | .bo i => match p.env[i]? with
    | some (.own _ false d) => some (.own true false d)
    | _ => none
  | .sr => some .src
  | .ow _ => none
def argSls (p : PS) : List Rv → Option (List Sl)
  | [] => some []
  | v :: vs => match argSl p v, argSls p vs with
    | some a, some as => some (a :: as)
    | _, _ => none
/-- the slots that are lent -/
def lentI : List Rv → List Nat
  | [] => []
  | .bo i :: vs => i :: lentI vs
  | _ :: vs => lentI vs
def putBack (env : List Sl) : List Rv → List Sl → List Sl
  | .bo i :: vs, .own _ _ d :: bs => match env[i]? with
    | some (.own l z _) => putBack (env.set i (.own l z d)) vs bs
    | _ => putBack env vs bs
  | _ :: vs, _ :: bs => putBack env vs bs
  | _, _ => env
def finS (r : FR) (xs : List Rv) (p : PS) : R Rv := match r with
  | .ok fresh d back src => .ok (if fresh then .ow d else .sh d) ⟨putBack p.env xs back, src⟩
  | .exc c back src => .exc c ⟨putBack p.env xs back, src⟩
  | .bad => .bad
def finC (k : Nat) (sem : List Sl → List Int × Int → FR) (xs : List Rv) (p : PS) : R Rv :=
  if (lentI xs).Nodup ∧ xs.length = k then match argSls p xs with
    | some as => finS (sem as p.src) xs p
    | none => .bad
  else .bad
def dCall (k : Nat) (sem : List Sl → List Int × Int → FR) (da : DnL) : Dn := fun p => (da p).bind fun xs p1 => finC k sem xs p1

section
variable {K : PySem.W.Frag} {G : Gh} {σ : L2.St} {H H' H0 : Hp} {p p' : PS}

theorem argSls_get : ∀ {xs : List Rv} {as : List Sl} {i : Nat} {x : Rv}, argSls p xs = some as → xs[i]? = some x → ∃ a, as[i]? = some a ∧ argSl p x = some a
  | [], _, _, _, _, h => by simp at h
  | v :: vs, as, i, x, e, h => by
    unfold argSls at e
    cases e1 : argSl p v with
    | none => rw [e1] at e; cases e
    | some a =>
      cases e2 : argSls p vs with
      | none => rw [e1, e2] at e; cases e
      | some bs =>
        rw [e1, e2] at e; cases e
        cases i with
        | zero => simp at h; subst h; exact ⟨a, rfl, e1⟩
        | succ i => exact argSls_get (i := i) e2 (by simpa using h)
theorem argSls_inv : ∀ {xs : List Rv} {as : List Sl} {i : Nat} {a : Sl}, argSls p xs = some as → as[i]? = some a → ∃ x, xs[i]? = some x ∧ argSl p x = some a
  | [], as, i, _, e, h => by
    have e : some ([] : List Sl) = some as := e
    cases e; simp at h
  | v :: vs, as, i, x, e, h => by
    unfold argSls at e
    cases e1 : argSl p v with
    | none => rw [e1] at e; cases e
    | some a =>
      cases e2 : argSls p vs with
      | none => rw [e1, e2] at e; cases e
      | some bs =>
        rw [e1, e2] at e; cases e
        cases i with
        | zero => simp at h; subst h; exact ⟨v, rfl, e1⟩
        | succ i => exact argSls_inv (i := i) e2 (by simpa using h)
theorem lentI_mem : ∀ {xs : List Rv} {k i : Nat}, xs[k]? = some (.bo i) → i ∈ lentI xs
  | [], _, _, h => by simp at h
  | v :: vs, 0, i, h => by simp at h; subst h; simp [lentI]
  | v :: vs, k + 1, i, h => by
    have := lentI_mem (xs := vs) (k := k) (i := i) (by simpa using h)
    cases v <;> simp [lentI, this]
theorem lentI_inj : ∀ {xs : List Rv} {k j i : Nat}, (lentI xs).Nodup → xs[k]? = some (.bo i) → xs[j]? = some (.bo i) → k = j
  | [], _, _, _, _, h, _ => by simp at h
  | v :: vs, 0, 0, _, _, _, _ => rfl
  | v :: vs, 0, j + 1, i, nd, h1, h2 => by
    simp at h1; subst h1
    have := lentI_mem (xs := vs) (k := j) (i := i) (by simpa using h2)
    simp [lentI] at nd
    exact absurd this nd.1
  | v :: vs, k + 1, 0, i, nd, h1, h2 => by
    simp at h2; subst h2
    have := lentI_mem (xs := vs) (k := k) (i := i) (by simpa using h1)
    simp [lentI] at nd
    exact absurd this nd.1
  | v :: vs, k + 1, j + 1, i, nd, h1, h2 => by
    have nd' : (lentI vs).Nodup := by
      cases v <;> simp [lentI] at nd
      all_goals first | exact nd | exact nd.2
    rw [lentI_inj (xs := vs) (k := k) (j := j) (i := i) nd' (by simpa using h1) (by simpa using h2)]
theorem paired_get {α β : Type} {F : α → β → Prop} : ∀ {l : List α} {m : List β} {i : Nat} {y : β}, Paired F l m → m[i]? = some y → ∃ x, l[i]? = some x ∧ F x y
  | _, _, _, _, .nil, h => by simp at h
  | _, _, 0, _, .cons r _, h => by simp at h; subst h; exact ⟨_, rfl, r⟩
  | _, _, i + 1, _, .cons _ t, h => by
    obtain ⟨x, h1, h2⟩ := paired_get (i := i) t (by simpa using h)
    exact ⟨x, by simpa using h1, h2⟩
theorem paired_getL {α β : Type} {F : α → β → Prop} : ∀ {l : List α} {m : List β} {i : Nat} {y : α}, Paired F l m → l[i]? = some y → ∃ x, m[i]? = some x ∧ F y x
  | _, _, _, _, .nil, h => by simp at h
  | _, _, 0, _, .cons r _, h => by simp at h; subst h; exact ⟨_, rfl, r⟩
  | _, _, i + 1, _, .cons _ t, h => by
    obtain ⟨x, h1, h2⟩ := paired_getL (i := i) t (by simpa using h)
    exact ⟨x, by simpa using h1, h2⟩
theorem paired_of {α β : Type} {F : α → β → Prop} : ∀ {l : List α} {m : List β}, l.length = m.length → (∀ (i : Nat) x y, l[i]? = some x → m[i]? = some y → F x y) → Paired F l m
  | [], [], _, _ => .nil
  | [], _ :: _, h, _ => by simp at h
  | _ :: _, [], h, _ => by simp at h
  | x :: l, y :: m, h, f => .cons (f 0 x y rfl rfl) (paired_of (by simpa using h) fun i a b h1 h2 => f (i + 1) a b (by simpa using h1) (by simpa using h2))
theorem argSls_len : ∀ {xs : List Rv} {as : List Sl}, argSls p xs = some as → xs.length = as.length
  | [], as, e => by
    have e : some ([] : List Sl) = some as := e
    cases e; rfl
  | v :: vs, as, e => by
    unfold argSls at e
    cases e1 : argSl p v with
    | none => rw [e1] at e; cases e
    | some a =>
      cases e2 : argSls p vs with
      | none => rw [e1, e2] at e; cases e
      | some bs =>
        rw [e1, e2] at e; cases e
        simp [argSls_len e2]
theorem argSl_own {x : Rv} {l z : Bool} {d : D} (h : argSl p x = some (.own l z d)) : ∃ i l', x = .bo i ∧ p.env[i]? = some (.own l' false d) ∧ l = true ∧ z = false := by
  cases x with
  | sh d => cases h
  | ow d => cases h
  | sr => cases h
  | bo i =>
    have h : (match p.env[i]? with | some (.own _ false d) => some (.own true false d) | _ => none) = some (Sl.own l z d) := h
    split at h
    · rename_i e
      cases h
      exact ⟨i, _, rfl, e, rfl, rfl⟩
    · cases h

/-- the callee's ghost: what is not lent must not be met -/
def calleeG (G : Gh) (σ : L2.St) (env : List Sl) (us : List V) (as : List Sl) : Gh := ⟨fun a => G.mx a ∨ (ownA σ env a ∧ ¬ lentA us as a), G.ga⟩

structure Hands (K : PySem.W.Frag) (G : Gh) (σ : L2.St) (H : Hp) (p : PS) (us : List V) (xs : List Rv) (as : List Sl) : Prop where
  o : Ok K G σ H p
  r : Paired (fun u v => RvOk K G σ p H H u v) us xs
  e : argSls p xs = some as
  nd : (lentI xs).Nodup
variable {us : List V} {xs : List Rv} {as : List Sl}
theorem Hands.lent (h : Hands K G σ H p us xs as) {a : Addr} (z : lentA us as a) : ∃ (k i : Nat) (l : Bool) (d : D), xs[k]? = some (.bo i) ∧ us[k]? = some (.ref a) ∧ p.env[i]? = some (.own l false d) ∧ σ[i]? = some (some (.ref a)) ∧ as[k]? = some (.own true false d) := by
  obtain ⟨k, l, z, d, h1, h2⟩ := z
  obtain ⟨x, h3, h4⟩ := argSls_inv h.e h1
  obtain ⟨i, l', rfl, h5, rfl, rfl⟩ := argSl_own h4
  obtain ⟨u, h6, h7⟩ := paired_get h.r h3
  rw [h2] at h6; cases h6
  exact ⟨k, i, l', d, h3, h2, h5, h7.2, h1⟩
theorem Hands.ma (h : Hands K G σ H p us xs as) : Ma (calleeG G σ p.env us as) us as = Mu G σ p.env := by
  funext a
  apply propext
  constructor
  · rintro ((z | z) | z | z)
    · exact .inl z
    · exact .inr (.inr z.1)
    · exact .inr (.inl z)
    · obtain ⟨k, i, l, d, h1, h2, h3, h4, _⟩ := h.lent z
      exact .inr (.inr ⟨i, l, false, d, h3, h4⟩)
  · rintro (z | z | z)
    · exact .inl (.inl z)
    · exact .inr (.inl z)
    · by_cases q : lentA us as a
      · exact .inr (.inr q)
      · exact .inl (.inr ⟨z, q⟩)
theorem Hands.nga (h : Hands K G σ H p us xs as) {a : Addr} (z : ownA σ p.env a) : ¬ gaA G a ∧ ¬ G.mx a := by
  obtain ⟨i, l, z, d, h1, h2⟩ := z
  obtain ⟨b, h3, _, h4, h5⟩ := h.o.ow i l z d h1
  rw [h2] at h3; cases h3
  exact ⟨h5, h4⟩
theorem Hands.call (h : Hands K G σ H p us xs as) : CallOk K (calleeG G σ p.env us as) H us as p.src := by
  have len1 : us.length = xs.length := Paired.length h.r
  have len2 := argSls_len h.e
  refine ⟨paired_of (by omega) fun k u a h1 h2 => ?_, fun k j l z d l' z' d' a h1 h2 h3 h4 => ?_, fun a z => ?_, fun q e => ?_⟩
  · rw [h.ma]
    obtain ⟨x, h3, h4⟩ := argSls_inv h.e h2
    obtain ⟨u', h5, h6⟩ := paired_get h.r h3
    rw [h1] at h5; cases h5
    cases x with
    | sh d => cases h4; exact h6
    | ow d => cases h4
    | sr =>
      cases h4
      exact h6
    | bo i =>
      have h4 : (match p.env[i]? with | some (.own _ false d) => some (Sl.own true false d) | _ => none) = some a := h4
      split at h4
      · rename_i l d e
        cases h4
        obtain ⟨b, h7, h8, h9, h10⟩ := h.o.ow i l false d e
        rw [h6.2] at h7; cases h7
        refine ⟨rfl, rfl, b, rfl, h8, ?_, h10⟩
        rintro (z | z)
        · exact h9 z
        · exact z.2 ⟨k, true, false, d, h2, h1⟩
      · cases h4
  · obtain ⟨x, h5, h6⟩ := argSls_inv h.e h1
    obtain ⟨i, l1, rfl, e1, rfl, rfl⟩ := argSl_own h6
    obtain ⟨y, h7, h8⟩ := argSls_inv h.e h2
    obtain ⟨i2, l2, rfl, e2, rfl, rfl⟩ := argSl_own h8
    obtain ⟨u1, g1, g2⟩ := paired_get h.r h5
    rw [h3] at g1; cases g1
    obtain ⟨u2, g3, g4⟩ := paired_get h.r h7
    rw [h4] at g3; cases g3
    have := h.o.inj _ _ _ _ _ _ _ _ _ e1 e2 g2.2 g4.2
    subst this
    exact lentI_inj h.nd h5 h7
  · rcases z with z | z
    · exact h.o.mx a z
    · exact h.o.dom (.inr (.inr z.1))
  · obtain ⟨h1, h2, h3, h4, h5⟩ := h.o.ga q e
    refine ⟨h1, h2, h3, ?_, ?_⟩
    · rintro (z | z)
      · exact h4 z
      · exact (h.nga z.1).1 ⟨q, e, .inl rfl⟩
    · rintro (z | z)
      · exact h5 z
      · exact (h.nga z.1).1 ⟨q, e, .inr rfl⟩

/-- the slots behind a call -/
theorem putBack_len : ∀ (xs : List Rv) (bs : List Sl) (env : List Sl), (putBack env xs bs).length = env.length
  | [], [], env => rfl
  | [], _ :: _, env => rfl
  | v :: vs, [], env => by cases v <;> rfl
  | v :: vs, b :: bs, env => by
    cases v with
    | bo i =>
      cases b with
      | own l z d =>
        show (match env[i]? with | some (.own l z _) => putBack (env.set i (.own l z d)) vs bs | _ => putBack env vs bs).length = _
        split
        · rw [putBack_len vs bs]; simp
        · exact putBack_len vs bs env
      | no => exact putBack_len vs bs env
      | sh d => exact putBack_len vs bs env
      | src => exact putBack_len vs bs env
    | sh d => exact putBack_len vs bs env
    | ow d => exact putBack_len vs bs env
    | sr => exact putBack_len vs bs env
/-- a slot that is not lent stays -/
theorem putBack_out : ∀ (xs : List Rv) (bs : List Sl) (env : List Sl) (j : Nat), j ∉ lentI xs → (putBack env xs bs)[j]? = env[j]?
  | [], [], env, _, _ => rfl
  | [], _ :: _, env, _, _ => rfl
  | v :: vs, [], env, _, _ => by cases v <;> rfl
  | v :: vs, b :: bs, env, j, h => by
    cases v with
    | bo i =>
      simp [lentI] at h
      cases b with
      | own l z d =>
        show (match env[i]? with | some (.own l z _) => putBack (env.set i (.own l z d)) vs bs | _ => putBack env vs bs)[j]? = _
        split
        · rw [putBack_out vs bs _ j h.2, List.getElem?_set_ne (Ne.symm h.1)]
        · exact putBack_out vs bs env j h.2
      | no => exact putBack_out vs bs env j h.2
      | sh d => exact putBack_out vs bs env j h.2
      | src => exact putBack_out vs bs env j h.2
    | sh d => exact putBack_out vs bs env j h
    | ow d => exact putBack_out vs bs env j h
    | sr => exact putBack_out vs bs env j h
/-- a slot that is lent holds what came back -/
theorem putBack_in : ∀ (xs : List Rv) (bs : List Sl) (env : List Sl) (k j : Nat) (l z l' z' : Bool) (d d' : D), (lentI xs).Nodup → xs[k]? = some (.bo j) → bs[k]? = some (.own l' z' d') → env[j]? = some (.own l z d) → (putBack env xs bs)[j]? = some (.own l z d')
  | [], _, _, _, _, _, _, _, _, _, _, _, h, _, _ => by simp at h
  | v :: vs, [], _, _, _, _, _, _, _, _, _, _, _, h, _ => by simp at h
  | v :: vs, b :: bs, env, 0, j, l, z, l', z', d, d', nd, h1, h2, h3 => by
    simp at h1 h2
    subst h1; subst h2
    simp [lentI] at nd
    show (match env[j]? with | some (.own l z _) => putBack (env.set j (.own l z d')) vs bs | _ => putBack env vs bs)[j]? = _
    rw [h3]
    show (putBack (env.set j (.own l z d')) vs bs)[j]? = _
    rw [putBack_out vs bs _ j nd.1]
    have hj : j < env.length := (List.getElem?_eq_some_iff.mp h3).1
    rw [List.getElem?_set_self hj]
  | v :: vs, b :: bs, env, k + 1, j, l, z, l', z', d, d', nd, h1, h2, h3 => by
    have h1 : vs[k]? = some (.bo j) := by simpa using h1
    have h2 : bs[k]? = some (.own l' z' d') := by simpa using h2
    have go : ∀ env', env'[j]? = some (Sl.own l z d) → (lentI vs).Nodup → (putBack env' vs bs)[j]? = some (.own l z d') := fun env' h nd' => putBack_in vs bs env' k j l z l' z' d d' nd' h1 h2 h
    cases v with
    | bo i =>
      simp [lentI] at nd
      have hij : i ≠ j := fun e => nd.1 (e ▸ lentI_mem h1)
      cases b with
      | own l2 z2 d2 =>
        show (match env[i]? with | some (.own l z _) => putBack (env.set i (.own l z d2)) vs bs | _ => putBack env vs bs)[j]? = _
        split
        · exact go _ (by rw [List.getElem?_set_ne hij]; exact h3) nd.2
        · exact go _ h3 nd.2
      | no => exact go _ h3 nd.2
      | sh d => exact go _ h3 nd.2
      | src => exact go _ h3 nd.2
    | sh d => exact go _ h3 (by simpa [lentI] using nd)
    | ow d => exact go _ h3 (by simpa [lentI] using nd)
    | sr => exact go _ h3 (by simpa [lentI] using nd)
theorem lentI_get : ∀ {xs : List Rv} {i : Nat}, i ∈ lentI xs → ∃ k : Nat, xs[k]? = some (.bo i)
  | [], _, h => by simp [lentI] at h
  | v :: vs, i, h => by
    cases v with
    | bo j =>
      simp [lentI] at h
      rcases h with rfl | h
      · exact ⟨0, rfl⟩
      · obtain ⟨k, e⟩ := lentI_get h
        exact ⟨k + 1, by simpa using e⟩
    | sh d => obtain ⟨k, e⟩ := lentI_get (xs := vs) h; exact ⟨k + 1, by simpa using e⟩
    | ow d => obtain ⟨k, e⟩ := lentI_get (xs := vs) h; exact ⟨k + 1, by simpa using e⟩
    | sr => obtain ⟨k, e⟩ := lentI_get (xs := vs) h; exact ⟨k + 1, by simpa using e⟩

theorem same1_own {l z : Bool} {d : D} {y : Sl} (h : Same1 (.own l z d) y) : ∃ d', y = .own l z d' := by
  cases y <;> simp [Same1] at h
  obtain ⟨rfl, rfl⟩ := h
  exact ⟨_, rfl⟩
/-- the state behind a call, as the caller has it: more stands for the result's own address -/
theorem Hands.back (h : Hands K G σ H p us xs as) {G2 : Gh} {back : List Sl} {src : List Int × Int} (b : BackOk K { calleeG G σ p.env us as with mx := G2.mx } H us as back src H') (hg : G2.ga = G.ga)
    (h1 : ∀ a, G.mx a ∨ (ownA σ p.env a ∧ ¬ lentA us as a) → G2.mx a) (h2 : ∀ a, G2.mx a → (G.mx a ∨ (ownA σ p.env a ∧ ¬ lentA us as a)) ∨ H a = none) (G3 : Gh) (g3 : G3.ga = G.ga)
    (m1 : ∀ a, G3.mx a → G2.mx a) (m2 : ∀ a, G3.mx a → ¬ ownA σ p.env a) (m3 : ∀ a, G3.mx a → H' a ≠ none) (m4 : ∀ a, G3.mx a → ¬ gaA G a) (m5 : ∀ a, G3.mx a → G.mx a ∨ H a = none) :
    Ok K G3 σ H' ⟨putBack p.env xs back, src⟩ ∧ SameE p.env (putBack p.env xs back) ∧ (∀ a o, H a = some o → ¬ Lm G σ p.env a → H' a = some o) := by
  have len1 : us.length = xs.length := Paired.length h.r
  have len2 := argSls_len h.e
  have lenb : as.length = back.length := b.bk.1
  have own1 : ∀ (j : Nat) (l z : Bool) (d : D), p.env[j]? = some (.own l z d) → ∃ d', (putBack p.env xs back)[j]? = some (.own l z d') ∧ ((d' = d ∧ j ∉ lentI xs) ∨ ∃ k : Nat, xs[k]? = some (.bo j) ∧ back[k]? = some (.own true false d')) := fun j l z d e => by
    by_cases hj : j ∈ lentI xs
    · obtain ⟨k, hk⟩ := lentI_get hj
      obtain ⟨a, ha, hb⟩ := argSls_get h.e hk
      have hb : (match p.env[j]? with | some (.own _ false d) => some (Sl.own true false d) | _ => none) = some a := hb
      split at hb
      · rename_i e2
        cases hb
        obtain ⟨y, hy, sy⟩ := b.bk.2 k _ ha
        obtain ⟨d', rfl⟩ := same1_own sy
        exact ⟨d', putBack_in xs back p.env k j l z true false d d' h.nd hk hy e, .inr ⟨k, hk, hy⟩⟩
      · cases hb
    · exact ⟨d, by rw [putBack_out xs back p.env j hj]; exact e, .inl ⟨rfl, hj⟩⟩
  have other : ∀ (j : Nat), (∀ l z d, p.env[j]? ≠ some (.own l z d)) → (putBack p.env xs back)[j]? = p.env[j]? := fun j hj => by
    refine putBack_out xs back p.env j fun hm => ?_
    obtain ⟨k, hk⟩ := lentI_get hm
    obtain ⟨a, ha, hb⟩ := argSls_get h.e hk
    have hb : (match p.env[j]? with | some (.own _ false d) => some (Sl.own true false d) | _ => none) = some a := hb
    split at hb
    · rename_i e2
      exact hj _ _ _ e2
    · cases hb
  have sameE : SameE p.env (putBack p.env xs back) := by
    refine ⟨(putBack_len _ _ _).symm, fun j x e => ?_⟩
    cases x with
    | own l z d =>
      obtain ⟨d', e2, _⟩ := own1 j l z d e
      exact ⟨_, e2, rfl, rfl⟩
    | no => exact ⟨_, by rw [other j fun l z d e' => by rw [e] at e'; cases e']; exact e, rfl⟩
    | sh d => exact ⟨_, by rw [other j fun l z d e' => by rw [e] at e'; cases e']; exact e, rfl⟩
    | src => exact ⟨_, by rw [other j fun l z d e' => by rw [e] at e'; cases e']; exact e, rfl⟩
  have fr : ∀ a o, H a = some o → ¬ (gaA G a ∨ lentA us as a) → H' a = some o := fun a o e n => b.fr a o e n
  have mm : ∀ a, Mu G3 σ (putBack p.env xs back) a → Mu G σ p.env a ∨ H a = none := fun a z => by
    rcases z with z | ⟨q, e, z⟩ | z
    · rcases m5 a z with z | z
      · exact .inl (.inl z)
      · exact .inr z
    · exact .inl (.inr (.inl ⟨q, by rw [← g3]; exact e, z⟩))
    · exact .inl (.inr (.inr (sameE.ownA.mp z)))
  have lentMu : ∀ a, gaA G a ∨ lentA us as a → Mu G σ p.env a := fun a z => by
    rcases z with z | z
    · exact .inr (.inl z)
    · obtain ⟨k, i, l, d, _, _, e1, e2, _⟩ := h.lent z
      exact .inr (.inr ⟨i, l, false, d, e1, e2⟩)
  have rep : ∀ {v : V} {d : D}, Rep K (Mu G σ p.env) H v d → Rep K (Mu G3 σ (putBack p.env xs back)) H' v d := fun r =>
    Rep.mono K (fun a o e n => fr a o e fun z => n (lentMu a z)) mm r
  refine ⟨⟨?_, fun i d e => ?_, fun i l z d e => ?_, fun i j l z d l' z' d' a e1 e2 e3 e4 => ?_, fun i e => ?_, m3, fun q e => ?_⟩, sameE, fun a o e n => ?_⟩
  · rw [putBack_len]; exact h.o.len
  · have e' : p.env[i]? = some (.sh d) := by
      rw [← other i fun l z d' e' => ?_]
      · exact e
      · obtain ⟨d2, e2, _⟩ := own1 i l z d' e'
        rw [e] at e2; cases e2
    obtain ⟨v, h1, h2⟩ := h.o.sh i d e'
    exact ⟨v, h1, rep h2⟩
  · obtain ⟨d0, e0⟩ := sameE.symm_own e
    obtain ⟨a, g1, g2, g3', g4⟩ := h.o.ow i l z d0 e0
    refine ⟨a, g1, ?_, fun z' => m2 a z' ⟨i, l, z, d0, e0, g1⟩, fun ⟨q, eq, z'⟩ => g4 ⟨q, by rw [← g3]; exact eq, z'⟩⟩
    obtain ⟨d', e', hd⟩ := own1 i l z d0 e0
    rw [e] at e'; cases e'
    rcases hd with ⟨rfl, hj⟩ | ⟨k, hk, hbk⟩
    · refine g2.mono (fun a o e n => fr a o e fun z => n (lentMu a z)) mm fun o eo => fr a o eo ?_
      rintro (z' | z')
      · exact g4 z'
      · obtain ⟨k, i', l', d', e1, e2, e3, e4, e5⟩ := h.lent z'
        have := h.o.inj _ _ _ _ _ _ _ _ _ e3 e0 e4 g1
        subst this
        exact hj (lentI_mem e1)
    · obtain ⟨u, q1, q2⟩ := paired_get h.r hk
      have q3 := q2.2
      rw [g1] at q3; cases q3
      have w := b.own k true false d a hbk q1
      refine w.mono (fun _ _ e _ => e) (fun c z' => ?_) (fun _ e => e)
      rcases z' with z' | ⟨q, eq, z'⟩ | z'
      · exact .inl (.inl (m1 c z'))
      · exact .inl (.inr (.inl ⟨q, by show G.ga = _; rw [← g3]; exact eq, z'⟩))
      · have z' := sameE.ownA.mp z'
        by_cases ql : lentA us as c
        · exact .inl (.inr (.inr ql))
        · exact .inl (.inl (h1 c (.inr ⟨z', ql⟩)))
  · obtain ⟨d1, f1⟩ := sameE.symm_own e1
    obtain ⟨d2, f2⟩ := sameE.symm_own e2
    exact h.o.inj _ _ _ _ _ _ _ _ _ f1 f2 e3 e4
  · have e' : p.env[i]? = some .src := by
      rw [← other i fun l z d' e' => ?_]
      · exact e
      · obtain ⟨d2, e2, _⟩ := own1 i l z d' e'
        rw [e] at e2; cases e2
    obtain ⟨q, q1, q2⟩ := h.o.sr i e'
    exact ⟨q, by rw [g3]; exact q1, q2⟩
  · have e : G.ga = some q := by rw [← g3]; exact e
    obtain ⟨g1, _, _, _, _⟩ := h.o.ga q e
    obtain ⟨b1, b2⟩ := b.ga q e
    exact ⟨g1, b1, b2, fun z => m4 _ z ⟨q, e, .inl rfl⟩, fun z => m4 _ z ⟨q, e, .inr rfl⟩⟩
  · refine fr a o e fun z => n ?_
    rcases z with z | z
    · exact .inl z
    · obtain ⟨k, i, l, d, _, _, e1, e2, _⟩ := h.lent z
      exact .inr ⟨i, l, d, e1, e2⟩
theorem StpE.mk' {p' : PS} (o : Ok K G σ H' p') (s : SameE p.env p'.env) (fr : ∀ a ob, H a = some ob → ¬ Lm G σ p.env a → H' a = some ob) (dom : ∀ a, H' a = none → H a = none) : StpE K G σ p H p' H' :=
  ⟨⟨fr, dom, fun a z => .inl (by rw [← s.lm]; exact z), fun a z => .inl (by rw [← s.mu]; exact z), fun i z d h => by
    obtain ⟨d', h⟩ := s.own h
    exact ⟨z, d', h, rfl⟩, fun i l d h => by
    obtain ⟨d', h⟩ := s.own h
    exact ⟨d', h, rfl⟩, o⟩, s⟩
end

section
variable {s : Sx} {T : Tab} {pos : Pos}
theorem more_mx {G : Gh} {a : Addr} : (G.more a).mx = fun b => G.mx b ∨ b = a := rfl
theorem finC_run {K : PySem.W.Frag} {cl : Nat → Addr} {W : WX} {sem : List Sl → List Int × Int → FR} {G : Gh} {σ : L2.St} {H : Hp} {p : PS} {Q : VK} {us : List V} {xs : List Rv} (o : Ok K G σ H p) (r : Paired (fun u v => RvOk K G σ p H H u v) us xs)
    {k : Nat} (h : Post K cl W G σ H p Q (finC k sem xs p)) : spF K cl k sem us H Q (L2.WE W σ) := by
  unfold finC at h
  by_cases nd : (lentI xs).Nodup ∧ xs.length = k
  · rw [if_pos nd] at h
    obtain ⟨nd, hk⟩ := nd
    cases ea : argSls p xs with
    | none => rw [ea] at h; exact h.elim
    | some as =>
      rw [ea] at h
      have h : Post K cl W G σ H p Q (finS (sem as p.src) xs p) := h
      have hh : Hands K G σ H p us xs as := ⟨o, r, ea, nd⟩
      refine ⟨(Paired.length r).trans hk, calleeG G σ p.env us as, as, p.src, hh.call, ?_⟩
      have sub : ∀ (b : List Sl) (src : List Int × Int) (H' : Hp), BackOk K (calleeG G σ p.env us as) H us as b src H' → StpE K G σ p H ⟨putBack p.env xs b, src⟩ H' := fun b src H' bk => by
        obtain ⟨k1, k2, k3⟩ := hh.back (G2 := calleeG G σ p.env us as) bk rfl (fun a z => z) (fun a z => .inl z) G rfl (fun a z => .inl z) (fun a z q => (hh.nga q).2 z) (fun a z q => o.mx a z (bk.dom a q)) (fun a z ⟨q, e, w⟩ => by
          obtain ⟨_, _, _, g1, g2⟩ := o.ga q e
          rcases w with rfl | rfl
          · exact g1 z
          · exact g2 z) (fun a z => .inl z)
        exact .mk' k1 k2 k3 bk.dom
      cases es : sem as p.src with
      | bad => rw [es] at h; exact h.elim
      | exc c b src =>
        rw [es] at h
        exact fun H' bk => h H' (sub b src H' bk)
      | ok fresh d b src =>
        rw [es] at h
        cases fresh with
        | false =>
          have h : Post K cl W G σ H p Q (.ok (.sh d) ⟨putBack p.env xs b, src⟩) := h
          refine fun u H' bk ru => h u H' (sub b src H' bk) ?_
          have s2 := (sub b src H' bk).2
          show Rep K (Mu G σ (putBack p.env xs b)) H' u d
          have e1 : Mu G σ (putBack p.env xs b) = Mu G σ p.env := SameE.mu s2
          rw [e1, ← hh.ma]
          exact ru
        | true =>
          have h : Post K cl W G σ H p Q (.ok (.ow d) ⟨putBack p.env xs b, src⟩) := h
          intro q H' hq hpl bk ro
          have nq : ∀ a, a = q → ¬ ownA σ p.env a := fun a e z => o.dom (.inr (.inr z)) (e ▸ hq)
          have hq' : H' q ≠ none := by
            obtain ⟨ob, e⟩ := ro.some_
            rw [e]; simp
          have nga : ∀ a, G.mx a → ¬ gaA G a := fun a z ⟨q, e, w⟩ => by
            obtain ⟨_, _, _, g1, g2⟩ := o.ga q e
            rcases w with rfl | rfl
            · exact g1 z
            · exact g2 z
          have ngq : ¬ gaA G q := fun z => o.dom (.inr (.inl z)) hq
          obtain ⟨k1, k2, k3⟩ := hh.back (G2 := (calleeG G σ p.env us as).more q) bk rfl (fun a z => .inl z) (fun a z => z.elim .inl fun e => .inr (e ▸ hq)) G rfl (fun a z => .inl (.inl z)) (fun a z q => (hh.nga q).2 z) (fun a z e => o.mx a z (bk.dom a e)) (fun a z => nga a z) (fun a z => .inl z)
          obtain ⟨j1, _, _⟩ := hh.back (G2 := (calleeG G σ p.env us as).more q) bk rfl (fun a z => .inl z) (fun a z => z.elim .inl fun e => .inr (e ▸ hq)) (G.more q) rfl (fun a z => z.elim (fun z => .inl (.inl z)) .inr) (fun a z w => z.elim (fun z => (hh.nga w).2 z) fun e => nq a e w) (fun a z e => z.elim (fun z => o.mx a z (bk.dom a e)) fun z => hq' (z ▸ e)) (fun a z => z.elim (fun z => nga a z) fun e => e ▸ ngq) (fun a z => z.elim .inl fun e => .inr (e ▸ hq))
          have s1 : StpE K G σ p H ⟨putBack p.env xs b, src⟩ H' := .mk' k1 k2 k3 bk.dom
          refine h (.ref q) H' s1 ⟨hpl, q, rfl, hq, fun z => ?_, ?_, j1⟩
          · have z : Mu G σ (putBack p.env xs b) q := z
            rw [SameE.mu k2] at z
            exact o.dom z hq
          · refine ro.mono (fun _ _ e _ => e) (fun a z => ?_) (fun _ e => e)
            have z := mu_more.mp z
            rw [SameE.mu k2, ← hh.ma] at z
            rcases z with (z | z | z) | z
            · exact .inl (.inl (.inl z))
            · exact .inl (.inr (.inl z))
            · exact .inl (.inr (.inr z))
            · exact .inl (.inl (.inr z))
  · rw [if_neg nd] at h; exact h.elim
theorem v_call (n : Nat) {x : Str} {e : Expr} {es : List Expr} {da : DnL} {q : Pos} (hn : T.name n = some x) (hg : s.sc.names.lookup x = some .globalImplicit) (ha : VL s T (e :: es) da)
    (he : ∀ env, starEach (e :: es) env = (false, eval e env) :: starEach es env := by intro _; rfl) (hpl : ∀ env, (backTo pos (starEach es env)).any (·.1) = false := by intro _; rfl) :
    VE s T (.Call (.Name x q) (e :: es) [] pos) (dCall (T.ar n) (T.sem n) da) := fun X W c tk => by
  obtain ⟨hdb, f, fd, ps, hm, hk, hb, hl, F⟩ := c.fac.fn n x hn
  refine PE.of (pe_callS F c.room (by show X.env.scope.names.lookup x = _; rw [c.sc]; exact hg) hm hk hb (fun σ => passAt tk σ) (ha X W c tk) hdb (he _) (hpl _)) fun σ H Q h => ?_
  obtain ⟨G, p, o, h⟩ := h
  exact tl_bind o h fun v p1 u H1 s1 r1 h => finC_run s1.ok r1 h
theorem pe_callS0 {X : Cx} {CX : CXT} {k : Nat} {f : Addr} {fd : FuncData} {ps : List Str} {sp : Sp} {E : L2.St → XK} {x : Str} {p pos : Pos} (F : FnOk X.prog X.w X.K X.mg X.base CX k f fd ps sp) (hr : Room k X.A) (hg : Gl X x) (hm : X.mg x = some (.ref f)) (hk : PySem.W.keepIn X.K (.ref f) = true) (hb : Binds X.K fd ps []) (hx : ∀ σ, PassesAt CX X σ (E σ))
    (hdb : (x == ("__debug__" : Str)) = false) : PE X (.Call (.Name x p) [] [] pos) (tCallS sp E tNil) := by
  refine ⟨fun pins s σ H Q I h => ?_⟩
  refine wpAny_Call_Name_kw (ld_glob I hg hm ?_ hdb)
  exact PySem.W.callWith_K0 I.kIn hk (run_fnS (us := []) F hr hb (hx σ) I .nil h)
theorem v_call0 (n : Nat) {x : Str} {q : Pos} (hn : T.name n = some x) (hg : s.sc.names.lookup x = some .globalImplicit) :
    VE s T (.Call (.Name x q) [] [] pos) (dCall (T.ar n) (T.sem n) dNil) := fun X W c tk => by
  obtain ⟨hdb, f, fd, ps, hm, hk, hb, hl, F⟩ := c.fac.fn n x hn
  refine PE.of (pe_callS0 F c.room (by show X.env.scope.names.lookup x = _; rw [c.sc]; exact hg) hm hk hb (fun σ => passAt tk σ) hdb) fun σ H Q h => ?_
  obtain ⟨G, p, o, h⟩ := h
  exact finC_run o (.nil) h
end
end Py
set_option maxRecDepth 100000
namespace Py
open PySem PySem.Spec PyProof.Rows L2

/-! ### stores to slots -/
def setSl (i : Nat) (x : Sl) (env : List Sl) : Option (List Sl) := match env[i]? with
  | some (.own true _ _) => none
  | some (.own _ true _) => none
  | some _ => some (env.set i x)
  | none => none
theorem setSl_ok {i : Nat} {x : Sl} {env env' : List Sl} (h : setSl i x env = some env') : env' = env.set i x ∧ i < env.length ∧ ∀ l z d, env[i]? = some (.own l z d) → l = false ∧ z = false := by
  unfold setSl at h
  split at h
  · cases h
  · cases h
  · rename_i y h1 h2 e
    cases h
    refine ⟨rfl, (List.getElem?_eq_some_iff.mp e).1, fun l z d e' => ?_⟩
    rw [e] at e'; cases e'
    cases l
    · cases z
      · exact ⟨rfl, rfl⟩
      · exact absurd rfl (h2 _ _)
    · exact absurd rfl (h1 _ _)
  · cases h
section
variable {K : PySem.W.Frag} {G : Gh} {σ σ' : L2.St} {H H' : Hp} {p p' : PS} {a : Addr} {d : D} {v : V} {env' : List Sl} {i : Nat}
theorem ownA_set {env : List Sl} {x : Sl} {u : Option V} (hx : ∀ l z d, x ≠ .own l z d) {b : Addr} (h : ownA (σ.set i u) (env.set i x) b) : ownA σ env b := by
  obtain ⟨j, l, z, d, h1, h2⟩ := h
  by_cases e : j = i
  · subst e
    have hj : j < env.length := by
      have := (List.getElem?_eq_some_iff.mp h1).1
      simpa using this
    rw [List.getElem?_set_self hj] at h1
    exact absurd (Option.some.inj h1) (hx l z d)
  · rw [List.getElem?_set_ne (Ne.symm e)] at h1 h2
    exact ⟨j, l, z, d, h1, h2⟩
theorem ownL_set {env : List Sl} {x : Sl} {u : Option V} (hx : ∀ l z d, x ≠ .own l z d) {b : Addr} (h : ownL (σ.set i u) (env.set i x) b) : ownL σ env b := by
  obtain ⟨j, l, d, h1, h2⟩ := h
  by_cases e : j = i
  · subst e
    have hj : j < env.length := by
      have := (List.getElem?_eq_some_iff.mp h1).1
      simpa using this
    rw [List.getElem?_set_self hj] at h1
    exact absurd (Option.some.inj h1) (hx l false d)
  · rw [List.getElem?_set_ne (Ne.symm e)] at h1 h2
    exact ⟨j, l, d, h1, h2⟩
/-- shared data stored in a slot -/
theorem Ok.put (o : Ok K G σ H p) (h : setSl i (.sh d) p.env = some env') (r : Rep K (Mu G σ p.env) H v d) : Stp K G σ p H (σ.set i (some v)) ⟨env', p.src⟩ H := by
  obtain ⟨rfl, hi, hown⟩ := setSl_ok h
  clear h
  have hx : ∀ l z e, Sl.sh d ≠ .own l z e := fun _ _ _ e => by cases e
  have hσ : i < σ.length := by rw [← o.len]; exact hi
  have mu : ∀ b, Mu G (σ.set i (some v)) (p.env.set i (.sh d)) b → Mu G σ p.env b := fun b z => by
    rcases z with z | z | z
    · exact .inl z
    · exact .inr (.inl z)
    · exact .inr (.inr (ownA_set hx z))
  have keep : ∀ {w : V} {e : D}, Rep K (Mu G σ p.env) H w e → Rep K (Mu G (σ.set i (some v)) (p.env.set i (.sh d))) H w e := fun r => Rep.mono K (fun _ _ e _ => e) (fun b z => .inl (mu b z)) r
  have own' : ∀ {j : Nat} {l z : Bool} {e : D}, (p.env.set i (.sh d))[j]? = some (.own l z e) → j ≠ i ∧ p.env[j]? = some (.own l z e) := fun {j l z e} h => by
    by_cases e' : j = i
    · subst e'; rw [List.getElem?_set_self hi] at h; cases h
    · rw [List.getElem?_set_ne (Ne.symm e')] at h; exact ⟨e', h⟩
  refine ⟨fun b ob e _ => e, fun b e => e, fun b z => ?_, fun b z => .inl (mu b z), fun j z e h => ?_, fun j l e h => ?_, ⟨by simpa using o.len, fun j e h => ?_, fun j l z e h => ?_, fun j j' l z e l' z' e' b h1 h2 h3 h4 => ?_, fun j h => ?_, o.mx, o.ga⟩⟩
  · rcases z with z | z
    · exact .inl (.inl z)
    · exact .inl (.inr (ownL_set hx z))
  · have hj : j ≠ i := fun e' => by
      subst e'
      have := hown _ _ _ h
      cases this.1
    exact ⟨z, e, by rw [List.getElem?_set_ne (Ne.symm hj)]; exact h, by rw [List.getElem?_set_ne (Ne.symm hj)]⟩
  · have hj : j ≠ i := fun e' => by
      subst e'
      have := hown _ _ _ h
      cases this.2
    exact ⟨e, by rw [List.getElem?_set_ne (Ne.symm hj)]; exact h, by rw [List.getElem?_set_ne (Ne.symm hj)]⟩
  · by_cases e' : j = i
    · subst e'
      have h : (p.env.set j (.sh d))[j]? = some (.sh e) := h
      rw [List.getElem?_set_self hi] at h; cases h
      exact ⟨v, List.getElem?_set_self hσ, keep r⟩
    · have h : (p.env.set i (.sh d))[j]? = some (.sh e) := h
      rw [List.getElem?_set_ne (Ne.symm e')] at h
      obtain ⟨w, h1, h2⟩ := o.sh j e h
      exact ⟨w, by rw [List.getElem?_set_ne (Ne.symm e')]; exact h1, keep h2⟩
  · obtain ⟨hj, h⟩ := own' h
    obtain ⟨b, h1, h2, h3⟩ := o.ow j l z e h
    exact ⟨b, by rw [List.getElem?_set_ne (Ne.symm hj)]; exact h1, h2.mono (fun _ _ e _ => e) (fun b z => .inl (mu b z)) (fun _ e => e), h3⟩
  · obtain ⟨hj, h1⟩ := own' h1
    obtain ⟨hj', h2⟩ := own' h2
    rw [List.getElem?_set_ne (Ne.symm hj)] at h3
    rw [List.getElem?_set_ne (Ne.symm hj')] at h4
    exact o.inj _ _ _ _ _ _ _ _ _ h1 h2 h3 h4
  · have h : (p.env.set i (.sh d))[j]? = some .src := h
    by_cases e' : j = i
    · subst e'; rw [List.getElem?_set_self hi] at h; cases h
    · rw [List.getElem?_set_ne (Ne.symm e')] at h
      obtain ⟨q, h1, h2⟩ := o.sr j h
      exact ⟨q, h1, by rw [List.getElem?_set_ne (Ne.symm e')]; exact h2⟩
/-- a new object stored in a slot -/
theorem Ok.putOw (o : Ok K (G.more a) σ H p) (nm : ¬ Mu G σ p.env a) (h : setSl i (.own false false d) p.env = some env') (r : OwnAt K (Mu (G.more a) σ p.env) H a d) :
    Ok K G (σ.set i (some (.ref a))) H ⟨env', p.src⟩ ∧ (∀ b, Mu G (σ.set i (some (.ref a))) env' b → Mu G σ p.env b ∨ b = a) ∧ (∀ b, Lm G (σ.set i (some (.ref a))) env' b → Lm G σ p.env b ∨ b = a) ∧
      (∀ (j : Nat) (z : Bool) (d : D), p.env[j]? = some (.own true z d) → ∃ (z' : Bool) (d' : D), env'[j]? = some (.own true z' d') ∧ (σ.set i (some (.ref a)))[j]? = σ[j]?) ∧
      (∀ (j : Nat) (l : Bool) (d : D), p.env[j]? = some (.own l true d) → ∃ d' : D, env'[j]? = some (.own l true d') ∧ (σ.set i (some (.ref a)))[j]? = σ[j]?) := by
  obtain ⟨rfl, hi, hown⟩ := setSl_ok h
  clear h
  have hσ : i < σ.length := by rw [← o.len]; exact hi
  have own' : ∀ {j : Nat} {l z : Bool} {e : D}, (p.env.set i (.own false false d))[j]? = some (.own l z e) → (j = i ∧ l = false ∧ z = false ∧ e = d) ∨ (j ≠ i ∧ p.env[j]? = some (.own l z e)) := fun {j l z e} h => by
    by_cases e' : j = i
    · subst e'; rw [List.getElem?_set_self hi] at h; cases h; exact .inl ⟨rfl, rfl, rfl, rfl⟩
    · rw [List.getElem?_set_ne (Ne.symm e')] at h; exact .inr ⟨e', h⟩
  have oa : ∀ b, ownA (σ.set i (some (.ref a))) (p.env.set i (.own false false d)) b → ownA σ p.env b ∨ b = a := fun b ⟨j, l, z, e, h1, h2⟩ => by
    rcases own' h1 with ⟨rfl, rfl, rfl, rfl⟩ | ⟨hj, h1⟩
    · rw [List.getElem?_set_self hσ] at h2; cases h2; exact .inr rfl
    · rw [List.getElem?_set_ne (Ne.symm hj)] at h2; exact .inl ⟨j, l, z, e, h1, h2⟩
  have ol : ∀ b, ownL (σ.set i (some (.ref a))) (p.env.set i (.own false false d)) b → ownL σ p.env b ∨ b = a := fun b ⟨j, l, e, h1, h2⟩ => by
    rcases own' h1 with ⟨rfl, _, _, rfl⟩ | ⟨hj, h1⟩
    · rw [List.getElem?_set_self hσ] at h2; cases h2; exact .inr rfl
    · rw [List.getElem?_set_ne (Ne.symm hj)] at h2; exact .inl ⟨j, l, e, h1, h2⟩
  have mu : ∀ b, Mu G (σ.set i (some (.ref a))) (p.env.set i (.own false false d)) b → Mu G σ p.env b ∨ b = a := fun b z => by
    rcases z with z | z | z
    · exact .inl (.inl z)
    · exact .inl (.inr (.inl z))
    · rcases oa b z with z | z
      · exact .inl (.inr (.inr z))
      · exact .inr z
  have mu' : ∀ b, Mu G (σ.set i (some (.ref a))) (p.env.set i (.own false false d)) b → Mu (G.more a) σ p.env b := fun b z => mu_more.mpr (mu b z)
  have keep : ∀ {w : V} {e : D}, Rep K (Mu (G.more a) σ p.env) H w e → Rep K (Mu G (σ.set i (some (.ref a))) (p.env.set i (.own false false d))) H w e := fun r => Rep.mono K (fun _ _ e _ => e) (fun b z => .inl (mu' b z)) r
  refine ⟨⟨by simpa using o.len, fun j e h => ?_, fun j l z e h => ?_, fun j j' l z e l' z' e' b h1 h2 h3 h4 => ?_, fun j h => ?_, fun b z => o.mx b (.inl z), fun q e => ?_⟩, mu, fun b z => ?_, fun j z e h => ?_, fun j l e h => ?_⟩
  · have h : (p.env.set i (.own false false d))[j]? = some (.sh e) := h
    by_cases e' : j = i
    · subst e'; rw [List.getElem?_set_self hi] at h; cases h
    · rw [List.getElem?_set_ne (Ne.symm e')] at h
      obtain ⟨w, h1, h2⟩ := o.sh j e h
      exact ⟨w, by rw [List.getElem?_set_ne (Ne.symm e')]; exact h1, keep h2⟩
  · rcases own' h with ⟨rfl, rfl, rfl, rfl⟩ | ⟨hj, h⟩
    · exact ⟨a, List.getElem?_set_self hσ, r.mono (fun _ _ e _ => e) (fun b z => .inl (mu' b z)) (fun _ e => e), fun z => nm (.inl z), fun z => nm (.inr (.inl z))⟩
    · obtain ⟨b, h1, h2, h3, h4⟩ := o.ow j l z e h
      exact ⟨b, by rw [List.getElem?_set_ne (Ne.symm hj)]; exact h1, h2.mono (fun _ _ e _ => e) (fun b z => .inl (mu' b z)) (fun _ e => e), fun z => h3 (.inl z), h4⟩
  · have na : ∀ {j : Nat} {l z : Bool} {e : D}, p.env[j]? = some (.own l z e) → σ[j]? ≠ some (some (.ref a)) := fun {j l z e} h h' => nm (.inr (.inr ⟨j, l, z, e, h, h'⟩))
    rcases own' h1 with ⟨rfl, _, _, _⟩ | ⟨hj, h1x⟩
    · rcases own' h2 with ⟨rfl, _⟩ | ⟨hj', h2⟩
      · rfl
      · rw [List.getElem?_set_self hσ] at h3; cases h3
        rw [List.getElem?_set_ne (Ne.symm hj')] at h4
        exact absurd h4 (na h2)
    · rcases own' h2 with ⟨rfl, _⟩ | ⟨hj', h2⟩
      · rw [List.getElem?_set_self hσ] at h4; cases h4
        rw [List.getElem?_set_ne (Ne.symm hj)] at h3
        exact absurd h3 (na h1x)
      · rw [List.getElem?_set_ne (Ne.symm hj)] at h3
        rw [List.getElem?_set_ne (Ne.symm hj')] at h4
        exact o.inj _ _ _ _ _ _ _ _ _ h1x h2 h3 h4
  · have h : (p.env.set i (.own false false d))[j]? = some .src := h
    by_cases e' : j = i
    · subst e'; rw [List.getElem?_set_self hi] at h; cases h
    · rw [List.getElem?_set_ne (Ne.symm e')] at h
      obtain ⟨q, h1, h2⟩ := o.sr j h
      exact ⟨q, h1, by rw [List.getElem?_set_ne (Ne.symm e')]; exact h2⟩
  · obtain ⟨g1, g2, g3, g4, g5⟩ := o.ga q e
    exact ⟨g1, g2, g3, fun z => g4 (.inl z), fun z => g5 (.inl z)⟩
  · rcases z with z | z
    · exact .inl (.inl z)
    · rcases ol b z with z | z
      · exact .inl (.inr z)
      · exact .inr z
  · have hj : j ≠ i := fun e' => by
      subst e'
      have := hown _ _ _ h
      cases this.1
    exact ⟨z, e, by rw [List.getElem?_set_ne (Ne.symm hj)]; exact h, by rw [List.getElem?_set_ne (Ne.symm hj)]⟩
  · have hj : j ≠ i := fun e' => by
      subst e'
      have := hown _ _ _ h
      cases this.2
    exact ⟨e, by rw [List.getElem?_set_ne (Ne.symm hj)]; exact h, by rw [List.getElem?_set_ne (Ne.symm hj)]⟩
end

/-! ### targets -/
abbrev Tgd := D → List Sl → Option (List Sl)
abbrev Tgs := List D → List Sl → Option (List Sl)
def gN (i : Nat) : Tgd := fun d env => setSl i (.sh d) env
def gsN : Tgs := fun ds env => match ds with
  | [] => some env
  | _ => none
def gsC (g : Tgd) (gs : Tgs) : Tgs := fun ds env => match ds with
  | d :: ds => match g d env with
    | some env' => gs ds env'
    | none => none
  | [] => none
def gT (gs : Tgs) : Tgd := fun d env => match d with
  | .tup ds => gs ds env
  | _ => none
section
variable {s : Sx} {T : Tab} {pos : Pos}
def TgtEnd (K : PySem.W.Frag) (is : List Nat) (G : Gh) (σ : L2.St) (H : Hp) (p : PS) (env' : List Sl) (Q : L2.St → Hp → Prop) : Prop :=
  ∀ σ', Stp K G σ p H σ' ⟨env', p.src⟩ H → (∀ vs, (∀ i ∈ is, i ∈ vs) → wipe σ' vs = wipe σ vs) → (∀ j, j ∉ is → env'[j]? = p.env[j]? ∧ σ'[j]? = σ[j]?) → Q σ' H
def tG (K : PySem.W.Frag) (is : List Nat) (g : Tgd) : TG := fun v σ H Q => ∃ G p d env', Ok K G σ H p ∧ Rep K (Mu G σ p.env) H v d ∧ g d p.env = some env' ∧ TgtEnd K is G σ H p env' Q
def tGs (K : PySem.W.Frag) (is : List Nat) (g : Tgs) : TGs := fun vs σ H Q => ∃ G p ds env', Ok K G σ H p ∧ RepL K (Mu G σ p.env) H vs ds ∧ g ds p.env = some env' ∧ TgtEnd K is G σ H p env' Q
def VG (s : Sx) (T : Tab) (tg : Expr) (is : List Nat) (g : Tgd) : Prop := ∀ (X : Cx), CtxOk s T X → PG X tg (tG X.K is g)
def VGs (s : Sx) (T : Tab) (tgs : List Expr) (is : List Nat) (g : Tgs) : Prop := ∀ (X : Cx), CtxOk s T X → PGs X tgs (tGs X.K is g)
theorem PG.of {X : Cx} {tg : Expr} {t t' : TG} (h : PG X tg t) (i : ∀ v σ H Q, t' v σ H Q → t v σ H Q) : PG X tg t' := ⟨fun pins s σ H v u Q I r q => h.run pins s σ H v u Q I r (i v σ H Q q)⟩
theorem PGs.of {X : Cx} {tg : List Expr} {t t' : TGs} (h : PGs X tg t) (i : ∀ v σ H Q, t' v σ H Q → t v σ H Q) : PGs X tg t' := ⟨fun pins s σ H v u Q I r q => h.run pins s σ H v u Q I r (i v σ H Q q)⟩
theorem wipe_set {σ : L2.St} {i : Nat} {u : Option V} : ∀ {vs : List Nat}, i ∈ vs → wipe (σ.set i u) vs = wipe σ vs := by
  intro vs
  induction vs with
  | nil => intro h; cases h
  | cons w vs ih =>
    intro h
    unfold wipe
    by_cases hw : i ∈ vs
    · rw [ih hw]
    · have e : w = i := by
        rcases List.mem_cons.mp h with h | h
        · exact h.symm
        · exact absurd h hw
      subst e
      have : ∀ (us : List Nat) (τ : L2.St), (wipe (τ.set w u) us).set w none = (wipe τ us).set w none := by
        intro us
        induction us with
        | nil => intro τ; show (τ.set w u).set w none = τ.set w none; rw [List.set_set]
        | cons x us ih2 =>
          intro τ
          unfold wipe
          by_cases hx : x = w
          · subst hx; rw [ih2 τ]
          · rw [List.set_comm _ _ (by exact hx), ih2 τ, List.set_comm _ _ (by exact fun e => hx e.symm)]
      exact this vs σ
/-- a local name that may be stored: a local, or a cell of its own block -/
def locB (s : Sx) (x : Str) : Bool := match s.sc.names.lookup x with
  | some .local => true
  | some .cell => s.fn x
  | _ => false
theorem loc_of {X : Cx} (c : CtxOk s T X) {x : Str} (h : locB s x = true) : Loc X.env.scope x ∧ (X.fn x = true ∨ X.env.scope.names.lookup x = some .local) := by
  unfold locB at h
  rw [c.sc]
  cases e : s.sc.names.lookup x with
  | none => rw [e] at h; cases h
  | some k =>
    rw [e] at h
    cases k <;> first | cases h | skip
    · exact ⟨.inl e, .inr rfl⟩
    · exact ⟨.inr e, .inl (c.fn x h)⟩
theorem vg_name (i : Nat) {x : Str} (hN : s.N[i]? = some x) (hl : locB s x = true) : VG s T (.Name x pos) [i] (gN i) := fun X c => by
  obtain ⟨h1, h2⟩ := loc_of c hl
  refine PG.of (pg_name (i := i) (by rw [c.N]; exact c.nd) (by rw [c.N]; exact hN) h1 h2) fun v σ H Q hh => ?_
  obtain ⟨G, p, d, env', o, r, h, k⟩ := hh
  refine k _ (o.put h r) (fun vs hv => wipe_set (hv i (by simp))) fun j hj => ?_
  obtain ⟨rfl, _, _⟩ := setSl_ok h
  have hj : i ≠ j := fun e => hj (by simp [e])
  exact ⟨List.getElem?_set_ne hj, List.getElem?_set_ne hj⟩
theorem vgs_nil : VGs s T [] [] gsN := fun X c => PGs.of pgs_nil fun v σ H Q hh => by
  obtain ⟨G, p, d, env', o, r, h, k⟩ := hh
  cases r with
  | nil => cases h; exact ⟨rfl, k _ (.refl o) (fun _ _ => rfl) fun _ _ => ⟨rfl, rfl⟩⟩
  | cons _ _ => cases h
theorem vgs_cons {e : Expr} {es : List Expr} {is js : List Nat} {g : Tgd} {gs : Tgs} (h1 : VG s T e is g) (h2 : VGs s T es js gs) (hs : ∀ env, (assignEach (e :: es) env).map (·.2) = assign e env :: (assignEach es env).map (·.2) := by intro _; rfl) : VGs s T (e :: es) (is ++ js) (gsC g gs) := fun X c => by
  refine PGs.of (pgs_cons (h1 X c) (h2 X c) (hs _)) fun vs σ H Q hh => ?_
  obtain ⟨G, p, ds, env', o, r, h, k⟩ := hh
  cases r with
  | nil => cases h
  | cons r rr =>
    rename_i v d vs ds
    have h : (match g d p.env with | some env' => gs ds env' | none => none) = some env' := h
    cases e1 : g d p.env with
    | none => rw [e1] at h; cases h
    | some env1 =>
      rw [e1] at h
      refine ⟨_, _, rfl, G, p, d, env1, o, r, e1, fun σ1 s1 w1 n1 => ?_⟩
      refine ⟨G, ⟨env1, p.src⟩, ds, env', s1.ok, s1.repL rr, h, fun σ2 s2 w2 n2 => ?_⟩
      refine k σ2 (s1.trans s2) (fun vs hv => ?_) fun j hj => ?_
      · rw [w2 vs fun i hi => hv i (by simp [hi]), w1 vs fun i hi => hv i (by simp [hi])]
      · have a := n1 j fun hm => hj (by simp [hm])
        have b := n2 j fun hm => hj (by simp [hm])
        exact ⟨b.1.trans a.1, b.2.trans a.2⟩
theorem vg_tup {es : List Expr} {k : Nat} {is : List Nat} {gs : Tgs} {n : Nat} (h : VGs s T es is gs) (hn : ∀ env, (assignEach es env).length = n := by intro _; rfl) (hst : ∀ env, (assignEach es env).findIdx? (·.1) = none := by intro _; rfl) (hlen : ∀ ds env env', gs ds env = some env' → ds.length = n) : VG s T (.Tuple es k pos) is (gT gs) := fun X c => by
  refine PG.of (pg_tup c.calm (h X c) (hn _) (hst _)) fun v σ H Q hh => ?_
  obtain ⟨G, p, d, env', o, r, h, k⟩ := hh
  cases d <;> simp only [gT] at h <;> (try cases h)
  cases r with
  | tup h1 r1 =>
    exact ⟨_, _, rfl, h1.elim (fun z => .inl z.1) .inr, r1.length.trans (hlen _ _ _ h), G, p, _, env', o, r1, h, k⟩
theorem gsN_len {ds : List D} {env env' : List Sl} (h : gsN ds env = some env') : ds.length = 0 := by
  cases ds with
  | nil => rfl
  | cons d ds => cases h
theorem gsC_len {g : Tgd} {gs : Tgs} {n : Nat} (k : ∀ ds env env', gs ds env = some env' → ds.length = n) : ∀ (ds : List D) (env env' : List Sl), gsC g gs ds env = some env' → ds.length = n + 1
  | [], env, env', h => by cases h
  | d :: ds, env, env', h => by
    have h : (match g d env with | some env' => gs ds env' | none => none) = some env' := h
    split at h
    · rw [List.length_cons, k _ _ _ h]
    · cases h
end
end Py
set_option maxRecDepth 100000
namespace Py
open PySem PySem.Spec PyProof.Rows L2

/-! ### what is walked -/
structure Iv where
  z : Option Nat
  items : List D
def lockE (z : Option Nat) (env : List Sl) : List Sl := match z with
  | some i => match env[i]? with
    | some (.own l _ d) => env.set i (.own l true d)
    | _ => env
  | none => env
/-- the slot that a walk locks: none where it is locked already -/
def toLock (env : List Sl) (v : Rv) : Option Nat := match v with
  | .bo i => match env[i]? with
    | some (.own _ false _) => some i
    | _ => none
  | _ => none
def unlockE (z : Option Nat) (env : List Sl) : List Sl := match z with
  | some i => match env[i]? with
    | some (.own l _ d) => env.set i (.own l false d)
    | _ => env
  | none => env
section
variable {K : PySem.W.Frag} {G : Gh} {σ σ' : L2.St} {H H' : Hp} {p p' : PS}
/-- environments that differ in locks alone -/
def SameZ (e e' : List Sl) : Prop := e.length = e'.length ∧ ∀ (i : Nat) (x : Sl), e[i]? = some x → e'[i]? = some x ∨ ∃ l z z' d, x = .own l z d ∧ e'[i]? = some (.own l z' d)
theorem SameZ.refl (e : List Sl) : SameZ e e := ⟨rfl, fun _ _ h => .inl h⟩
theorem SameZ.own {e e' : List Sl} (s : SameZ e e') {i : Nat} {l z : Bool} {d : D} (h : e[i]? = some (.own l z d)) : ∃ z', e'[i]? = some (.own l z' d) := by
  rcases s.2 i _ h with h | ⟨l, z, z', d, e1, h⟩
  · exact ⟨z, h⟩
  · cases e1; exact ⟨z', h⟩
theorem SameZ.symm {e e' : List Sl} (s : SameZ e e') : SameZ e' e := ⟨s.1.symm, fun i x h => by
  have hi : i < e.length := by rw [s.1]; exact (List.getElem?_eq_some_iff.mp h).1
  rcases s.2 i _ (List.getElem?_eq_getElem hi) with h1 | ⟨l, z, z', d, e1, h1⟩
  · rw [h] at h1; cases h1; exact .inl (List.getElem?_eq_getElem hi)
  · rw [h] at h1; cases h1; exact .inr ⟨l, z', z, d, rfl, by rw [List.getElem?_eq_getElem hi, e1]⟩⟩
theorem SameZ.ownA {e e' : List Sl} (s : SameZ e e') {a : Addr} (h : ownA σ e a) : ownA σ e' a := by
  obtain ⟨i, l, z, d, h1, h2⟩ := h
  obtain ⟨z', h1⟩ := s.own h1
  exact ⟨i, l, z', d, h1, h2⟩
theorem SameZ.mu {e e' : List Sl} (s : SameZ e e') : Mu G σ e = Mu G σ e' := by
  funext a; apply propext
  constructor
  · rintro (h | h | h)
    · exact .inl h
    · exact .inr (.inl h)
    · exact .inr (.inr (s.ownA h))
  · rintro (h | h | h)
    · exact .inl h
    · exact .inr (.inl h)
    · exact .inr (.inr (s.symm.ownA h))
theorem SameZ.other {e e' : List Sl} (s : SameZ e e') {i : Nat} {x : Sl} (h : e[i]? = some x) (n : ∀ l z d, x ≠ .own l z d) : e'[i]? = some x := by
  rcases s.2 i _ h with h | ⟨l, z, z', d, e1, _⟩
  · exact h
  · exact absurd e1 (n l z d)
theorem Ok.zz {e' : List Sl} (o : Ok K G σ H p) (s : SameZ p.env e') : Ok K G σ H ⟨e', p.src⟩ where
  len := by show e'.length = _; rw [← s.1]; exact o.len
  sh := fun i d h => by
    have h := s.symm.other h (fun _ _ _ e => by cases e)
    show ∃ v, _ ∧ Rep K (Mu G σ e') H v d
    rw [← s.mu]
    exact o.sh i d h
  ow := fun i l z d h => by
    obtain ⟨z', h⟩ := s.symm.own h
    show ∃ a, _ ∧ OwnAt K (Mu G σ e') H a d ∧ _
    rw [← s.mu]
    exact o.ow i l z' d h
  inj := fun i j l z d l' z' d' a h1 h2 h3 h4 => by
    obtain ⟨_, h1⟩ := s.symm.own h1
    obtain ⟨_, h2⟩ := s.symm.own h2
    exact o.inj _ _ _ _ _ _ _ _ _ h1 h2 h3 h4
  sr := fun i h => o.sr i (s.symm.other h (fun _ _ _ e => by cases e))
  mx := o.mx
  ga := o.ga
theorem sameZ_set {env : List Sl} {i : Nat} {l z z' : Bool} {d : D} (h : env[i]? = some (.own l z d)) : SameZ env (env.set i (.own l z' d)) := by
  have hi : i < env.length := (List.getElem?_eq_some_iff.mp h).1
  refine ⟨by simp, fun j x e => ?_⟩
  by_cases hj : j = i
  · subst hj
    rw [h] at e; cases e
    exact .inr ⟨l, z, z', d, rfl, List.getElem?_set_self hi⟩
  · exact .inl (by rw [List.getElem?_set_ne (Ne.symm hj)]; exact e)
theorem sameZ_lock (z : Option Nat) (env : List Sl) : SameZ env (lockE z env) := by
  unfold lockE
  split
  · split
    · rename_i e; exact sameZ_set e
    · exact .refl _
  · exact .refl _
theorem sameZ_unlock (z : Option Nat) (env : List Sl) : SameZ env (unlockE z env) := by
  unfold unlockE
  split
  · split
    · rename_i e; exact sameZ_set e
    · exact .refl _
  · exact .refl _

/-- a walk over items that stay -/
def WalkOk (K : PySem.W.Frag) (G : Gh) (σ : L2.St) (p : PS) (H : Hp) (z : Option Nat) (J : It) (items : List D) : Prop := ∀ (M2 : Addr → Prop) (H2 : Hp), (∀ a o, H a = some o → ¬ Lm G σ (lockE z p.env) a → ¬ G.mx a → H2 a = some o) → (∀ a, M2 a → Mu G σ p.env a ∨ H a = none) → (∀ a, M2 a → H2 a ≠ none) →
  (∀ i, i < items.length → J.go i H2) ∧ J.stop items.length H2 ∧ ∀ i v H3, i < items.length → J.yld i H2 v H3 → ∃ d, items[i]? = some d ∧ Same H2 H3 ∧ Rep K M2 H3 v d
def PostI (K : PySem.W.Frag) (cl : Nat → Addr) (W : WX) (G : Gh) (σ : L2.St) (H : Hp) (p : PS) (Q : It → Hp → Prop) : R Iv → Prop
  | .ok iv p' => ∀ J H', StpE K G σ p H p' H' → WalkOk K G σ p' H' iv.z J iv.items → Q J H'
  | .exc c p' => ∀ H', StpE K G σ p H p' H' → FlyX cl (fun v d H' => W v d σ H') H c H'
  | .bad => False
def tI (K : PySem.W.Frag) (cl : Nat → Addr) (W : WX) (den : PS → R Iv) : TI := fun σ H Q => ∃ G p, Ok K G σ H p ∧ PostI K cl W G σ H p Q (den p)
def VI (s : Sx) (T : Tab) (tg e : Expr) (den : PS → R Iv) : Prop := ∀ (X : Cx) (W : WX), CtxOk s T X → Takes X W → PI X tg e (tI X.K (clK X.K) W den)
theorem PI.of {X : Cx} {tg e : Expr} {t t' : TI} (h : PI X tg e t) (i : ∀ σ H Q, t' σ H Q → t σ H Q) : PI X tg e t' := ⟨fun pins s σ H Q I q => h.run pins s σ H Q I (i σ H Q q)⟩
theorem PI.or {X : Cx} {tg e : Expr} {w1 w2 : TI} (h1 : PI X tg e w1) (h2 : PI X tg e w2) : PI X tg e (fun σ H R => w1 σ H R ∨ w2 σ H R) := ⟨fun pins s σ H R I h => h.elim (h1.run pins s σ H R I) (h2.run pins s σ H R I)⟩
/-! #### a list, a tuple, a text -/
def itemsOf : D → Option (List D)
  | .lst ds => some ds
  | .tup ds => some ds
  | .str x => some (x.map fun c => .str [c])
  | _ => none
def finI (v : Rv) (p : PS) : R Iv := match opd v p with
  | some d => match itemsOf d with
    | some ds => .ok ⟨toLock p.env v, ds⟩ p
    | none => .bad
  | none => .bad
def dIv (da : Dn) : PS → R Iv := fun p => (da p).bind fun v p1 => finI v p1
/-- at a lock what the slot holds stays -/
theorem lock_stays {v : Rv} {u : V} {H0 H2 : Hp} (o : Ok K G σ H p) (r : RvOk K G σ p H0 H u v) {a : Addr} (e : u = .ref a) {ob : HO} (h : H a = some ob) (s : ∀ a o, H a = some o → ¬ Lm G σ (lockE (toLock p.env v) p.env) a → ¬ G.mx a → H2 a = some o) (hm : ∀ d, v.soft = .sh d → ¬ Mu G σ p.env a) (hv : v ≠ .sr) : H2 a = some ob := by
  subst e
  refine s a ob h (fun z => ?_) fun z => ?_
  rotate_left
  · cases v with
    | sh d => exact hm d rfl (.inl z)
    | ow d => exact hm d rfl (.inl z)
    | sr => exact hv rfl
    | bo i =>
      obtain ⟨⟨l, zz, d, h1⟩, h2⟩ := r
      obtain ⟨b, g1, g2, g3, g4⟩ := o.ow i l zz d h1
      rw [h2] at g1; cases g1
      exact g3 z
  have zm : Mu G σ p.env a := by rw [(sameZ_lock (toLock p.env v) p.env).mu]; exact z.mu
  cases v with
  | sh d => exact hm d rfl zm
  | ow d => exact hm d rfl zm
  | sr => exact hv rfl
  | bo i =>
    obtain ⟨⟨l, zz, d, h1⟩, h2⟩ := r
    rcases z with z | ⟨j, l', d', h3, h4⟩
    · obtain ⟨b, g1, g2, g3, g4⟩ := o.ow i l zz d h1
      rw [h2] at g1; cases g1
      exact g4 z
    · have h3 : (lockE (toLock p.env (.bo i)) p.env)[j]? = some (.own l' false d') := h3
      obtain ⟨z'', h5⟩ := (sameZ_lock (toLock p.env (.bo i)) p.env).symm.own h3
      have := o.inj _ _ _ _ _ _ _ _ _ h1 h5 h2 h4
      subst this
      rw [h1] at h5; cases h5
      have hi : i < p.env.length := (List.getElem?_eq_some_iff.mp h1).1
      unfold toLock at h3
      simp only [h1] at h3
      cases zz with
      | true => simp only [lockE] at h3; rw [h1] at h3; cases h3
      | false =>
        simp only [lockE, h1] at h3
        rw [List.getElem?_set_self hi] at h3
        cases h3
theorem walk_lst {X : Cx} {v : Rv} {u : V} {H0 : Hp} {ds : List D} (o : Ok X.K G σ H p) (r : RvOk X.K G σ p H0 H u v) (h : opd v p = some (.lst ds)) : ∃ a, u = .ref a ∧ (∃ xs, SqL X.K H a xs) ∧ WalkOk X.K G σ p H (toLock p.env v) (Itl X.K a) ds := by
  obtain ⟨a, xs, e, h1, r1⟩ := (r.rdb o h).lst_
  refine ⟨a, e, ⟨xs, .inl (.inl h1)⟩, fun M2 H2 s mu dm => ?_⟩
  have hs : H2 a = some (.lst xs) := lock_stays o r e h1 s (fun d hd => by
    have r' := r.soft
    rw [hd] at r'
    have e3 : d = .lst ds := by
      rw [← opd_soft, hd] at h
      exact Option.some.inj h
    subst e3; subst e
    cases (show Rep X.K _ H (.ref a) (.lst ds) from r') with
    | lst _ n _ => exact n) (fun e => by subst e; cases h)
  have r2 : RepL X.K M2 H2 xs ds := RepL.mono X.K (fun a o e n => s a o e (fun z => n (by rw [(sameZ_lock (toLock p.env v) p.env).mu]; exact z.mu)) fun z => n (.inl z)) mu r1
  have hl := r1.length
  refine ⟨fun i hi => ⟨xs, xs[i]'(by omega), .inl (.inl hs), by simp⟩, ⟨xs, .inl (.inl hs), by omega⟩, fun i w H3 hi y => ?_⟩
  obtain ⟨rfl, y⟩ := y
  obtain ⟨d, h3, h4⟩ := r2.getV (y xs (.inl (.inl hs)))
  exact ⟨d, h3, .refl _, h4⟩
theorem walk_tp {X : Cx} {v : Rv} {u : V} {H0 : Hp} {ds : List D} (o : Ok X.K G σ H p) (r : RvOk X.K G σ p H0 H u v) (h : opd v p = some (.tup ds)) : ∃ a, u = .ref a ∧ (∃ xs, SqT X.K H a xs) ∧ WalkOk X.K G σ p H (toLock p.env v) (Itt X.K a) ds := by
  obtain ⟨a, xs, e, h0, h1, r1⟩ := (r.rdb o h).tup_
  refine ⟨a, e, ⟨xs, h1⟩, fun M2 H2 s mu dm => ?_⟩
  have hs : SqT X.K H2 a xs := by
    rcases h0 with ⟨h0 | ⟨ob, h0⟩, n⟩ | h0
    · exact .inl (.inl (s a _ h0 (fun z => n (by rw [(sameZ_lock (toLock p.env v) p.env).mu]; exact z.mu)) fun z => n (.inl z)))
    · exact .inl (.inr ⟨ob, s a _ h0 (fun z => n (by rw [(sameZ_lock (toLock p.env v) p.env).mu]; exact z.mu)) fun z => n (.inl z)⟩)
    · exact .inr h0
  have r2 : RepL X.K M2 H2 xs ds := RepL.mono X.K (fun a o e n => s a o e (fun z => n (by rw [(sameZ_lock (toLock p.env v) p.env).mu]; exact z.mu)) fun z => n (.inl z)) mu r1
  have hl := r1.length
  refine ⟨fun i hi => ⟨xs, xs[i]'(by omega), hs, by simp⟩, ⟨xs, hs, by omega⟩, fun i w H3 hi y => ?_⟩
  obtain ⟨rfl, y⟩ := y
  obtain ⟨d, h3, h4⟩ := r2.getV (y xs hs)
  exact ⟨d, h3, .refl _, h4⟩
theorem walk_tx {X : Cx} {v : Rv} {u : V} {H0 : Hp} {x : List Nat} (o : Ok X.K G σ H p) (r : RvOk X.K G σ p H0 H u v) (h : opd v p = some (.str x)) : u = .str (S x) ∧ WalkOk X.K G σ p H (toLock p.env v) (Its (S x)) (x.map fun c => .str [c]) := by
  refine ⟨(r.rdb o h).str_, fun M2 H2 s mu dm => ?_⟩
  have hl : (S x).cps.size = x.length := S_len x
  refine ⟨fun i hi => ?_, ?_, fun i w H3 hi y => ?_⟩
  · show i < (S x).cps.size
    rw [hl]; simpa using hi
  · show (S x).cps.size ≤ _
    rw [hl]; simp
  · obtain ⟨rfl, c, e1, rfl⟩ := y
    have e2 : x[i]? = some c := by
      rw [← S_list x]; simpa using e1
    refine ⟨.str [c], by rw [List.getElem?_map, e2]; rfl, .refl _, ?_⟩
    exact Rep.str (x := [c])
end
section
variable {s : Sx} {T : Tab} {pos : Pos}
theorem ti_bind {K : PySem.W.Frag} {G : Gh} {σ : L2.St} {H : Hp} {p : PS} {cl : Nat → Addr} {W : WX} {da : Dn} {f : Rv → PS → R Iv} {Q : It → Hp → Prop} {Q' : VK} (o : Ok K G σ H p) (h : PostI K cl W G σ H p Q ((da p).bind f))
    (k : ∀ v p1 u H1, da p = .ok v p1 → StpE K G σ p H p1 H1 → RvOk K G σ p1 H H1 u v → PostI K cl W G σ H p Q (f v p1) → Q' u H1) : tE K cl W da σ H Q' := by
  refine ⟨G, p, o, ?_⟩
  cases e : da p with
  | ok v p1 =>
    rw [e] at h
    exact fun u H1 s r => k v p1 u H1 e s r h
  | exc c p1 => rw [e] at h; exact h
  | bad => rw [e] at h; exact h.elim
theorem vi_val {tg e : Expr} {da : Dn} (ha : VE s T e da) : VI s T tg e (dIv da) := fun X W c tk => by
  have pe := ha X W c tk
  refine PI.of (Py.PI.or (pi_list pe) (Py.PI.or (pi_tup pe) (pi_str pe))) fun σ H Q hh => ?_
  obtain ⟨G, p, o, h⟩ := hh
  unfold dIv at h
  have key : ∀ v p1, da p = .ok v p1 → PostI X.K (clK X.K) W G σ H p Q (finI v p1) → (∃ d ds, opd v p1 = some d ∧ itemsOf d = some ds ∧ ∀ J H', StpE X.K G σ p H p1 H' → WalkOk X.K G σ p1 H' (toLock p1.env v) J ds → Q J H') := fun v p1 e h => by
    unfold finI at h
    cases e1 : opd v p1 with
    | none => rw [e1] at h; exact h.elim
    | some d =>
      rw [e1] at h
      cases e2 : itemsOf d with
      | none => simp only [e2] at h; exact h.elim
      | some ds => simp only [e2] at h; exact ⟨d, ds, rfl, e2, h⟩
  cases e : da p with
  | bad => rw [e] at h; exact h.elim
  | exc c q =>
    rw [e] at h
    exact .inl ⟨G, p, o, by rw [e]; exact h⟩
  | ok v p1 =>
    rw [e] at h
    obtain ⟨d, ds, e1, e2, k⟩ := key v p1 e h
    cases d <;> simp only [itemsOf] at e2 <;> (try cases e2)
    · refine .inr (.inr ⟨G, p, o, ?_⟩)
      rw [e]
      intro u H1 s1 r1
      obtain ⟨rfl, w⟩ := walk_tx s1.ok r1 e1
      exact ⟨_, rfl, k _ _ s1 w⟩
    · refine .inr (.inl ⟨G, p, o, ?_⟩)
      rw [e]
      intro u H1 s1 r1
      obtain ⟨a, rfl, h1, w⟩ := walk_tp s1.ok r1 e1
      exact ⟨a, rfl, h1, k _ _ s1 w⟩
    · refine .inl ⟨G, p, o, ?_⟩
      rw [e]
      intro u H1 s1 r1
      obtain ⟨a, rfl, h1, w⟩ := walk_lst s1.ok r1 e1
      exact ⟨a, rfl, h1, k _ _ s1 w⟩
/-! #### ranges -/
def rngL (lo : Int) (n : Nat) : List D := (List.range n).map fun i => .int (lo + (i : Nat))
noncomputable def rngO (a b : D) : Option (List D) := match a, b with
  | .int i, .int j => if sb (-(2 ^ 62) ≤ i ∧ i < 2 ^ 62 ∧ -(2 ^ 62) ≤ j ∧ j < 2 ^ 62) = true then some (rngL i (j - i).toNat) else none
  | _, _ => none
def fin1I (f : D → Option (List D)) (x : Rv) (p : PS) : R Iv := match opd x p with
  | some b => match f b with
    | some ds => .ok ⟨none, ds⟩ p
    | none => .bad
  | none => .bad
def fin2I (f : D → D → Option (List D)) (x y : Rv) (p : PS) : R Iv := match opd x p, opd y p with
  | some a, some b => match f a b with
    | some ds => .ok ⟨none, ds⟩ p
    | none => .bad
  | _, _ => .bad
noncomputable def dRg1 (da : Dn) : PS → R Iv := fun p => (da p).bind fun x p1 => fin1I (rngO (.int 0)) x p1
noncomputable def dRg2 (da db : Dn) : PS → R Iv := fun p => (da p).bind fun x p1 => (db p1).bind fun y p2 => fin2I rngO x y p2
theorem walk_rg {K : PySem.W.Frag} {G : Gh} {σ : L2.St} {H : Hp} {p : PS} {z : Option Nat} (lo : Int) (n : Nat) : WalkOk K G σ p H z (Itr lo n) (rngL lo n) := fun M2 H2 s mu dm => by
  have hl : (rngL lo n).length = n := by simp [rngL]
  rw [hl]
  refine ⟨fun i hi => hi, Nat.le_refl _, fun i v H3 hi y => ?_⟩
  obtain ⟨rfl, rfl⟩ := y
  exact ⟨.int (lo + i), by simp [rngL, hi], .refl _, .int⟩
theorem PostI.from {K : PySem.W.Frag} {G : Gh} {σ : L2.St} {H H1 : Hp} {p p1 : PS} {cl : Nat → Addr} {W : WX} {Q : It → Hp → Prop} {r : R Iv} (s : StpE K G σ p H p1 H1) (h : PostI K cl W G σ H p Q r) : PostI K cl W G σ H1 p1 Q r := by
  cases r with
  | ok v p2 => exact fun J H2 t r => h J H2 (s.trans t) r
  | exc c p2 => exact fun H2 t => (h H2 (s.trans t)).from s.1.dom
  | bad => exact h.elim
theorem fin1I_run {K : PySem.W.Frag} {G : Gh} {σ : L2.St} {H H0 : Hp} {p : PS} {cl : Nat → Addr} {W : WX} {Q : It → Hp → Prop} {f : D → Option (List D)} {v : Rv} {u : V} (o : Ok K G σ H p) (r : RvOk K G σ p H0 H u v) (h : PostI K cl W G σ H p Q (fin1I f v p)) :
    ∃ d ds, Rdb K (Mu G σ p.env) H u d ∧ f d = some ds ∧ ∀ J, WalkOk K G σ p H none J ds → Q J H := by
  unfold fin1I at h
  cases e : opd v p with
  | none => rw [e] at h; exact h.elim
  | some b =>
    simp only [e] at h
    cases e2 : f b with
    | none => simp only [e2] at h; exact h.elim
    | some ds =>
      simp only [e2] at h
      exact ⟨b, ds, r.rdb o e, e2, fun J w => h J H (.refl o) w⟩
theorem fin2I_run {K : PySem.W.Frag} {G : Gh} {σ : L2.St} {H H0 H0' : Hp} {p : PS} {cl : Nat → Addr} {W : WX} {Q : It → Hp → Prop} {f : D → D → Option (List D)} {v v' : Rv} {u u' : V} (o : Ok K G σ H p) (r : RvOk K G σ p H0 H u v) (r' : RvOk K G σ p H0' H u' v') (h : PostI K cl W G σ H p Q (fin2I f v v' p)) :
    ∃ d d' ds, Rdb K (Mu G σ p.env) H u d ∧ Rdb K (Mu G σ p.env) H u' d' ∧ f d d' = some ds ∧ ∀ J, WalkOk K G σ p H none J ds → Q J H := by
  unfold fin2I at h
  cases e : opd v p with
  | none => rw [e] at h; exact h.elim
  | some b =>
    cases e' : opd v' p with
    | none => simp only [e, e'] at h; exact h.elim
    | some b' =>
      simp only [e, e'] at h
      cases e2 : f b b' with
      | none => simp only [e2] at h; exact h.elim
      | some ds =>
        simp only [e2] at h
        exact ⟨b, b', ds, r.rdb o e, r'.rdb o e', e2, fun J w => h J H (.refl o) w⟩
theorem fin2I_soft {f : D → D → Option (List D)} {v w : Rv} {p : PS} : fin2I f v.soft w p = fin2I f v w p := by
  unfold fin2I
  rw [opd_soft]
theorem rngO_int {a b : D} {ds : List D} (h : rngO a b = some ds) : ∃ i j, a = .int i ∧ b = .int j ∧ (-(2 ^ 62) ≤ i ∧ i < 2 ^ 62 ∧ -(2 ^ 62) ≤ j ∧ j < 2 ^ 62) ∧ ds = rngL i (j - i).toNat := by
  cases a <;> cases b <;> simp only [rngO] at h <;> (try cases h)
  split at h
  · rename_i hc; cases h; exact ⟨_, _, rfl, rfl, sb_iff.mp hc, rfl⟩
  · cases h
theorem vi_rg1 {tg a : Expr} {da : Dn} {q : Pos} (ha : VE s T a da) (hg : s.sc.names.lookup ("range" : Str) = some .globalImplicit) (hf : T.free "range" = true) (hs : ∀ env, starEach [a] env = [(false, eval a env)] := by intro _; rfl) : VI s T tg (.Call (.Name "range" q) [a] [] pos) (dRg1 da) := fun X W c tk => by
  refine PI.of (pi_range1 (by show X.env.scope.names.lookup _ = _; rw [c.sc]; exact hg) (c.fac.free _ hf) (pa_cons (ha X W c tk) pa_nil (hs _)) (hs _)) fun σ H Q hh => ?_
  obtain ⟨G, p, o, h⟩ := hh
  refine ti_bind (f := fun x p1 => fin1I (rngO (.int 0)) x p1) o h fun v p1 u H1 e s1 r1 h => ?_
  obtain ⟨d, ds, rd, e2, k⟩ := fin1I_run s1.ok r1 (PostI.from s1 h)
  obtain ⟨i, j, e3, rfl, hb, rfl⟩ := rngO_int e2
  cases e3
  refine ⟨j, by rw [rd.int_], hb.2.2.1, hb.2.2.2, ?_⟩
  have e4 : (j - 0).toNat = j.toNat := by rw [Int.sub_zero]
  rw [e4] at k
  exact k _ (walk_rg 0 j.toNat)
theorem vi_rg2 {tg a b : Expr} {da db : Dn} {q : Pos} (ha : VE s T a da) (hb : VE s T b db) (hg : s.sc.names.lookup ("range" : Str) = some .globalImplicit) (hf : T.free "range" = true) (hs : ∀ env, starEach [a, b] env = [(false, eval a env), (false, eval b env)] := by intro _; rfl) (hs2 : ∀ env, starEach [b] env = [(false, eval b env)] := by intro _; rfl) : VI s T tg (.Call (.Name "range" q) [a, b] [] pos) (dRg2 da db) := fun X W c tk => by
  refine PI.of (pi_range2 (by show X.env.scope.names.lookup _ = _; rw [c.sc]; exact hg) (c.fac.free _ hf) (pa_cons (ha X W c tk) (pa_cons (hb X W c tk) pa_nil (hs2 _)) (by rw [hs, hs2])) (hs _) (hs2 _)) fun σ H Q hh => ?_
  obtain ⟨G, p, o, h⟩ := hh
  refine ti_bind (f := fun x p1 => (db p1).bind fun y p2 => fin2I rngO x y p2) o h fun v p1 u H1 e s1 r1 h => ?_
  refine ti_bind (f := fun y p2 => fin2I rngO v y p2) s1.ok (PostI.from s1 h) fun v2 p2 u2 H2 e2 s2 r2 h => ?_
  rw [← fin2I_soft] at h
  obtain ⟨d, d', ds, rd, rd', e2, k⟩ := fin2I_run s2.ok (r1.soft.step s2) r2 (PostI.from s2 h)
  obtain ⟨i, j, rfl, rfl, hb, rfl⟩ := rngO_int e2
  exact ⟨i, j, by rw [rd.int_, rd'.int_], hb, k _ (walk_rg i _)⟩
end
end Py
set_option maxRecDepth 100000
namespace Py
open PySem PySem.Spec PyProof.Rows L2

/-! ### comprehensions -/
def clrE (env : List Sl) : List Nat → List Sl
  | [] => env
  | v :: vs => (clrE env vs).set v .no
def resE (e0 env : List Sl) : List Nat → List Sl
  | [] => env
  | v :: vs => (resE e0 env vs).set v (e0[v]?.getD .no)
def freeOwn (own : List Nat) (env : List Sl) : Bool := own.all fun i => match env[i]? with
  | some (.own _ _ _) => false
  | _ => true
def lockOk (z : Option Nat) (env : List Sl) : Bool := match z with
  | some i => match env[i]? with
    | some (.own _ false _) => true
    | _ => false
  | none => true
def onBL {α : Type} (x : Rv) (p : PS) (t f : PS → R α) : R α := match x with
  | .sh (.bl true) => t p
  | .sh (.bl false) => f p
  | _ => .bad
def bindN {α β : Type} (r : R α) (f : α → PS → R β) : R β := match r with
  | .ok a p => f a p
  | _ => .bad
@[simp] theorem bindN_ok {α β : Type} (a : α) (p : PS) (f : α → PS → R β) : bindN (.ok a p) f = f a p := rfl
def compL (own : List Nat) (tg : Tgd) (dt de : Dn) : List D → List D → PS → R (List D)
  | [], acc, p => .ok acc p
  | d :: ds, acc, p => match tg d p.env with
    | none => .bad
    | some env' => bindN (dt ⟨env', p.src⟩) fun b p1 => onBL b p1
      (fun p1 => bindN (de p1) fun v p2 => match v.soft with
        | .sh e => compL own tg dt de ds (acc ++ [e]) ⟨clrE p2.env own, p2.src⟩
        | _ => .bad)
      (fun p1 => compL own tg dt de ds acc ⟨clrE p1.env own, p1.src⟩)
def dComp (own : List Nat) (di : PS → R Iv) (tg : Tgd) (dt de : Dn) : Dn := fun p => (di p).bind fun iv p1 =>
  if freeOwn own p1.env = true ∧ lockOk iv.z p1.env = true ∧ iv.items.length ≤ 16777216 then
    bindN (compL own tg dt de iv.items [] ⟨clrE (lockE iv.z p1.env) own, p1.src⟩) fun ds p2 => .ok (.ow (.lst ds)) ⟨unlockE iv.z (resE p1.env p2.env own), p2.src⟩
  else .bad

section
variable {K : PySem.W.Frag} {G : Gh} {σ σ' : L2.St} {H H' : Hp} {p p' : PS} {own : List Nat}
theorem clrE_len (env : List Sl) : ∀ own : List Nat, (clrE env own).length = env.length
  | [] => rfl
  | v :: vs => by unfold clrE; rw [List.length_set, clrE_len env vs]
theorem resE_len (e0 env : List Sl) : ∀ own : List Nat, (resE e0 env own).length = env.length
  | [] => rfl
  | v :: vs => by unfold resE; rw [List.length_set, resE_len e0 env vs]
theorem clrE_out {env : List Sl} {i : Nat} : ∀ {own : List Nat}, i ∉ own → (clrE env own)[i]? = env[i]?
  | [], _ => rfl
  | v :: vs, h => by
    simp at h
    unfold clrE
    rw [List.getElem?_set_ne (Ne.symm h.1), clrE_out h.2]
theorem clrE_in {env : List Sl} {i : Nat} (hi : i < env.length) : ∀ {own : List Nat}, i ∈ own → (clrE env own)[i]? = some .no
  | [], h => by simp at h
  | v :: vs, h => by
    unfold clrE
    by_cases e : i = v
    · subst e; rw [List.getElem?_set_self (by rw [clrE_len]; exact hi)]
    · simp [e] at h
      rw [List.getElem?_set_ne (Ne.symm e)]
      exact clrE_in hi h
theorem resE_out {e0 env : List Sl} {i : Nat} : ∀ {own : List Nat}, i ∉ own → (resE e0 env own)[i]? = env[i]?
  | [], _ => rfl
  | v :: vs, h => by
    simp at h
    unfold resE
    rw [List.getElem?_set_ne (Ne.symm h.1), resE_out h.2]
theorem resE_in {e0 env : List Sl} {i : Nat} (hi : i < env.length) : ∀ {own : List Nat}, i ∈ own → (resE e0 env own)[i]? = some (e0[i]?.getD .no)
  | [], h => by simp at h
  | v :: vs, h => by
    unfold resE
    by_cases e : i = v
    · subst e; rw [List.getElem?_set_self (by rw [resE_len]; exact hi)]
    · simp [e] at h
      rw [List.getElem?_set_ne (Ne.symm e)]
      exact resE_in hi h
theorem clr_own {env : List Sl} {i : Nat} {l z : Bool} {d : D} (h : (clrE env own)[i]? = some (.own l z d)) : i ∉ own ∧ env[i]? = some (.own l z d) := by
  have hi : i < env.length := by
    have := (List.getElem?_eq_some_iff.mp h).1
    rwa [clrE_len] at this
  by_cases e : i ∈ own
  · rw [clrE_in hi e] at h; cases h
  · rw [clrE_out e] at h; exact ⟨e, h⟩
theorem own_free {env : List Sl} (f : freeOwn own env = true) {i : Nat} {l z : Bool} {d : D} (h : env[i]? = some (.own l z d)) : i ∉ own := fun hm => by
  unfold freeOwn at f
  rw [List.all_eq_true] at f
  have := f i hm
  rw [h] at this
  cases this
theorem wipe_in {i : Nat} (hi : i < σ.length) : ∀ {own : List Nat}, i ∈ own → (wipe σ own)[i]? = some none
  | [], h => by simp at h
  | v :: vs, h => by
    unfold wipe
    by_cases e : i = v
    · subst e; rw [List.getElem?_set_self (by rw [wipe_length]; exact hi)]
    · simp [e] at h
      rw [List.getElem?_set_ne (Ne.symm e)]
      exact wipe_in hi h
theorem wipe_ext {σ τ : L2.St} (hl : σ.length = τ.length) (h : ∀ i, i ∉ own → σ[i]? = τ[i]?) : wipe σ own = wipe τ own := by
  apply List.ext_getElem?
  intro i
  by_cases e : i ∈ own
  · by_cases hi : i < σ.length
    · rw [wipe_in hi e, wipe_in (by omega) e]
    · rw [List.getElem?_eq_none (by rw [wipe_length]; omega), List.getElem?_eq_none (by rw [wipe_length]; omega)]
  · rw [wipe_out e, wipe_out e]; exact h i e
theorem wipe_wipe : wipe (wipe σ own) own = wipe σ own := wipe_ext (wipe_length σ own) fun i h => wipe_out h
/-- the block's start: its names are wiped -/
theorem clr_ownA {env : List Sl} (f : freeOwn own env = true) {a : Addr} : ownA (wipe σ own) (clrE env own) a ↔ ownA σ env a := by
  constructor
  · rintro ⟨i, l, z, d, h1, h2⟩
    obtain ⟨hi, h1⟩ := clr_own h1
    rw [wipe_out hi] at h2
    exact ⟨i, l, z, d, h1, h2⟩
  · rintro ⟨i, l, z, d, h1, h2⟩
    have hi := own_free f h1
    exact ⟨i, l, z, d, by rw [clrE_out hi]; exact h1, by rw [wipe_out hi]; exact h2⟩
theorem clr_ownL {env : List Sl} (f : freeOwn own env = true) {a : Addr} : ownL (wipe σ own) (clrE env own) a ↔ ownL σ env a := by
  constructor
  · rintro ⟨i, l, d, h1, h2⟩
    obtain ⟨hi, h1⟩ := clr_own h1
    rw [wipe_out hi] at h2
    exact ⟨i, l, d, h1, h2⟩
  · rintro ⟨i, l, d, h1, h2⟩
    have hi := own_free f h1
    exact ⟨i, l, d, by rw [clrE_out hi]; exact h1, by rw [wipe_out hi]; exact h2⟩
theorem clr_mu {env : List Sl} (f : freeOwn own env = true) : Mu G (wipe σ own) (clrE env own) = Mu G σ env := by
  funext a; apply propext; unfold Mu; rw [clr_ownA f]
theorem clr_lm {env : List Sl} (f : freeOwn own env = true) : Lm G (wipe σ own) (clrE env own) = Lm G σ env := by
  funext a; apply propext; unfold Lm; rw [clr_ownL f]
theorem Ok.clr (o : Ok K G σ H p) (f : freeOwn own p.env = true) : Ok K G (wipe σ own) H ⟨clrE p.env own, p.src⟩ where
  len := by rw [wipe_length]; show (clrE p.env own).length = _; rw [clrE_len]; exact o.len
  sh := fun i d h => by
    have h : (clrE p.env own)[i]? = some (.sh d) := h
    show ∃ v, _ ∧ Rep K (Mu G (wipe σ own) (clrE p.env own)) H v d
    rw [clr_mu f]
    have hi : i < p.env.length := by
      have := (List.getElem?_eq_some_iff.mp h).1
      rwa [clrE_len] at this
    by_cases e : i ∈ own
    · rw [clrE_in hi e] at h; cases h
    · rw [clrE_out e] at h
      rw [wipe_out e]
      exact o.sh i d h
  ow := fun i l z d h => by
    show ∃ a, _ ∧ OwnAt K (Mu G (wipe σ own) (clrE p.env own)) H a d ∧ _
    rw [clr_mu f]
    obtain ⟨e, h⟩ := clr_own h
    rw [wipe_out e]
    exact o.ow i l z d h
  inj := fun i j l z d l' z' d' a h1 h2 h3 h4 => by
    obtain ⟨e1, h1⟩ := clr_own h1
    obtain ⟨e2, h2⟩ := clr_own h2
    rw [wipe_out e1] at h3
    rw [wipe_out e2] at h4
    exact o.inj _ _ _ _ _ _ _ _ _ h1 h2 h3 h4
  sr := fun i h => by
    have h : (clrE p.env own)[i]? = some .src := h
    have hi : i < p.env.length := by
      have := (List.getElem?_eq_some_iff.mp h).1
      rwa [clrE_len] at this
    by_cases e : i ∈ own
    · rw [clrE_in hi e] at h; cases h
    · rw [clrE_out e] at h
      rw [wipe_out e]
      exact o.sr i h
  mx := o.mx
  ga := o.ga
/-- an address that must not be met is written -/
theorem Ok.updMx {D : Addr} {ob : HO} (o : Ok K G σ H p) (hD : G.mx D) : Ok K G σ (upd H D ob) p where
  len := o.len
  sh := fun i d h => by
    obtain ⟨v, h1, h2⟩ := o.sh i d h
    exact ⟨v, h1, Rep.mono K (fun a o e n => by rw [upd_ne (fun z => n (by rw [z]; exact .inl hD))]; exact e) (fun a z => .inl z) h2⟩
  ow := fun i l z d h => by
    obtain ⟨a, h1, h2, h3, h4⟩ := o.ow i l z d h
    exact ⟨a, h1, h2.mono (fun a o e n => by rw [upd_ne (fun z => n (by rw [z]; exact .inl hD))]; exact e) (fun a z => .inl z) (fun o e => by rw [upd_ne (fun z => h3 (by rw [z]; exact hD))]; exact e), h3, h4⟩
  inj := o.inj
  sr := o.sr
  mx := fun a h => by
    by_cases e : a = D
    · subst e; rw [upd_same]; simp
    · rw [upd_ne e]; exact o.mx a h
  ga := fun q e => by
    obtain ⟨g1, g2, g3, g4, g5⟩ := o.ga q e
    exact ⟨g1, by rw [upd_ne (fun z => g4 (by rw [z]; exact hD))]; exact g2, by rw [upd_ne (fun z => g5 (by rw [z]; exact hD))]; exact g3, g4, g5⟩
/-- fewer outside objects -/
theorem Ok.less {G2 : Gh} (o : Ok K G2 σ H p) (hg : G2.ga = G.ga) (hm : ∀ a, G.mx a → G2.mx a) : Ok K G σ H p := by
  have ga : ∀ a, gaA G a ↔ gaA G2 a := fun a => by unfold gaA; rw [hg]
  have mu : ∀ a, Mu G σ p.env a → Mu G2 σ p.env a := fun a z => by
    rcases z with z | z | z
    · exact .inl (hm a z)
    · exact .inr (.inl ((ga a).mp z))
    · exact .inr (.inr z)
  refine ⟨o.len, fun i d h => ?_, fun i l z d h => ?_, o.inj, fun i h => ?_, fun a h => o.mx a (hm a h), fun q e => ?_⟩
  · obtain ⟨v, h1, h2⟩ := o.sh i d h
    exact ⟨v, h1, Rep.mono K (fun _ _ e _ => e) (fun a z => .inl (mu a z)) h2⟩
  · obtain ⟨a, h1, h2, h3, h4⟩ := o.ow i l z d h
    exact ⟨a, h1, h2.mono (fun _ _ e _ => e) (fun a z => .inl (mu a z)) (fun _ e => e), fun z => h3 (hm a z), fun z => h4 ((ga a).mp z)⟩
  · obtain ⟨q, h1, h2⟩ := o.sr i h
    exact ⟨q, by rw [← hg]; exact h1, h2⟩
  · obtain ⟨g1, g2, g3, g4, g5⟩ := o.ga q (by rw [hg]; exact e)
    exact ⟨g1, g2, g3, fun z => g4 (hm _ z), fun z => g5 (hm _ z)⟩

/-- what stands between two turns of a block: p1, H1 ahead of it (the sources evaluated), D the new list -/
structure CInv (K : PySem.W.Frag) (G : Gh) (σ : L2.St) (own : List Nat) (e1 : List Sl) (H1 : Hp) (L : Addr) (acc : List D) (p : PS) (H : Hp) : Prop where
  fr : ∀ a o, H1 a = some o → ¬ Lm G σ e1 a → H a = some o
  dom : ∀ a, H a = none → H1 a = none
  ok : Ok K (G.more L) (wipe σ own) H p
  same : SameE (clrE e1 own) p.env
  lst : ∃ xs, H L = some (.lst xs) ∧ RepL K (Mu (G.more L) (wipe σ own) p.env) H xs acc
variable {cl : Nat → Addr} {e1 : List Sl} {H1 : Hp} {L : Addr} {acc : List D}
abbrev W0 : WX := fun _ _ _ _ => False
theorem CInv.grow {H3 : Hp} (c : CInv K G σ own e1 H1 L acc p H) (s : Same H H3) : CInv K G σ own e1 H1 L acc p H3 := by
  obtain ⟨xs, h1, h2⟩ := c.lst
  exact ⟨fun a o e n => s _ _ (c.fr a o e n), fun a h => c.dom a (s.free h), c.ok.grow s, c.same, xs, s _ _ h1, RepL.mono K (fun a o e _ => s a o e) (fun a z => .inl z) h2⟩
theorem sameE_clr {e e' : List Sl} (s : SameE (clrE e own) e') : SameE (clrE e own) (clrE e' own) := by
  refine ⟨by rw [clrE_len, clrE_len, ← s.1, clrE_len], fun i x h => ?_⟩
  have hi : i < e.length := by
    have := (List.getElem?_eq_some_iff.mp h).1
    rwa [clrE_len] at this
  have hi' : i < e'.length := by rw [← s.1, clrE_len]; exact hi
  by_cases hm : i ∈ own
  · rw [clrE_in hi hm] at h; cases h
    exact ⟨_, clrE_in hi' hm, rfl⟩
  · obtain ⟨y, h1, h2⟩ := s.2 i x h
    exact ⟨y, by rw [clrE_out hm]; exact h1, h2⟩
/-- behind a turn the block's names are wiped again -/
theorem CInv.wiped (c : CInv K G σ own e1 H1 L acc p H) {σ2 : L2.St} {p2 : PS} {H2 : Hp} (s : Stp K (G.more L) (wipe σ own) p H σ2 p2 H2) (w : wipe σ2 own = wipe σ own) (fo : ∀ (i : Nat) l z d, p2.env[i]? = some (.own l z d) → i ∉ own) (sm : SameE (clrE e1 own) (clrE p2.env own)) (f : freeOwn own e1 = true) :
    CInv K G σ own e1 H1 L acc ⟨clrE p2.env own, p2.src⟩ H2 := by
  have f2 : freeOwn own p2.env = true := by
    unfold freeOwn
    rw [List.all_eq_true]
    intro i hi
    split
    · rename_i e; exact absurd hi (fo _ _ _ _ e)
    · rfl
  have o2 := s.ok.clr f2
  rw [w] at o2
  have nL : ∀ a, Lm (G.more L) (wipe σ own) p.env a → Lm G σ e1 a := fun a z => by
    rw [c.same.lm] at z
    have z : Lm G (wipe σ own) (clrE e1 own) a := z
    rwa [clr_lm f] at z
  refine ⟨fun a o e n => s.fr a o (c.fr a o e n) fun z => n (nL a z), fun a h => c.dom a (s.dom a h), o2, sm, ?_⟩
  obtain ⟨xs, h1, h2⟩ := c.lst
  refine ⟨xs, s.fr L _ h1 fun z => ?_, ?_⟩
  · rcases z with ⟨q, e, z⟩ | ⟨i, l, d, h3, h4⟩
    · obtain ⟨_, _, _, g4, g5⟩ := c.ok.ga q e
      rcases z with z | z
      · exact g4 (.inr z.symm)
      · exact g5 (.inr z.symm)
    · obtain ⟨b, k1, _, k3, _⟩ := c.ok.ow i l false d h3
      rw [h4] at k1; cases k1
      exact k3 (.inr rfl)
  · have r := s.repL h2
    refine RepL.mono K (fun _ _ e _ => e) (fun a z => .inl ?_) r
    have e : Mu (G.more L) (wipe σ own) (clrE p2.env own) = Mu (G.more L) σ2 p2.env := by
      have := clr_mu (G := G.more L) (σ := σ2) f2
      rw [w] at this
      exact this
    have z : Mu (G.more L) (wipe σ own) (clrE p2.env own) a := z
    rwa [e] at z
theorem CInv.push {x : V} {d : D} (c : CInv K G σ own e1 H1 L acc p H) (r : Rep K (Mu (G.more L) (wipe σ own) p.env) H x d) (hL : H1 L = none) : ∃ xs, H L = some (.lst xs) ∧ xs.length = acc.length ∧ CInv K G σ own e1 H1 L (acc ++ [d]) p (upd H L (.lst (xs ++ [x]))) := by
  obtain ⟨xs, h1, h2⟩ := c.lst
  have hm : (G.more L).mx L := .inr rfl
  have keep : ∀ a o, H a = some o → ¬ Mu (G.more L) (wipe σ own) p.env a → (upd H L (.lst (xs ++ [x]))) a = some o := fun a o e n => by
    rw [upd_ne (fun z => n (by rw [z]; exact .inl hm))]; exact e
  refine ⟨xs, h1, h2.length, ⟨fun a o e n => ?_, fun a h => ?_, c.ok.updMx hm, c.same, _, upd_same, (RepL.mono K keep (fun a z => .inl z) h2).snoc (Rep.mono K keep (fun a z => .inl z) r)⟩⟩
  · rw [upd_ne (fun z => by rw [z, hL] at e; cases e)]
    exact c.fr a o e n
  · by_cases e : a = L
    · rw [e]; exact hL
    · rw [upd_ne e] at h; exact c.dom a h
theorem tgt_own {is : List Nat} {σ2 : L2.St} {env' : List Sl} (hsub : ∀ i ∈ is, i ∈ own) (k : ∀ j, j ∉ is → env'[j]? = p.env[j]? ∧ σ2[j]? = σ[j]?) : ∀ j, j ∉ own → env'[j]? = p.env[j]? := fun j hj => (k j fun hm => hj (hsub j hm)).1
/-- one turn of a block -/
theorem cturn {is : List Nat} {tg : Tgd} {dt de : Dn} {d : D} {ds : List D} {r0 : List D} {pf : PS} {v : V} {Nx : Hp → Prop} (f : freeOwn own e1 = true) (hL : H1 L = none) (hsub : ∀ i ∈ is, i ∈ own) (hno : ∀ i ∈ own, ∀ d env env', tg d env = some env' → ∀ l z x, env'[i]? = some (.own l z x) → env[i]? = some (.own l z x)) (hl : acc.length < 16777216)
    (c : CInv K G σ own e1 H1 L acc p H) (r : Rep K (Mu (G.more L) (wipe σ own) p.env) H v d) (h : compL own tg dt de (d :: ds) acc p = .ok r0 pf)
    (k : ∀ acc' p' H', CInv K G σ own e1 H1 L acc' p' H' → acc'.length ≤ acc.length + 1 → compL own tg dt de ds acc' p' = .ok r0 pf → Nx H') :
    tG K is tg v (wipe σ own) H fun σ2 H2 => wipe σ2 own = wipe σ own ∧ tB (tE K cl W0 dt) σ2 H2 fun b H3 => if b = true then tE K cl W0 de σ2 H3 fun y H4 => ∃ acc, H4 L = some (.lst acc) ∧ acc.length < sizeLine ∧ Nx (upd H4 L (.lst (acc ++ [y]))) else Nx H3 := by
  have h : (match tg d p.env with
    | none => R.bad
    | some env' => bindN (dt ⟨env', p.src⟩) fun b p1 => onBL b p1
      (fun p1 => bindN (de p1) fun v p2 => match v.soft with
        | .sh e => compL own tg dt de ds (acc ++ [e]) ⟨clrE p2.env own, p2.src⟩
        | _ => .bad)
      (fun p1 => compL own tg dt de ds acc ⟨clrE p1.env own, p1.src⟩)) = .ok r0 pf := h
  cases et : tg d p.env with
  | none => rw [et] at h; cases h
  | some env' =>
    simp only [et] at h
    refine ⟨G.more L, p, d, env', c.ok, r, et, fun σ2 s2 w2 n2 => ?_⟩
    have w2 := w2 own hsub
    rw [wipe_wipe] at w2
    refine ⟨w2, G.more L, ⟨env', p.src⟩, s2.ok, ?_⟩
    cases ed : dt ⟨env', p.src⟩ with
    | bad => rw [ed] at h; cases h
    | exc x q => rw [ed] at h; cases h
    | ok b p3 =>
      rw [ed] at h
      simp only [bindN_ok] at h
      intro u H3 s3 r3
      have noOwn : ∀ (p' : PS), SameE env' p'.env → ∀ (i : Nat) l z d, p'.env[i]? = some (.own l z d) → i ∉ own := fun p' sm i l z d e hm => by
        obtain ⟨d', e⟩ := sm.symm_own e
        have e := hno i hm _ _ _ et _ _ _ e
        obtain ⟨d'', e⟩ := c.same.symm_own e
        have hi := own_free f (clr_own e).2
        exact hi hm
      have smm : ∀ (p' : PS), SameE env' p'.env → SameE (clrE e1 own) (clrE p'.env own) := fun p' sm => by
        have a : SameE (clrE e1 own) (clrE p.env own) := sameE_clr c.same
        refine ⟨a.1.trans ?_, fun i x hx => ?_⟩
        · rw [clrE_len, clrE_len, ← sm.1, ← show p.env.length = env'.length from ?_]
          have : env'.length = σ2.length := s2.ok.len
          have q := c.ok.len
          have w := congrArg List.length w2
          rw [wipe_length, wipe_length] at w
          rw [wipe_length] at q
          omega
        · obtain ⟨y, h1, h2⟩ := a.2 i x hx
          have hi : i < p.env.length := by
            have := (List.getElem?_eq_some_iff.mp h1).1
            rwa [clrE_len] at this
          by_cases hm : i ∈ own
          · have hi' : i < p'.env.length := by
              have q := c.ok.len
              have w := congrArg List.length w2
              rw [wipe_length, wipe_length] at w
              rw [wipe_length] at q
              have : env'.length = σ2.length := s2.ok.len
              rw [← sm.1]
              omega
            rw [clrE_in hi hm] at h1; cases h1
            exact ⟨_, clrE_in hi' hm, h2⟩
          · rw [clrE_out hm] at h1
            have e2 := tgt_own hsub n2 i hm
            obtain ⟨y2, h3, h4⟩ := sm.2 i y (by rw [e2]; exact h1)
            exact ⟨y2, by rw [clrE_out hm]; exact h3, h2.trans h4⟩
      unfold onBL at h
      split at h
      · cases (show Rep K _ H3 u (.bl true) from r3)
        refine ⟨true, rfl, ?_⟩
        show (if (true : Bool) = true then _ else _)
        rw [if_pos rfl]
        refine ⟨G.more L, p3, s3.ok, ?_⟩
        simp only at h
        cases ee : de p3 with
        | bad => rw [ee] at h; cases h
        | exc x q => rw [ee] at h; cases h
        | ok w p4 =>
          rw [ee] at h
          simp only [bindN_ok] at h
          intro y H4 s4 r4
          cases es : w.soft with
          | sh e =>
            rw [es] at h
            have r5 := r4.soft
            rw [es] at r5
            have sm4 := s3.2.trans s4.2
            have ci := c.wiped ((s2.trans s3.1).trans s4.1) w2 (noOwn p4 sm4) (smm p4 sm4) f
            have e5 : Mu (G.more L) (wipe σ own) (clrE p4.env own) = Mu (G.more L) σ2 p4.env := by
              have f4 : freeOwn own p4.env = true := by
                unfold freeOwn
                rw [List.all_eq_true]
                intro i hi
                split
                · rename_i e; exact absurd hi (noOwn p4 sm4 _ _ _ _ e)
                · rfl
              have := clr_mu (G := G.more L) (σ := σ2) f4
              rw [w2] at this
              exact this
            obtain ⟨xs, g1, g2, g3⟩ := ci.push (x := y) (d := e) (by rw [e5]; exact r5) hL
            exact ⟨xs, g1, by rw [g2]; exact Nat.lt_of_lt_of_le hl (by rw [sizeLine_eq]; exact Nat.le_refl _), k _ _ _ g3 (by simp) h⟩
          | ow e => rw [es] at h; cases h
          | bo i => rw [es] at h; cases h
          | sr => rw [es] at h; cases h
      · cases (show Rep K _ H3 u (.bl false) from r3)
        refine ⟨false, rfl, ?_⟩
        show (if (false : Bool) = true then _ else _)
        rw [if_neg Bool.false_ne_true]
        exact k _ _ _ (c.wiped (s2.trans s3.1) w2 (noOwn p3 s3.2) (smm p3 s3.2) f) (Nat.le_succ _) h
      · cases h
/-- the slots behind a comprehension -/
theorem CInv.done (c : CInv K G σ own e1 H1 L acc p H) {p1 : PS} {z : Option Nat} (o1 : Ok K G σ H1 p1) (he : e1 = lockE z p1.env) (f : freeOwn own e1 = true) (lz : lockOk z p1.env = true) (hL : H1 L = none) :
    StpE K G σ p1 H1 ⟨unlockE z (resE p1.env p.env own), p.src⟩ H ∧ RvOk K G σ ⟨unlockE z (resE p1.env p.env own), p.src⟩ H1 H (.ref L) (.ow (.lst acc)) := by
  have len1 : e1.length = p1.env.length := by rw [he]; exact ((sameZ_lock z p1.env).1).symm
  have lenp : p.env.length = p1.env.length := by rw [← c.same.1, clrE_len, len1]
  have hσ : p1.env.length = σ.length := o1.len
  -- the slots, one by one
  have slot : ∀ (i : Nat) (x : Sl), p1.env[i]? = some x → ∃ y, (resE p1.env p.env own)[i]? = some y ∧ ((i ∈ own ∧ y = x ∧ (∀ l z d, x ≠ .own l z d)) ∨ (i ∉ own ∧ p.env[i]? = some y)) := fun i x h => by
    have hi : i < p1.env.length := (List.getElem?_eq_some_iff.mp h).1
    by_cases hm : i ∈ own
    · refine ⟨x, by rw [resE_in (by rw [lenp]; exact hi) hm, h]; rfl, .inl ⟨hm, rfl, fun l zz d e => ?_⟩⟩
      subst e
      obtain ⟨z', h'⟩ := (sameZ_lock z p1.env).own h
      rw [← he] at h'
      exact own_free f h' hm
    · have hi' : i < p.env.length := by rw [lenp]; exact hi
      exact ⟨p.env[i], by rw [resE_out hm]; exact List.getElem?_eq_getElem hi', .inr ⟨hm, List.getElem?_eq_getElem hi'⟩⟩
  have same1 : ∀ (i : Nat) (x : Sl), p1.env[i]? = some x → ∃ y, (unlockE z (resE p1.env p.env own))[i]? = some y ∧ Same1 x y := fun i x h => by
    have hi : i < p1.env.length := (List.getElem?_eq_some_iff.mp h).1
    obtain ⟨y, h1, h2⟩ := slot i x h
    have hy : i ∉ own → ∃ x', e1[i]? = some x' ∧ Same1 x' y := fun hm => by
      have h3 : p.env[i]? = some y := by
        rcases h2 with h2 | h2
        · exact absurd h2.1 hm
        · exact h2.2
      have hi1 : i < e1.length := by rw [len1]; exact hi
      obtain ⟨y', h4, h5⟩ := c.same.2 i e1[i] (by rw [clrE_out hm]; exact List.getElem?_eq_getElem hi1)
      rw [h3] at h4; cases h4
      exact ⟨_, List.getElem?_eq_getElem hi1, h5⟩
    by_cases hz : z = some i
    · subst hz
      unfold lockOk at lz
      simp only [h] at lz
      cases x with
      | own l zz d =>
        cases zz with
        | true => cases lz
        | false =>
          have e2 : e1[i]? = some (.own l true d) := by
            rw [he]
            simp only [lockE, h]
            exact List.getElem?_set_self hi
          have hm : i ∉ own := own_free f e2
          obtain ⟨x', h3, h4⟩ := hy hm
          rw [e2] at h3; cases h3
          obtain ⟨d', rfl⟩ := same1_own h4
          refine ⟨.own l false d', ?_, rfl, rfl⟩
          simp only [unlockE, h1]
          rw [List.getElem?_set_self]
          rw [resE_len, lenp]; exact hi
      | no => cases lz
      | sh d => cases lz
      | src => cases lz
    · have e3 : (unlockE z (resE p1.env p.env own))[i]? = some y := by
        unfold unlockE
        split
        · rename_i j
          have hij : j ≠ i := fun e => hz (by rw [e])
          split
          · rw [List.getElem?_set_ne hij]; exact h1
          · exact h1
        · exact h1
      refine ⟨y, e3, ?_⟩
      rcases h2 with ⟨hm, rfl, _⟩ | ⟨hm, _⟩
      · exact Same1.refl _
      · obtain ⟨x', h3, h4⟩ := hy hm
        have e4 : e1[i]? = some x := by
          rw [he]
          unfold lockE
          split
          · rename_i j
            have hij : j ≠ i := fun e => hz (by rw [e])
            split
            · rw [List.getElem?_set_ne hij]; exact h
            · exact h
          · exact h
        rw [e4] at h3; cases h3
        exact h4
  have sameE : SameE p1.env (unlockE z (resE p1.env p.env own)) := ⟨by rw [← (sameZ_unlock z _).1, resE_len, lenp], same1⟩
  -- what must not be met
  have muE : ∀ G', Mu G' σ (unlockE z (resE p1.env p.env own)) = Mu G' σ p1.env := fun G' => sameE.mu
  have mu1 : Mu G σ e1 = Mu G σ p1.env := by rw [he, ← (sameZ_lock z p1.env).mu]
  have muP : ∀ a, Mu (G.more L) (wipe σ own) p.env a ↔ (Mu G σ p1.env a ∨ a = L) := fun a => by
    rw [mu_more, c.same.mu, clr_mu f, mu1]
  have lmE : ∀ a, Lm G σ e1 a → Mu G σ p1.env a := fun a z => by rw [← mu1]; exact z.mu
  have muF : ∀ a, Mu (G.more L) σ (unlockE z (resE p1.env p.env own)) a ↔ (Mu G σ p1.env a ∨ a = L) := fun a => by rw [mu_more, muE]
  have muPF : Mu (G.more L) (wipe σ own) p.env = Mu (G.more L) σ (unlockE z (resE p1.env p.env own)) := by
    funext a; exact propext ((muP a).trans (muF a).symm)
  have nL : ¬ Mu G σ p1.env L := fun z => o1.dom z hL
  have pfOwn : ∀ {i : Nat} {l zz : Bool} {d : D}, (unlockE z (resE p1.env p.env own))[i]? = some (.own l zz d) → i ∉ own ∧ ∃ z', p.env[i]? = some (.own l z' d) := fun {i l zz d} h => by
    obtain ⟨z', h'⟩ := (sameZ_unlock z (resE p1.env p.env own)).symm.own h
    obtain ⟨d0, h0⟩ := sameE.symm_own h
    obtain ⟨y, h1, h2⟩ := slot i _ h0
    rw [h'] at h1; cases h1
    rcases h2 with ⟨_, _, n⟩ | ⟨hm, h3⟩
    · exact absurd rfl (n _ _ _)
    · exact ⟨hm, z', h3⟩
  have okL : Ok K (G.more L) σ H ⟨unlockE z (resE p1.env p.env own), p.src⟩ := by
    refine ⟨?_, fun i d h => ?_, fun i l zz d h => ?_, fun i j l zz d l' zz' d' a h1 h2 h3 h4 => ?_, fun i h => ?_, c.ok.mx, c.ok.ga⟩
    · show (unlockE z (resE p1.env p.env own)).length = _
      rw [← sameE.1]; exact hσ
    · have h : (unlockE z (resE p1.env p.env own))[i]? = some (.sh d) := h
      show ∃ v, _ ∧ Rep K (Mu (G.more L) σ (unlockE z (resE p1.env p.env own))) H v d
      have h' := (sameZ_unlock z (resE p1.env p.env own)).symm.other h (fun _ _ _ e => by cases e)
      have hi : i < p1.env.length := by
        have := (List.getElem?_eq_some_iff.mp h).1
        rwa [← sameE.1] at this
      obtain ⟨y, h1, h2⟩ := slot i _ (List.getElem?_eq_getElem hi)
      rw [h'] at h1; cases h1
      rcases h2 with ⟨hm, e, _⟩ | ⟨hm, h3⟩
      · obtain ⟨v, g1, g2⟩ := o1.sh i d (by rw [List.getElem?_eq_getElem hi, ← e])
        refine ⟨v, g1, Rep.mono K (fun a o e n => c.fr a o e fun z => n (lmE a z)) (fun a z => ?_) g2⟩
        rcases (muF a).mp z with z | z
        · exact .inl z
        · exact .inr (z ▸ hL)
      · obtain ⟨v, g1, g2⟩ := c.ok.sh i d h3
        rw [wipe_out hm] at g1
        refine ⟨v, g1, ?_⟩
        rw [← muPF]; exact g2
    · obtain ⟨hm, z', h3⟩ := pfOwn h
      obtain ⟨a, g1, g2, g3⟩ := c.ok.ow i l z' d h3
      rw [wipe_out hm] at g1
      refine ⟨a, g1, ?_, g3⟩
      show OwnAt K (Mu (G.more L) σ (unlockE z (resE p1.env p.env own))) H a d
      rw [← muPF]; exact g2
    · obtain ⟨hm, z1, k1⟩ := pfOwn h1
      obtain ⟨hm', z2, k2⟩ := pfOwn h2
      exact c.ok.inj _ _ _ _ _ _ _ _ _ k1 k2 (by rw [wipe_out hm]; exact h3) (by rw [wipe_out hm']; exact h4)
    · have h : (unlockE z (resE p1.env p.env own))[i]? = some .src := h
      have h' := (sameZ_unlock z (resE p1.env p.env own)).symm.other h (fun _ _ _ e => by cases e)
      have hi : i < p1.env.length := by
        have := (List.getElem?_eq_some_iff.mp h).1
        rwa [← sameE.1] at this
      obtain ⟨y, h1, h2⟩ := slot i _ (List.getElem?_eq_getElem hi)
      rw [h'] at h1; cases h1
      rcases h2 with ⟨hm, e, _⟩ | ⟨hm, h3⟩
      · exact o1.sr i (by rw [List.getElem?_eq_getElem hi, ← e])
      · obtain ⟨q, g1, g2⟩ := c.ok.sr i h3
        rw [wipe_out hm] at g2
        exact ⟨q, g1, g2⟩
  obtain ⟨xs, g1, g2⟩ := c.lst
  refine ⟨.mk' (okL.less rfl fun a z => .inl z) sameE (fun a o e n => c.fr a o e fun zz => n ?_) c.dom, rfl, L, rfl, hL, ?_, ⟨xs, g1, ?_⟩, okL⟩
  · rw [he] at zz
    rcases zz with zz | ⟨i, l, d, h1, h2⟩
    · exact .inl zz
    · obtain ⟨z', h3⟩ := (sameZ_lock z p1.env).symm.own h1
      refine .inr ⟨i, l, d, ?_, h2⟩
      by_cases hz : z = some i
      · subst hz
        have hi : i < p1.env.length := (List.getElem?_eq_some_iff.mp h3).1
        simp only [lockE, h3] at h1
        rw [List.getElem?_set_self hi] at h1
        cases h1
      · have e4 : (lockE z p1.env)[i]? = p1.env[i]? := by
          unfold lockE
          split
          · rename_i j
            have hij : j ≠ i := fun e => hz (by rw [e])
            split
            · rw [List.getElem?_set_ne hij]
            · rfl
          · rfl
        rw [e4] at h1; exact h1
  · show ¬ Mu G σ (unlockE z (resE p1.env p.env own)) L
    rw [muE]; exact nL
  · show RepL K (Mu (G.more L) σ (unlockE z (resE p1.env p.env own))) H xs acc
    rw [← muPF]; exact g2
/-- a block's start -/
theorem CInv.start {p1 : PS} {z : Option Nat} (o1 : Ok K G σ H1 p1) (f : freeOwn own (lockE z p1.env) = true) (hL : H1 L = none) : CInv K G σ own (lockE z p1.env) H1 L [] ⟨clrE (lockE z p1.env) own, p1.src⟩ (upd H1 L (.lst [])) := by
  have oz : Ok K G σ H1 ⟨lockE z p1.env, p1.src⟩ := o1.zz (sameZ_lock z p1.env)
  have om := (oz.more (a := L) (same_upd (o := .lst []) hL) hL (by rw [upd_same]; simp)).clr f
  exact ⟨fun a o e _ => same_upd hL a o e, fun a h => (same_upd (o := .lst []) hL).free h, om, .refl _, [], upd_same, .nil⟩
end
end Py
set_option maxRecDepth 100000
namespace Py
open PySem PySem.Spec PyProof.Rows L2

def blkS (s : Sx) (scope : Scope) : Sx := ⟨s.N, relS scope s.sc, fun x => scope.names.lookup x == some .cell⟩
theorem CtxOk.blk {s : Sx} {T : Tab} {X : Cx} (c : CtxOk s T X) (st : Shared) (H : Hp) (scope : Scope) (C : Addr) (cl : List (Str × Addr)) (fp : List Addr) : CtxOk (blkS s scope) T (X.blk st H scope (compEnvC scope cl C X.env) fp) where
  N := c.N
  sc := by
    show relS scope X.env.scope = relS scope s.sc
    rw [c.sc]
  nd := c.nd
  calm := c.calm
  room := c.room
  fn := fun x h => h
  fac := c.fac
/-- a target makes no owner -/
def GoodG (g : Tgd) : Prop := ∀ d env env', g d env = some env' → ∀ (i : Nat) l z x, env'[i]? = some (.own l z x) → env[i]? = some (.own l z x)
def GoodGs (g : Tgs) : Prop := ∀ d env env', g d env = some env' → ∀ (i : Nat) l z x, env'[i]? = some (.own l z x) → env[i]? = some (.own l z x)
theorem good_n (i : Nat) : GoodG (gN i) := fun d env env' h j l z x e => by
  obtain ⟨rfl, hi, _⟩ := setSl_ok h
  by_cases hj : j = i
  · subst hj; rw [List.getElem?_set_self hi] at e; cases e
  · rwa [List.getElem?_set_ne (Ne.symm hj)] at e
theorem goods_n : GoodGs gsN := fun d env env' h j l z x e => by
  cases d with
  | nil => cases h; exact e
  | cons _ _ => cases h
theorem goods_c {g : Tgd} {gs : Tgs} (h1 : GoodG g) (h2 : GoodGs gs) : GoodGs (gsC g gs) := fun d env env' h j l z x e => by
  cases d with
  | nil => cases h
  | cons d ds =>
    have h : (match g d env with | some env' => gs ds env' | none => none) = some env' := h
    split at h
    · rename_i e1; exact h1 _ _ _ e1 _ _ _ _ (h2 _ _ _ h _ _ _ _ e)
    · cases h
theorem good_t {gs : Tgs} (h : GoodGs gs) : GoodG (gT gs) := fun d env env' e j l z x e2 => by
  cases d <;> simp only [gT] at e <;> (try cases e)
  exact h _ _ _ e _ _ _ _ e2
/-- the tests of a comprehension's clause -/
def VTs (s : Sx) (T : Tab) (ifs : List Expr) (den : Dn) : Prop := ∀ (X : Cx) (W : WX), CtxOk s T X → Takes X W → PTs X ifs (tB (tE X.K (clK X.K) W den))
theorem ts_nil {s : Sx} {T : Tab} : VTs s T [] (dC (.bl true)) := fun X W c tk => ⟨fun pins st σ H Q I h => pts_nil.run pins st σ H Q I (by
  obtain ⟨G, p, o, h⟩ := h
  obtain ⟨b, e, q⟩ := h (.bl true) H (.refl o) .bl
  cases e; exact q)⟩
theorem ts_one {s : Sx} {T : Tab} {c : Expr} {den : Dn} (h : VT s T c den) : VTs s T [c] den := fun X W cx tk => pts_one (h X W cx tk)
section
variable {s : Sx} {T : Tab} {pos : Pos}
/-- the reading of a comprehension from its meaning -/
theorem lc_imp {K : PySem.W.Frag} {cl : Nat → Addr} {W : WX} {own is : List Nat} {di : PS → R Iv} {g : Tgd} {dt de : Dn} (hsub : ∀ i ∈ is, i ∈ own) (hgood : GoodG g) {σ : L2.St} {H : Hp} {Q : VK} (h : tE K cl W (dComp own di g dt de) σ H Q) :
    tLc (tI K cl W di) (tG K is g) (tB (tE K cl W0 dt)) (tE K cl W0 de) own σ H Q := by
  obtain ⟨G, p, o, h⟩ := h
  refine ⟨G, p, o, ?_⟩
  unfold dComp at h
  cases e : di p with
  | bad => rw [e] at h; exact h.elim
  | exc c q => rw [e] at h; exact h
  | ok iv p1 =>
    rw [e] at h
    intro J H1 s1 w L hL
    have h : Post K cl W G σ H p Q (if freeOwn own p1.env = true ∧ lockOk iv.z p1.env = true ∧ iv.items.length ≤ 16777216 then bindN (compL own g dt de iv.items [] ⟨clrE (lockE iv.z p1.env) own, p1.src⟩) fun ds p2 => .ok (.ow (.lst ds)) ⟨unlockE iv.z (resE p1.env p2.env own), p2.src⟩ else .bad) := h
    by_cases hc : freeOwn own p1.env = true ∧ lockOk iv.z p1.env = true ∧ iv.items.length ≤ 16777216
    · rw [if_pos hc] at h
      obtain ⟨f0, lz, hlen⟩ := hc
      have f : freeOwn own (lockE iv.z p1.env) = true := by
        unfold freeOwn
        rw [List.all_eq_true]
        intro i hi
        split
        · rename_i e'
          obtain ⟨z', e'⟩ := (sameZ_lock iv.z p1.env).symm.own e'
          exact absurd hi (own_free f0 e')
        · rfl
      cases ec : compL own g dt de iv.items [] ⟨clrE (lockE iv.z p1.env) own, p1.src⟩ with
      | bad => rw [ec] at h; exact h.elim
      | exc c q => rw [ec] at h; exact h.elim
      | ok r0 pf =>
        rw [ec] at h
        simp only [bindN_ok] at h
        refine ⟨fun i m Hi => m = iv.items.length - i ∧ i ≤ iv.items.length ∧ ∃ acc p', acc.length ≤ i ∧ CInv K G σ own (lockE iv.z p1.env) H1 L acc p' Hi ∧ compL own g dt de (iv.items.drop i) acc p' = .ok r0 pf, ⟨_, rfl, Nat.zero_le _, [], _, Nat.le_refl _, CInv.start s1.ok f hL, ec⟩, ?_⟩
        rintro i m Hi ⟨rfl, hi, acc, p', ha, ci, ecc⟩
        have lockMu : Mu G σ (lockE iv.z p1.env) = Mu G σ p1.env := ((sameZ_lock iv.z p1.env).mu).symm
        obtain ⟨w1, w2, w3⟩ := w (Mu (G.more L) (wipe σ own) p'.env) Hi (fun a o e n _ => ci.fr a o e n) (fun a z => by
          rw [mu_more, ci.same.mu, clr_mu f, lockMu] at z
          rcases z with z | z
          · exact .inl z
          · exact .inr (z ▸ hL)) (fun a z => ci.ok.dom z)
        by_cases hlt : i < iv.items.length
        · refine .inr ⟨w1 i hlt, fun H' => ∃ acc p', acc.length ≤ i + 1 ∧ CInv K G σ own (lockE iv.z p1.env) H1 L acc p' H' ∧ compL own g dt de (iv.items.drop (i + 1)) acc p' = .ok r0 pf, fun H' ⟨acc, p', h1, h2, h3⟩ => ⟨_, by omega, rfl, hlt, acc, p', h1, h2, h3⟩, fun x H3 y => ?_⟩
          obtain ⟨d, hd, sm, rd⟩ := w3 i x H3 hlt y
          have hdrop : iv.items.drop i = d :: iv.items.drop (i + 1) := by
            rw [List.drop_eq_getElem_cons hlt]
            rw [List.getElem?_eq_getElem hlt] at hd
            cases hd; rfl
          rw [hdrop] at ecc
          exact cturn f hL hsub (fun i hi d env env' e l z x e2 => hgood d env env' e i l z x e2) (by omega) (ci.grow sm) rd ecc fun acc' p2 H' c2 hl2 e2 => ⟨acc', p2, by omega, c2, e2⟩
        · have hi' : i = iv.items.length := by omega
          rw [hi', List.drop_length] at ecc
          have ecc : R.ok acc p' = R.ok r0 pf := ecc
          cases ecc
          obtain ⟨s2, r2⟩ := ci.done s1.ok rfl f lz hL
          refine .inl ⟨by rw [hi']; exact w2, ?_⟩
          exact (Post.from s1 h) (.ref L) Hi s2 r2
    · rw [if_neg hc] at h; exact h.elim
theorem v_lc {elt tg iter : Expr} {ifs : List Expr} {scope : Scope} {own : List (Str × Nat)} {is : List Nat} {di : PS → R Iv} {g : Tgd} {dt de : Dn} (hi : VI s T tg iter di) (hb : blkC s.N s.sc scope own = true) (hg : VG (blkS s scope) T tg is g) (ht : VTs (blkS s scope) T ifs dt) (he : VE (blkS s scope) T elt de)
    (hsub : ∀ i ∈ is, i ∈ own.map (·.2)) (hgood : GoodG g) (hs : ∀ env x, foldedSetIterable iter env x = pure x := by intro _ _; rfl) : VE s T (.ListComp elt [⟨tg, iter, ifs, 0⟩] scope pos) (dComp (own.map (·.2)) di g dt de) := fun X W c tk =>
  PE.of (pe_lc (own := own) c.calm (by rw [c.N]; exact c.nd) (hi X W c tk) (by rw [c.N, c.sc]; exact blkOk_by hb) (fun st H C cl fp => hg _ (c.blk st H scope C cl fp)) (fun st H C cl fp => ht _ W0 (c.blk st H scope C cl fp) takes0) (fun st H C cl fp => he _ W0 (c.blk st H scope C cl fp) takes0) (hs X.env)) fun σ H Q h => lc_imp hsub hgood h
end
end Py
set_option maxRecDepth 100000
namespace Py
open PySem PySem.Spec PyProof.Rows L2

/-! ### statements -/
inductive Out where
  | nx (p : PS) | bk (p : PS) | ct (p : PS) | rt (v : Rv) (p : PS) | exc (c : Nat) (p : PS) | bad
abbrev SDn := PS → Out
def PostS (K : PySem.W.Frag) (cl : Nat → Addr) (W : WX) (G : Gh) (σ : L2.St) (H : Hp) (p : PS) (D : Ends) : Out → Prop
  | .nx p' => ∀ σ' H', Stp K G σ p H σ' p' H' → D.nx σ' H'
  | .bk p' => ∀ σ' H', Stp K G σ p H σ' p' H' → D.bk σ' H'
  | .ct p' => ∀ σ' H', Stp K G σ p H σ' p' H' → D.ct σ' H'
  | .rt v p' => ∀ σ' u H', Stp K G σ p H σ' p' H' → RvOk K G σ' p' H H' u v → D.rt u H'
  | .exc c p' => ∀ σ' H', Stp K G σ p H σ' p' H' → FlyX cl (fun v d H' => W v d σ' H') H c H'
  | .bad => False
def tS (K : PySem.W.Frag) (cl : Nat → Addr) (W : WX) (den : SDn) : TS := fun D σ H => ∃ G p, Ok K G σ H p ∧ PostS K cl W G σ H p D (den p)
def CtxS (s : Sx) (T : Tab) (X : Cx) : Prop := CtxOk s T X ∧ PassesOwn (model X.prog X.w) X.A X.env X.xe ∧ X.stack = X.env :: X.outer ∧ X.env.frame = some X.env.locals ∧ X.ex = []
def VS (s : Sx) (T : Tab) (st : Stmt) (den : SDn) : Prop := ∀ (X : Cx) (W : WX), CtxS s T X → Takes X W → L2.PS X st (tS X.K (clK X.K) W den)
def VB (s : Sx) (T : Tab) (st : List Stmt) (den : SDn) : Prop := ∀ (X : Cx) (W : WX), CtxS s T X → Takes X W → PSs X st (tS X.K (clK X.K) W den)
theorem PSt.of {X : Cx} {e : Stmt} {t t' : TS} (h : L2.PS X e t) (i : ∀ D σ H, t' D σ H → t D σ H) : L2.PS X e t' := ⟨fun pins s σ H D I q => h.run pins s σ H D I (i D σ H q)⟩
theorem PSs.of {X : Cx} {e : List Stmt} {t t' : TS} (h : PSs X e t) (i : ∀ D σ H, t' D σ H → t D σ H) : PSs X e t' := ⟨fun pins s σ H D I q => h.run pins s σ H D I (i D σ H q)⟩
def Out.bind (r : Out) (f : PS → Out) : Out := match r with
  | .nx p => f p
  | r => r
@[simp] theorem Out.bind_nx (p : PS) (f : PS → Out) : (Out.nx p).bind f = f p := rfl
def onR {α : Type} (r : R α) (f : α → PS → Out) : Out := match r with
  | .ok a p => f a p
  | .exc c p => .exc c p
  | .bad => .bad
@[simp] theorem onR_ok {α : Type} (a : α) (p : PS) (f : α → PS → Out) : onR (.ok a p) f = f a p := rfl
section
variable {K : PySem.W.Frag} {cl : Nat → Addr} {W : WX} {G : Gh} {σ σ' : L2.St} {H H' : Hp} {p p' : PS} {D : Ends}
theorem RvOk.back {H0 H1 : Hp} {u : V} {v : Rv} (dom : ∀ a, H1 a = none → H0 a = none) (r : RvOk K G σ p H1 H u v) : RvOk K G σ p H0 H u v := by
  cases v with
  | ow d =>
    obtain ⟨hp, a, e, h1, h2⟩ := r
    exact ⟨hp, a, e, dom a h1, h2⟩
  | sh d => exact r
  | bo i => exact r
  | sr => exact r
theorem PostS.from {r : Out} (s : Stp K G σ p H σ' p' H') (h : PostS K cl W G σ H p D r) : PostS K cl W G σ' H' p' D r := by
  cases r with
  | nx q => exact fun σ2 H2 t => h σ2 H2 (s.trans t)
  | bk q => exact fun σ2 H2 t => h σ2 H2 (s.trans t)
  | ct q => exact fun σ2 H2 t => h σ2 H2 (s.trans t)
  | rt v q => exact fun σ2 u H2 t r => h σ2 u H2 (s.trans t) (r.back s.dom)
  | exc c q => exact fun σ2 H2 t => (h σ2 H2 (s.trans t)).from s.dom
  | bad => exact h.elim
/-- go on behind a statement -/
theorem ps_bind {r : Out} {f : PS → Out} {D' : Ends} (h : PostS K cl W G σ H p D (r.bind f)) (hrt : D'.rt = D.rt) (hbk : D'.bk = D.bk) (hct : D'.ct = D.ct) (k : ∀ p1 σ1 H1, Stp K G σ p H σ1 p1 H1 → PostS K cl W G σ1 H1 p1 D (f p1) → D'.nx σ1 H1) : PostS K cl W G σ H p D' r := by
  cases r with
  | nx q => exact fun σ2 H2 t => k q σ2 H2 t (PostS.from t h)
  | bk q => unfold PostS; rw [hbk]; exact h
  | ct q => unfold PostS; rw [hct]; exact h
  | rt v q => unfold PostS; rw [hrt]; exact h
  | exc c q => exact h
  | bad => exact h.elim
/-- go on behind an expression -/
theorem ts_bind {da : Dn} {f : Rv → PS → Out} {Q' : VK} (o : Ok K G σ H p) (h : PostS K cl W G σ H p D (onR (da p) f)) (k : ∀ v p1 u H1, StpE K G σ p H p1 H1 → RvOk K G σ p1 H H1 u v → PostS K cl W G σ H1 p1 D (f v p1) → Q' u H1) : tE K cl W da σ H Q' := by
  refine ⟨G, p, o, ?_⟩
  cases e : da p with
  | ok v p1 =>
    rw [e] at h
    exact fun u H1 s r => k v p1 u H1 s r (PostS.from s.1 h)
  | exc c p1 => rw [e] at h; exact fun H1 s => h σ H1 s.1
  | bad => rw [e] at h; exact h.elim
theorem tsl_bind {da : DnL} {f : List Rv → PS → Out} {Q' : List V → Hp → Prop} (o : Ok K G σ H p) (h : PostS K cl W G σ H p D (onR (da p) f)) (k : ∀ v p1 u H1, StpE K G σ p H p1 H1 → Paired (fun u v => RvOk K G σ p1 H1 H1 u v) u v → PostS K cl W G σ H1 p1 D (f v p1) → Q' u H1) : tL K cl W da σ H Q' := by
  refine ⟨G, p, o, ?_⟩
  cases e : da p with
  | ok v p1 =>
    rw [e] at h
    exact fun u H1 s r => k v p1 u H1 s r (PostS.from s.1 h)
  | exc c p1 => rw [e] at h; exact fun H1 s => h σ H1 s.1
  | bad => rw [e] at h; exact h.elim
end
section
variable {s : Sx} {T : Tab} {pos : Pos}
def sNil : SDn := fun p => .nx p
def sSeq (a b : SDn) : SDn := fun p => (a p).bind b
theorem vb_nil : VB s T [] sNil := fun X W c tk => PSs.of pss_nil fun D σ H h => by
  obtain ⟨G, p, o, h⟩ := h
  exact h σ H (.refl o)
theorem vb_cons {st : Stmt} {rest : List Stmt} {a b : SDn} (h1 : VS s T st a) (h2 : VB s T rest b) : VB s T (st :: rest) (sSeq a b) := fun X W c tk => PSs.of (pss_cons (h1 X W c tk) (h2 X W c tk)) fun D σ H h => by
  obtain ⟨G, p, o, h⟩ := h
  exact ⟨G, p, o, ps_bind h rfl rfl rfl fun p1 σ1 H1 s1 h => ⟨G, p1, s1.ok, h⟩⟩
theorem vb_one {st : Stmt} {a : SDn} (h1 : VS s T st a) : VB s T [st] a := fun X W c tk => pss_one (h1 X W c tk)
/-- the object in a slot is shared from here on -/
def sFrz (i : Nat) (a : SDn) : SDn := fun p => match p.env[i]? with
  | some (.own false false d) => if d.plain = true then a ⟨p.env.set i (.sh d), p.src⟩ else .bad
  | _ => .bad
theorem Ok.frz {K : PySem.W.Frag} {G : Gh} {σ : L2.St} {H : Hp} {p : PS} {i : Nat} {d : D} (o : Ok K G σ H p) (h : p.env[i]? = some (.own false false d)) (hpl : d.plain = true) : Stp K G σ p H σ ⟨p.env.set i (.sh d), p.src⟩ H := by
  have hi : i < p.env.length := (List.getElem?_eq_some_iff.mp h).1
  have own' : ∀ {j : Nat} {l z : Bool} {e : D}, (p.env.set i (.sh d))[j]? = some (.own l z e) → j ≠ i ∧ p.env[j]? = some (.own l z e) := fun {j l z e} h => by
    by_cases e' : j = i
    · subst e'; rw [List.getElem?_set_self hi] at h; cases h
    · rw [List.getElem?_set_ne (Ne.symm e')] at h; exact ⟨e', h⟩
  obtain ⟨a, ha, hoa, hm, hg⟩ := o.ow i false false d h
  have na : ¬ Mu G σ (p.env.set i (.sh d)) a := by
    rintro (z | z | ⟨j, l, z, e, h1, h2⟩)
    · exact hm z
    · exact hg z
    · obtain ⟨hj, h1⟩ := own' h1
      exact hj (o.inj _ _ _ _ _ _ _ _ _ h1 h h2 ha)
  have mu : ∀ b, Mu G σ (p.env.set i (.sh d)) b → Mu G σ p.env b := fun b z => by
    rcases z with z | z | ⟨j, l, z, e, h1, h2⟩
    · exact .inl z
    · exact .inr (.inl z)
    · exact .inr (.inr ⟨j, l, z, e, (own' h1).2, h2⟩)
  have keep : ∀ {w : V} {e : D}, Rep K (Mu G σ p.env) H w e → Rep K (Mu G σ (p.env.set i (.sh d))) H w e := fun r => Rep.mono K (fun _ _ e _ => e) (fun b z => .inl (mu b z)) r
  refine ⟨fun _ _ e _ => e, fun _ e => e, fun b z => ?_, fun b z => .inl (mu b z), fun j z e hj => ?_, fun j l e hj => ?_, ⟨by simpa using o.len, fun j e hj => ?_, fun j l z e hj => ?_, fun j j' l z e l' z' e' b h1 h2 h3 h4 => ?_, fun j hj => ?_, o.mx, o.ga⟩⟩
  · rcases z with z | ⟨j, l, e, h1, h2⟩
    · exact .inl (.inl z)
    · exact .inl (.inr ⟨j, l, e, (own' h1).2, h2⟩)
  · have hne : j ≠ i := fun e' => by subst e'; rw [h] at hj; cases hj
    exact ⟨z, e, by rw [List.getElem?_set_ne (Ne.symm hne)]; exact hj, rfl⟩
  · have hne : j ≠ i := fun e' => by subst e'; rw [h] at hj; cases hj
    exact ⟨e, by rw [List.getElem?_set_ne (Ne.symm hne)]; exact hj, rfl⟩
  · have hj : (p.env.set i (.sh d))[j]? = some (.sh e) := hj
    by_cases e' : j = i
    · subst e'
      rw [List.getElem?_set_self hi] at hj; cases hj
      exact ⟨_, ha, hoa.rep na mu hpl⟩
    · rw [List.getElem?_set_ne (Ne.symm e')] at hj
      obtain ⟨w, h1, h2⟩ := o.sh j e hj
      exact ⟨w, h1, keep h2⟩
  · obtain ⟨hne, hj⟩ := own' hj
    obtain ⟨b, h1, h2, h3⟩ := o.ow j l z e hj
    exact ⟨b, h1, h2.mono (fun _ _ e _ => e) (fun b z => .inl (mu b z)) (fun _ e => e), h3⟩
  · exact o.inj _ _ _ _ _ _ _ _ _ (own' h1).2 (own' h2).2 h3 h4
  · have hj : (p.env.set i (.sh d))[j]? = some .src := hj
    by_cases e' : j = i
    · subst e'; rw [List.getElem?_set_self hi] at hj; cases hj
    · rw [List.getElem?_set_ne (Ne.symm e')] at hj
      exact o.sr j hj
theorem vb_frz (i : Nat) {sts : List Stmt} {a : SDn} (h : VB s T sts a) : VB s T sts (sFrz i a) := fun X W c tk => PSs.of (h X W c tk) fun D σ H h => by
  obtain ⟨G, p, o, h⟩ := h
  unfold sFrz at h
  split at h
  · rename_i d e
    by_cases hpl : d.plain = true
    · rw [if_pos hpl] at h
      exact ⟨G, _, (o.frz e hpl).ok, PostS.from (o.frz e hpl) h⟩
    · rw [if_neg hpl] at h; exact h.elim
  · exact h.elim

/-! #### stores -/
def asgn (i : Nat) (v : Rv) (p : PS) : Out := match v with
  | .sh d => match setSl i (.sh d) p.env with
    | some e => .nx ⟨e, p.src⟩
    | none => .bad
  | .ow d => match setSl i (.own false false d) p.env with
    | some e => .nx ⟨e, p.src⟩
    | none => .bad
  | _ => .bad
def sAsg (i : Nat) (da : Dn) : SDn := fun p => onR (da p) fun v p1 => asgn i v p1
theorem asgn_run {K : PySem.W.Frag} {cl : Nat → Addr} {W : WX} {G : Gh} {σ : L2.St} {H0 H : Hp} {p0 p : PS} {D : Ends} {i : Nat} {v : Rv} {u : V} (s : StpE K G σ p0 H0 p H) (r : RvOk K G σ p H0 H u v) (h : PostS K cl W G σ H0 p0 D (asgn i v p)) : D.nx (σ.set i (some u)) H := by
  cases v with
  | sh d =>
    unfold asgn at h
    cases e : setSl i (.sh d) p.env with
    | none => simp only [e] at h; exact h.elim
    | some env' =>
      simp only [e] at h
      exact h _ _ (s.1.trans (s.ok.put e r))
  | ow d =>
    unfold asgn at h
    obtain ⟨_, a, rfl, h1, h2, h3, h4⟩ := r
    cases e : setSl i (.own false false d) p.env with
    | none => simp only [e] at h; exact h.elim
    | some env' =>
      simp only [e] at h
      obtain ⟨k1, k2, k3, k4, k5⟩ := h4.putOw h2 e h3
      refine h _ _ ⟨s.1.fr, s.1.dom, fun b z => ?_, fun b z => ?_, fun j z d hj => ?_, fun j l d hj => ?_, k1⟩
      · rcases k3 b z with z | rfl
        · exact s.1.lm b z
        · exact .inr h1
      · rcases k2 b z with z | rfl
        · exact s.1.mu b z
        · exact .inr h1
      · obtain ⟨d', hj⟩ := s.2.own hj
        exact k4 j z d' hj
      · obtain ⟨d', hj⟩ := s.2.own hj
        exact k5 j l d' hj
  | bo j => exact h.elim
  | sr => exact h.elim
theorem vs_set (i : Nat) {x : Str} {e : Expr} {da : Dn} {q : Pos} (hN : s.N[i]? = some x) (hl : locB s x = true) (he : VE s T e da) (hs : ∀ env, swapsWith e (some (.Name x q)) pos.line env = pure false := by intro _; rfl) : VS s T (.Assign [.Name x q] e pos) (sAsg i da) := fun X W c tk => by
  obtain ⟨h1, h2⟩ := loc_of c.1 hl
  refine PSt.of (ps_set (i := i) (by rw [c.1.N]; exact c.1.nd) (by rw [c.1.N]; exact hN) h1 (he X W c.1 tk) (hs _) h2) fun D σ H h => ?_
  obtain ⟨G, p, o, h⟩ := h
  refine ⟨G, p, o, ?_⟩
  unfold sAsg at h
  cases e2 : da p with
  | bad => rw [e2] at h; exact h.elim
  | exc c q => rw [e2] at h; exact fun H1 s => h σ H1 s.1
  | ok v p1 =>
    rw [e2] at h
    intro u H1 s1 r1
    exact asgn_run s1 r1 h
/-- a, b = e -/
def sAsgT (g : Tgd) (da : Dn) : SDn := fun p => onR (da p) fun v p1 => match v.soft with
  | .sh d => match g d p1.env with
    | some e => .nx ⟨e, p1.src⟩
    | none => .bad
  | _ => .bad
theorem vs_tgt {tg e : Expr} {is : List Nat} {g : Tgd} {da : Dn} (hg : VG s T tg is g) (he : VE s T e da) (hs : ∀ env, swapsWithSole [tg] e pos.line env = pure false := by intro _; rfl) (hw : ∀ env : Env, env.scope = s.sc → swappedStores [tg] e env = pure none := by intro _ _; rfl)
    (h1 : ∀ env, (assignEach [tg] env).map (·.2) = [assign tg env] := by intro _; rfl) : VS s T (.Assign [tg] e pos) (sAsgT g da) := fun X W c tk => by
  refine PSt.of (ps_asg (he X W c.1 tk) (hg X c.1) (hs _) (hw _ c.1.sc) (h1 _)) fun D σ H h => ?_
  obtain ⟨G, p, o, h⟩ := h
  refine ts_bind o h fun v p1 u H1 s1 r1 h => ?_
  have r2 := r1.soft
  cases e1 : v.soft with
  | sh d =>
    rw [e1] at h r2
    simp only at h
    cases e2 : g d p1.env with
    | none => rw [e2] at h; exact h.elim
    | some env' =>
      rw [e2] at h
      exact ⟨G, p1, d, env', s1.ok, r2, e2, fun σ' s2 _ _ => h σ' H1 s2⟩
  | ow d => rw [e1] at h; exact h.elim
  | bo i => rw [e1] at h; exact h.elim
  | sr => rw [e1] at h; exact h.elim
/-! #### return, if, expression, pass -/
def sRet (da : Dn) : SDn := fun p => onR (da p) fun v p1 => .rt v p1
theorem vs_ret {e : Expr} {da : Dn} (he : VE s T e da) : VS s T (.Return (some e) pos) (sRet da) := fun X W c tk => PSt.of (ps_ret (he X W c.1 tk)) fun D σ H h => by
  obtain ⟨G, p, o, h⟩ := h
  refine ⟨G, p, o, ?_⟩
  unfold sRet at h
  cases e2 : da p with
  | bad => rw [e2] at h; exact h.elim
  | exc c q => rw [e2] at h; exact fun H1 s => h σ H1 s.1
  | ok v p1 =>
    rw [e2] at h
    exact fun u H1 s1 r1 => h σ u H1 s1.1 r1
def sRetN : SDn := fun p => .rt (.sh .non) p
theorem vs_retN : VS s T (.Return none pos) sRetN := fun X W c tk => PSt.of ps_retN fun D σ H h => by
  obtain ⟨G, p, o, h⟩ := h
  exact h σ .non H (.refl o) .non
def onBS (x : Rv) (p : PS) (t f : SDn) : Out := match x with
  | .sh (.bl true) => t p
  | .sh (.bl false) => f p
  | _ => .bad
def sIf (dt : Dn) (a b : SDn) : SDn := fun p => onR (dt p) fun v p1 => onBS v p1 a b
theorem onBS_run {K : PySem.W.Frag} {cl : Nat → Addr} {W : WX} {G : Gh} {σ : L2.St} {H0 H : Hp} {p : PS} {D : Ends} {u : V} {x : Rv} {t f : SDn} (r : RvOk K G σ p H0 H u x) (h : PostS K cl W G σ H p D (onBS x p t f)) :
    ∃ b, u = .bl b ∧ PostS K cl W G σ H p D (if b = true then t p else f p) := by
  unfold onBS at h
  split at h
  · cases (show Rep K _ H u (.bl true) from r)
    exact ⟨true, rfl, by rw [if_pos rfl]; exact h⟩
  · cases (show Rep K _ H u (.bl false) from r)
    exact ⟨false, rfl, by rw [if_neg Bool.false_ne_true]; exact h⟩
  · exact h.elim
theorem vs_if {c : Expr} {a b : List Stmt} {dt : Dn} {da db : SDn} (hc : VT s T c dt) (ha : VB s T a da) (hb : VB s T b db) : VS s T (.If c a b pos) (sIf dt da db) := fun X W cx tk => PSt.of (ps_if (hc X W cx.1 tk) (ha X W cx tk) (hb X W cx tk)) fun D σ H h => by
  obtain ⟨G, p, o, h⟩ := h
  refine ts_bind o h fun v p1 u H1 s1 r1 h => ?_
  obtain ⟨b, rfl, h⟩ := onBS_run r1 h
  refine ⟨b, rfl, ?_⟩
  cases b <;> exact ⟨G, p1, s1.ok, h⟩
def sExp (da : Dn) : SDn := fun p => onR (da p) fun v p1 => .nx p1
theorem vs_exp {e : Expr} {da : Dn} (he : VE s T e da) (hs : ∀ env, swapsWith e none pos.line env = pure false := by intro _; rfl) : VS s T (.Expr e pos) (sExp da) := fun X W c tk => PSt.of (ps_expr (he X W c.1 tk) (hs _)) fun D σ H h => by
  obtain ⟨G, p, o, h⟩ := h
  refine ts_bind o h fun v p1 u H1 s1 r1 h => ?_
  exact h σ H1 (.refl s1.ok)
theorem vs_doc {x : Str} {j : Nat} {q : Pos} : VS s T (.Expr (.Constant (.str x) j q) pos) sNil := fun X W c tk => PSt.of ps_doc fun D σ H h => by
  obtain ⟨G, p, o, h⟩ := h
  exact h σ H (.refl o)
theorem vs_pass : VS s T (.Pass pos) sNil := fun X W c tk => PSt.of ps_pass fun D σ H h => by
  obtain ⟨G, p, o, h⟩ := h
  exact h σ H (.refl o)
def sBrk : SDn := fun p => .bk p
def sCnt : SDn := fun p => .ct p
theorem vs_brk : VS s T (.Break pos) sBrk := fun X W c tk => PSt.of ps_break fun D σ H h => by
  obtain ⟨G, p, o, h⟩ := h
  exact h σ H (.refl o)
theorem vs_cnt : VS s T (.Continue pos) sCnt := fun X W c tk => PSt.of ps_continue fun D σ H h => by
  obtain ⟨G, p, o, h⟩ := h
  exact h σ H (.refl o)
def sBad : SDn := fun _ => .bad
/-- a statement that is not reached -/
theorem vs_never {st : Stmt} : VS s T st sBad := fun X W c tk => PSt.of ps_never fun D σ H h => by
  obtain ⟨G, p, o, h⟩ := h
  exact h.elim
end
end Py
set_option maxRecDepth 100000
namespace Py
open PySem PySem.Spec PyProof.Rows L2

section
variable {K : PySem.W.Frag} {G : Gh} {σ σ' : L2.St} {H H' : Hp} {p p' : PS} {a : Addr} {d d' : D} {i : Nat} {l : Bool}
theorem sameE_set {env : List Sl} {z : Bool} (h : env[i]? = some (.own l z d)) : SameE env (env.set i (.own l z d')) := by
  have hi : i < env.length := (List.getElem?_eq_some_iff.mp h).1
  refine ⟨by simp, fun j x e => ?_⟩
  by_cases hj : j = i
  · subst hj
    rw [h] at e; cases e
    exact ⟨_, List.getElem?_set_self hi, rfl, rfl⟩
  · exact ⟨x, by rw [List.getElem?_set_ne (Ne.symm hj)]; exact e, Same1.refl x⟩
/-- the object of a slot is written -/
theorem Ok.wr {ob : HO} (o : Ok K G σ H p) (h : p.env[i]? = some (.own l false d)) (ha : σ[i]? = some (some (.ref a))) (hob : OwnAt K (Mu G σ p.env) (upd H a ob) a d') : StpE K G σ p H ⟨p.env.set i (.own l false d'), p.src⟩ (upd H a ob) := by
  obtain ⟨b, hb, hoa, hm, hg⟩ := o.ow i l false d h
  rw [ha] at hb; cases hb
  have hmu : Mu G σ p.env a := .inr (.inr ⟨i, l, false, d, h, ha⟩)
  have se : SameE p.env (p.env.set i (.own l false d')) := sameE_set h
  have keep : ∀ b ob', H b = some ob' → ¬ Mu G σ p.env b → (upd H a ob) b = some ob' := fun b ob' e n => by rw [upd_ne (fun z : b = a => n (by rw [z]; exact hmu))]; exact e
  have hi : i < p.env.length := (List.getElem?_eq_some_iff.mp h).1
  have muE : Mu G σ (p.env.set i (.own l false d')) = Mu G σ p.env := se.mu
  have old : ∀ {j : Nat} {l' z : Bool} {e : D}, (p.env.set i (.own l false d'))[j]? = some (.own l' z e) → (j = i ∧ l' = l ∧ z = false ∧ e = d') ∨ (j ≠ i ∧ p.env[j]? = some (.own l' z e)) := fun {j l' z e} h2 => by
    by_cases hj : j = i
    · subst hj; rw [List.getElem?_set_self hi] at h2; cases h2; exact .inl ⟨rfl, rfl, rfl, rfl⟩
    · rw [List.getElem?_set_ne (Ne.symm hj)] at h2; exact .inr ⟨hj, h2⟩
  refine .mk' ⟨by simpa using o.len, fun j e h2 => ?_, fun j l' z e h2 => ?_, fun j j' l' z e l2 z' e' b h1 h2 h3 h4 => ?_, fun j h2 => ?_, fun b z => ?_, fun q e => ?_⟩ se (fun b ob' e n => ?_) fun b h2 => ?_
  · have h2 : (p.env.set i (.own l false d'))[j]? = some (.sh e) := h2
    show ∃ v, _ ∧ Rep K (Mu G σ (p.env.set i (.own l false d'))) (upd H a ob) v e
    rw [muE]
    by_cases hj : j = i
    · subst hj; rw [List.getElem?_set_self hi] at h2; cases h2
    · rw [List.getElem?_set_ne (Ne.symm hj)] at h2
      obtain ⟨v, h3, h4⟩ := o.sh j e h2
      exact ⟨v, h3, Rep.mono K keep (fun _ z => .inl z) h4⟩
  · show ∃ b, _ ∧ OwnAt K (Mu G σ (p.env.set i (.own l false d'))) (upd H a ob) b e ∧ _
    rw [muE]
    rcases old h2 with ⟨rfl, rfl, rfl, rfl⟩ | ⟨hj, h2⟩
    · exact ⟨a, ha, hob, hm, hg⟩
    · obtain ⟨b, h3, h4, h5⟩ := o.ow j l' z e h2
      have hne : b ≠ a := fun e' => by
        subst e'
        exact hj (o.inj _ _ _ _ _ _ _ _ _ h2 h h3 ha)
      exact ⟨b, h3, h4.mono keep (fun _ z => .inl z) (fun _ e => by rw [upd_ne hne]; exact e), h5⟩
  · rcases old h1 with ⟨rfl, _⟩ | ⟨hj, k1⟩
    · rcases old h2 with ⟨rfl, _⟩ | ⟨hj', k2⟩
      · rfl
      · exact o.inj _ _ _ _ _ _ _ _ _ h k2 h3 h4
    · rcases old h2 with ⟨rfl, _⟩ | ⟨hj', k2⟩
      · exact o.inj _ _ _ _ _ _ _ _ _ k1 h h3 h4
      · exact o.inj _ _ _ _ _ _ _ _ _ k1 k2 h3 h4
  · have h2 : (p.env.set i (.own l false d'))[j]? = some .src := h2
    by_cases hj : j = i
    · subst hj; rw [List.getElem?_set_self hi] at h2; cases h2
    · rw [List.getElem?_set_ne (Ne.symm hj)] at h2; exact o.sr j h2
  · by_cases e : b = a
    · subst e; rw [upd_same]; simp
    · rw [upd_ne e]; exact o.mx b z
  · obtain ⟨g1, g2, g3, g4, g5⟩ := o.ga q e
    exact ⟨g1, by rw [upd_ne (fun z => hg ⟨q, e, .inl z.symm⟩)]; exact g2, by rw [upd_ne (fun z => hg ⟨q, e, .inr z.symm⟩)]; exact g3, g4, g5⟩
  · rw [upd_ne (fun z : b = a => n (by rw [z]; exact .inr ⟨i, l, d, h, ha⟩))]; exact e
  · by_cases e : b = a
    · subst e; rw [upd_same] at h2; cases h2
    · rw [upd_ne e] at h2; exact h2
end

section
variable {s : Sx} {T : Tab} {pos : Pos}
/-! #### xs.append(e) -/
def appS (i : Nat) (v : Rv) (p : PS) : Out := match v.soft with
  | .sh d => match p.env[i]? with
    | some (.own l false (.lst ds)) => if ds.length < 16777216 then .nx ⟨p.env.set i (.own l false (.lst (ds ++ [d]))), p.src⟩ else .bad
    | _ => .bad
  | _ => .bad
def sApp (i : Nat) (de : Dn) : SDn := fun p => match p.env[i]? with
  | some (.own _ false (.lst _)) => onR (de p) fun v p1 => appS i v p1
  | _ => .bad
theorem vs_app (i : Nat) {x : Str} {e : Expr} {de : Dn} {q apos cpos : Pos} (hN : s.N[i]? = some x) (hv : visB s.sc x = true) (he : VE s T e de) (hd : (x == ("__debug__" : Str)) = false := by decide) (hcd : (x == ("__classdict__" : Str)) = false := by decide)
    (hbase : ∀ env, attributeBase (.Name x q) "append" env (eval (.Name x q) env) = eval (.Name x q) env := by intro _; rfl)
    (hfew : ∀ env, ((backTo cpos (starEach [e] env)).all (fun x => !x.1) && (backToKw cpos (keywordEach [] env)).all (fun x => x.1.isSome) && decide (([e] : List Expr).length + ([] : List Keyword).length + (if ([] : List Keyword).isEmpty then 0 else 1) < 30)) = true := by intro _; rfl)
    (hline : (apos.endLine == cpos.line) = true := by rfl) (hs : ∀ env, starEach [e] env = (false, eval e env) :: starEach [] env := by intro _; rfl) :
    VS s T (.Expr (.Call (.Attribute (.Name x q) "append" apos) [e] [] cpos) pos) (sApp i de) := fun X W c tk => by
  refine PSt.of (ps_expr (pe_bm PySem.F.plainAttrs_list PySem.F.slot_list_append PySem.F.type_list_append mt_append (pe_var (i := i) (by rw [c.1.N]; exact hN) (by rw [c.1.sc]; exact vis_of hv) hd hcd) (pa_cons (he X W c.1 tk) pa_nil (hs _)) (hbase _) (hfew _) hline (hs _) (by rfl)) (by rfl)) fun D σ H h => ?_
  obtain ⟨G, p, o, h⟩ := h
  unfold sApp at h
  split at h
  · rename_i l ds e1
    obtain ⟨a, ha, ⟨xs, hx, rx⟩, _⟩ := o.ow i l false _ e1
    refine ⟨.ref a, ha, .inl ⟨rfl, xs, .inl (.inl hx)⟩, ?_⟩
    refine ts_bind o h fun v p1 u H1 s1 r1 h => ?_
    unfold appS at h
    have r2 := r1.soft
    cases es : v.soft with
    | sh d =>
      rw [es] at h r2
      simp only at h
      split at h
      · rename_i l' ds' e2
        split at h
        · rename_i hl
          obtain ⟨a', ha', ⟨xs', hx', rx'⟩, _⟩ := s1.ok.ow i l' false _ e2
          rw [ha] at ha'; cases ha'
          refine ⟨a, xs', u, rfl, rfl, hx', by rw [rx'.length, sizeLine_eq]; exact hl, ?_⟩
          have hmu : Mu G σ p1.env a := .inr (.inr ⟨i, l', false, _, e2, ha⟩)
          have keep : ∀ b ob, H1 b = some ob → ¬ Mu G σ p1.env b → (upd H1 a (.lst (xs' ++ [u]))) b = some ob := fun b ob e n => by rw [upd_ne (fun z : b = a => n (by rw [z]; exact hmu))]; exact e
          have r2 : Rep X.K (Mu G σ p1.env) H1 u d := r2
          have ow : OwnAt X.K (Mu G σ p1.env) (upd H1 a (.lst (xs' ++ [u]))) a (.lst (ds' ++ [d])) := ⟨_, upd_same, (RepL.mono X.K keep (fun _ z => .inl z) rx').snoc (Rep.mono X.K keep (fun _ z => .inl z) r2)⟩
          exact h σ _ (s1.ok.wr e2 ha ow).1
        · exact h.elim
      · exact h.elim
    | ow d => rw [es] at h; exact h.elim
    | bo j => rw [es] at h; exact h.elim
    | sr => rw [es] at h; exact h.elim
  · exact h.elim
/-! #### xs[k] = e -/
def putS (i : Nat) (v k : Rv) (p : PS) : Out := match v.soft, k with
  | .sh d, .sh (.int j) => match p.env[i]? with
    | some (.own l false (.lst ds)) => match ixN ds.length j with
      | some n => .nx ⟨p.env.set i (.own l false (.lst (ds.set n d))), p.src⟩
      | none => .bad
    | _ => .bad
  | _, _ => .bad
def sPut (i : Nat) (dk de : Dn) : SDn := fun p => onR (de p) fun v p1 => match p1.env[i]? with
  | some (.own _ false (.lst _)) => onR (dk p1) fun k p2 => putS i v k p2
  | _ => .bad
theorem vs_put (i : Nat) {x : Str} {e k : Expr} {de dk : Dn} {q q2 : Pos} (hN : s.N[i]? = some x) (hv : visB s.sc x = true) (hk : VE s T k dk) (he : VE s T e de) (hd : (x == ("__debug__" : Str)) = false := by decide) (hcd : (x == ("__classdict__" : Str)) = false := by decide)
    (hs : ∀ env, swapsWithSole [.Subscript (.Name x q) k q2] e pos.line env = pure false := by intro _; rfl) (hw : ∀ env, swappedStores [.Subscript (.Name x q) k q2] e env = pure none := by intro _; rfl)
    (h1 : ∀ env, (assignEach [.Subscript (.Name x q) k q2] env).map (·.2) = [assign (.Subscript (.Name x q) k q2) env] := by intro _; rfl)
    (hg : ∀ env v, assign (.Subscript (.Name x q) k q2) env v = (do
      let ov ← holding [v] (eval (.Name x q) env)
      let iv ← holding [v, ov] (eval k env)
      standAt q2
      holding [v, ov, iv] (setItem ov iv v)
      release [v, ov, iv] []) := by intro _ _; rfl) : VS s T (.Assign [.Subscript (.Name x q) k q2] e pos) (sPut i dk de) := fun X W c tk => by
  refine PSt.of (ps_asg (he X W c.1 tk) (pg_sub (pe_var (i := i) (by rw [c.1.N]; exact hN) (by rw [c.1.sc]; exact vis_of hv) hd hcd) (hk X W c.1 tk) set_list (hg _)) (hs _) (hw _) (h1 _)) fun D σ H h => ?_
  obtain ⟨G, p, o, h⟩ := h
  refine ts_bind o h fun v p1 u H1 s1 r1 h => ?_
  split at h
  · rename_i l ds e1
    obtain ⟨a, ha, ⟨xs, hx, rx⟩, _⟩ := s1.ok.ow i l false _ e1
    refine ⟨.ref a, ha, ?_⟩
    refine ts_bind s1.ok h fun w p2 y H2 s2 r2 h => ?_
    unfold putS at h
    have r3 := r1.soft.step s2
    cases es : v.soft with
    | sh d =>
      rw [es] at h r3
      split at h
      · rename_i d' j' e4
        cases e4
        split at h
        · rename_i l' ds' e2
          split at h
          · rename_i n en
            obtain ⟨a', ha', ⟨xs', hx', rx'⟩, _⟩ := s2.ok.ow i l' false _ e2
            rw [ha] at ha'; cases ha'
            cases (show Rep X.K _ H2 y (.int _) from r2)
            refine ⟨a, xs', _, n, rfl, rfl, hx', by rw [rx'.length]; exact en, ?_⟩
            have hmu : Mu G σ p2.env a := .inr (.inr ⟨i, l', false, _, e2, ha⟩)
            have keep : ∀ b ob, H2 b = some ob → ¬ Mu G σ p2.env b → (upd H2 a (.lst (xs'.set n u))) b = some ob := fun b ob e n => by rw [upd_ne (fun z : b = a => n (by rw [z]; exact hmu))]; exact e
            have r3 : Rep X.K (Mu G σ p2.env) H2 u d := r3
            have ow : OwnAt X.K (Mu G σ p2.env) (upd H2 a (.lst (xs'.set n u))) a (.lst (ds'.set n d)) := ⟨_, upd_same, RepL.set (Rep.mono X.K keep (fun _ z => .inl z) r3) n (RepL.mono X.K keep (fun _ z => .inl z) rx')⟩
            exact h σ _ (s2.ok.wr e2 ha ow).1
          · exact h.elim
        · exact h.elim
      · exact h.elim
    | ow d => rw [es] at h; exact h.elim
    | bo j => rw [es] at h; exact h.elim
    | sr => rw [es] at h; exact h.elim
  · exact h.elim
/-! #### y = [..] -/
theorem sw_cell {elt : Expr} {gs : List Comprehension} {scope : Scope} {pos py : Pos} {y : Str} {l : Nat} {env : Env} (hy : env.scope.names.lookup y = some .cell) : swapsWith (.ListComp elt gs scope pos) (some (.Name y py)) l env = pure false := by
  have ky : env.kindOf y = some .cell := hy
  unfold swapsWith
  simp only [ky]
  have e : (some NameKind.cell == some NameKind.local) = false := by decide
  rw [e, Bool.and_false, Bool.false_and, Bool.false_and]
theorem vs_setC (i : Nat) {x : Str} {e : Expr} {da : Dn} {q : Pos} (hN : s.N[i]? = some x) (hl : locB s x = true) (he : VE s T e da) (hs : ∀ env : Env, env.scope = s.sc → swapsWith e (some (.Name x q)) pos.line env = pure false) : VS s T (.Assign [.Name x q] e pos) (sAsg i da) := fun X W c tk => by
  obtain ⟨h1, h2⟩ := loc_of c.1 hl
  refine PSt.of (ps_set (i := i) (by rw [c.1.N]; exact c.1.nd) (by rw [c.1.N]; exact hN) h1 (he X W c.1 tk) (hs _ c.1.sc) h2) fun D σ H h => ?_
  obtain ⟨G, p, o, h⟩ := h
  refine ⟨G, p, o, ?_⟩
  unfold sAsg at h
  cases e2 : da p with
  | bad => rw [e2] at h; exact h.elim
  | exc c q => rw [e2] at h; exact fun H1 s => h σ H1 s.1
  | ok v p1 =>
    rw [e2] at h
    intro u H1 s1 r1
    exact asgn_run s1 r1 h
theorem vs_setLc (i : Nat) {x : Str} {q : Pos} {elt tg iter : Expr} {ifs : List Expr} {scope : Scope} {own : List (Str × Nat)} {is : List Nat} {di : PS → R Iv} {g : Tgd} {dt de : Dn} {lpos : Pos} (hN : s.N[i]? = some x) (hx : s.sc.names.lookup x = some .local) (hk : s.sc.kind = .function) (hline : (q.line == lpos.line) = true) (hnot : (scope.names.any fun (n, k) => n == x && (k == .local || k == .cell)) = false)
    (hi : VI s T tg iter di) (hb : blkC s.N s.sc scope own = true) (hg : VG (blkS s scope) T tg is g) (ht : VTs (blkS s scope) T ifs dt) (he : VE (blkS s scope) T elt de)
    (hsub : ∀ i ∈ is, i ∈ own.map (·.2)) (hgood : GoodG g) (hs : ∀ env x, foldedSetIterable iter env x = pure x := by intro _ _; rfl) : VS s T (.Assign [.Name x q] (.ListComp elt [⟨tg, iter, ifs, 0⟩] scope lpos) pos) (sAsg i (dComp (own.map (·.2)) di g dt de)) := fun X W c tk => by
  have hxl : X.env.scope.names.lookup x = some .local := by rw [c.1.sc]; exact hx
  refine PSt.of (ps_setLc (i := i) (own := own) (wi := tI X.K (clK X.K) W di) (g := tG X.K is g) (tt := tB (tE X.K (clK X.K) W0 dt)) (te := tE X.K (clK X.K) W0 de) c.1.calm (by rw [c.1.N]; exact c.1.nd) (by rw [c.1.N]; exact hN) hxl (sw_true (by rw [c.1.sc]; exact hk) hxl hline hnot) (hi X W c.1 tk) (by rw [c.1.N, c.1.sc]; exact blkOk_by hb) (fun st H C cl fp => hg _ (c.1.blk st H scope C cl fp)) (fun st H C cl fp => ht _ W0 (c.1.blk st H scope C cl fp) takes0) (fun st H C cl fp => he _ W0 (c.1.blk st H scope C cl fp) takes0) (hs X.env)) fun D σ H h => ?_
  refine lc_imp (cl := clK X.K) (W := W) hsub hgood ?_
  obtain ⟨G, p, o, h⟩ := h
  refine ⟨G, p, o, ?_⟩
  unfold sAsg at h
  cases e2 : dComp (own.map (·.2)) di g dt de p with
  | bad => rw [e2] at h; exact h.elim
  | exc c q => rw [e2] at h; exact fun H1 s => h σ H1 s.1
  | ok v p1 =>
    rw [e2] at h
    intro u H1 s1 r1
    exact asgn_run s1 r1 h
/-! #### a, b = e1, e2 -/
theorem more_swap {K : PySem.W.Frag} {G : Gh} {σ : L2.St} {H : Hp} {p : PS} {a b : Addr} (o : Ok K ((G.more a).more b) σ H p) : Ok K ((G.more b).more a) σ H p :=
  o.less rfl fun c z => by
    rcases z with (z | z) | z
    · exact .inl (.inl z)
    · exact .inr z
    · exact .inl (.inr z)
def asgn2 (i j : Nat) (v w : Rv) (p : PS) : Out := (asgn i v p).bind fun p1 => asgn j w p1
/-- the first one may be an object of one's own, the second is shared; and the other way round -/
def sParA (i j : Nat) (da db : Dn) : SDn := fun p => onR (da p) fun v p1 => onR (db p1) fun w p2 => asgn2 i j v w.soft p2
def sParB (i j : Nat) (da db : Dn) : SDn := fun p => onR (da p) fun v p1 => onR (db p1) fun w p2 => asgn2 i j v.soft w p2
theorem asgn_st {K : PySem.W.Frag} {G : Gh} {σ : L2.St} {H : Hp} {p p' : PS} {i : Nat} {d : D} {u : V} (o : Ok K G σ H p) (r : Rep K (Mu G σ p.env) H u d) (h : asgn i (.sh d) p = .nx p') : Stp K G σ p H (σ.set i (some u)) p' H := by
  unfold asgn at h
  cases e : setSl i (.sh d) p.env with
  | none => simp only [e] at h; cases h
  | some env' => simp only [e] at h; cases h; exact o.put e r
theorem asgn_ow {K : PySem.W.Frag} {G : Gh} {σ : L2.St} {H0 H : Hp} {p0 p p' : PS} {σ0 : L2.St} {i : Nat} {d : D} {a : Addr} (s : Stp K G σ0 p0 H0 σ p H) (h1 : H0 a = none) (h2 : ¬ Mu G σ p.env a) (h3 : OwnAt K (Mu (G.more a) σ p.env) H a d) (h4 : Ok K (G.more a) σ H p) (h : asgn i (.ow d) p = .nx p') : Stp K G σ0 p0 H0 (σ.set i (some (.ref a))) p' H := by
  unfold asgn at h
  cases e : setSl i (.own false false d) p.env with
  | none => simp only [e] at h; cases h
  | some env' =>
    simp only [e] at h; cases h
    obtain ⟨k1, k2, k3, k4, k5⟩ := h4.putOw h2 e h3
    refine ⟨s.fr, s.dom, fun b z => ?_, fun b z => ?_, fun j z d hj => ?_, fun j l d hj => ?_, k1⟩
    · rcases k3 b z with z | rfl
      · exact s.lm b z
      · exact .inr h1
    · rcases k2 b z with z | rfl
      · exact s.mu b z
      · exact .inr h1
    · obtain ⟨z', d', hj, e1⟩ := s.lent j z d hj
      obtain ⟨z2, d2, hj2, e2⟩ := k4 j z' d' hj
      exact ⟨z2, d2, hj2, e2.trans e1⟩
    · obtain ⟨d', hj, e1⟩ := s.lk j l d hj
      obtain ⟨d2, hj2, e2⟩ := k5 j l d' hj
      exact ⟨d2, hj2, e2.trans e1⟩
end
end Py
set_option maxRecDepth 100000
namespace Py
open PySem PySem.Spec PyProof.Rows L2
section
variable {K : PySem.W.Frag} {cl : Nat → Addr} {W : WX} {G : Gh} {σ σ' : L2.St} {H H' : Hp} {p p' : PS}
theorem Stp.lessM {b : Addr} (s : Stp K (G.more b) σ p H σ' p' H') (h1 : ¬ G.mx b) (h2 : ¬ gaA G b) : Stp K G σ p H σ' p' H' where
  fr := s.fr
  dom := s.dom
  lm := s.lm
  mu := fun a z => by
    have zz : Mu (G.more b) σ' p'.env a := mu_more.mpr (.inl z)
    rcases s.mu a zz with q | q
    · rcases mu_more.mp q with q | rfl
      · exact .inl q
      · exfalso
        rcases z with z | z | ⟨i, l, zz, d, h3, h4⟩
        · exact h1 z
        · exact h2 z
        · obtain ⟨c, g1, _, g3, _⟩ := s.ok.ow i l zz d h3
          rw [h4] at g1; cases g1
          exact g3 (.inr rfl)
    · exact .inr q
  lent := s.lent
  lk := s.lk
  ok := s.ok.less rfl fun a z => .inl z
/-- the address of a result -/
theorem nLm {b : Addr} (o : Ok K (G.more b) σ H p) : ¬ Lm G σ p.env b := by
  rintro (⟨q, e, z⟩ | ⟨i, l, d, h1, h2⟩)
  · obtain ⟨_, _, _, g4, g5⟩ := o.ga q e
    rcases z with z | z
    · exact g4 (.inr z.symm)
    · exact g5 (.inr z.symm)
  · obtain ⟨c, g1, _, g3, _⟩ := o.ow i l false d h1
    rw [h2] at g1; cases g1
    exact g3 (.inr rfl)
end
section
variable {K : PySem.W.Frag} {cl : Nat → Addr} {W : WX} {G : Gh} {σ σ' : L2.St} {H H' : Hp} {p p' : PS} {D : Ends}
theorem ts_bindK {da : Dn} {f : Rv → PS → Out} {Q' : VK} (o : Ok K G σ H p) (h : PostS K cl W G σ H p D (onR (da p) f)) (k : ∀ v p1 u H1, StpE K G σ p H p1 H1 → RvOk K G σ p1 H H1 u v → PostS K cl W G σ H p D (f v p1) → Q' u H1) : tE K cl W da σ H Q' := by
  refine ⟨G, p, o, ?_⟩
  cases e : da p with
  | ok v p1 =>
    rw [e] at h
    exact fun u H1 s r => k v p1 u H1 s r h
  | exc c p1 => rw [e] at h; exact fun H1 s => h σ H1 s.1
  | bad => rw [e] at h; exact h.elim
theorem asgn_cases {i : Nat} {v : Rv} (h : PostS K cl W G σ H p' D (asgn i v p)) : ∃ p1, asgn i v p = .nx p1 := by
  cases v with
  | sh d =>
    unfold asgn at h ⊢
    cases e : setSl i (.sh d) p.env with
    | none => simp only [e] at h; exact h.elim
    | some e' => exact ⟨⟨e', p.src⟩, by simp only [e]⟩
  | ow d =>
    unfold asgn at h ⊢
    cases e : setSl i (.own false false d) p.env with
    | none => simp only [e] at h; exact h.elim
    | some e' => exact ⟨⟨e', p.src⟩, by simp only [e]⟩
  | bo j => exact h.elim
  | sr => exact h.elim
theorem asgn2_cases {i j : Nat} {v w : Rv} (h : PostS K cl W G σ H p' D (asgn2 i j v w p)) : ∃ p1 p2, asgn i v p = .nx p1 ∧ asgn j w p1 = .nx p2 ∧ PostS K cl W G σ H p' D (.nx p2) := by
  unfold asgn2 at h
  cases e : asgn i v p with
  | nx p1 =>
    rw [e] at h
    simp only [Out.bind_nx] at h
    obtain ⟨p2, e2⟩ := asgn_cases h
    rw [e2] at h
    exact ⟨p1, p2, rfl, e2, h⟩
  | bad => rw [e] at h; exact h.elim
  | bk q => unfold asgn at e; split at e <;> first | cases e | (split at e <;> cases e)
  | ct q => unfold asgn at e; split at e <;> first | cases e | (split at e <;> cases e)
  | rt v q => unfold asgn at e; split at e <;> first | cases e | (split at e <;> cases e)
  | exc v q => unfold asgn at e; split at e <;> first | cases e | (split at e <;> cases e)
end
section
variable {s : Sx} {T : Tab} {pos : Pos}
theorem vs_parB (i j : Nat) {x y : Str} {a b : Expr} {da db : Dn} {px py pt pt2 : Pos} {kt k2 : Nat} (hi : s.N[i]? = some x) (hj : s.N[j]? = some y) (hij : i ≠ j) (hx : s.sc.names.lookup x = some .local) (hy : s.sc.names.lookup y = some .local) (ha : VE s T a da) (hb : VE s T b db)
    (hw : ∀ env : Env, env.scope = s.sc → swappedStores [.Tuple [.Name x px, .Name y py] kt pt] (.Tuple [a, b] k2 pt2) env = pure (some [x, y]))
    (hs : ∀ env, swapsWithSole [.Tuple [.Name x px, .Name y py] kt pt] (.Tuple [a, b] k2 pt2) pos.line env = pure false := by intro _; rfl)
    (s1 : ∀ env, starEach [a, b] env = (false, eval a env) :: starEach [b] env := by intro _; rfl) (s2 : ∀ env, starEach [b] env = (false, eval b env) :: starEach [] env := by intro _; rfl) :
    VS s T (.Assign [.Tuple [.Name x px, .Name y py] kt pt] (.Tuple [a, b] k2 pt2) pos) (sParB i j da db) := fun X W c tk => by
  refine PSt.of (ps_par (i := i) (j := j) c.1.calm (by rw [c.1.N]; exact c.1.nd) (by rw [c.1.N]; exact hi) (by rw [c.1.N]; exact hj) hij (by rw [c.1.sc]; exact hx) (by rw [c.1.sc]; exact hy) (pa_cons (ha X W c.1 tk) (pa_cons (hb X W c.1 tk) pa_nil (s2 _)) (s1 _)) (hw _ c.1.sc) (hs _)) fun D σ H h => ?_
  obtain ⟨G, p, o, h⟩ := h
  refine ts_bindK o h fun v p1 u H1 s1 r1 h => ?_
  have h : PostS X.K (clK X.K) W G σ H1 p1 D (onR (db p1) fun w p2 => asgn2 i j v.soft w p2) := PostS.from s1.1 h
  refine ts_bindK s1.ok h fun w p2 u2 H2 s2 r2 h => ?_
  refine ⟨u, u2, rfl, ?_⟩
  have r1 := r1.soft
  obtain ⟨p3, p4, e1, e2, hz⟩ := asgn2_cases h
  have hh : ∀ σ' H', Stp X.K G σ p1 H1 σ' p4 H' → D.nx σ' H' := hz
  clear h hz
  cases ev : v.soft with
  | bo k => rw [ev] at e1; unfold asgn at e1; cases e1
  | sr => rw [ev] at e1; unfold asgn at e1; cases e1
  | ow d => cases v <;> simp at ev
  | sh d =>
    rw [ev] at e1 r1
    have ru : Rep X.K (Mu G σ p1.env) H1 u d := r1
    have s3 := asgn_st s2.ok (s2.1.rep ru) e1
    cases w with
    | bo k => unfold asgn at e2; cases e2
    | sr => unfold asgn at e2; cases e2
    | sh e => exact hh _ _ (s2.1.trans (s3.trans (asgn_st s3.ok (s3.rep r2) e2)))
    | ow e =>
      obtain ⟨_, a2, rfl, g1, g2, g3, g4⟩ := r2
      have ru2 : Rep X.K (Mu (G.more a2) σ p2.env) H2 u d := Rep.mono X.K (fun a o e n => s2.1.fr a o e fun z => n z.mu) (fun a z => by
        rcases mu_more.mp z with z | rfl
        · exact s2.1.mu a z
        · exact .inr g1) ru
      have s3' := asgn_st g4 ru2 e1
      refine hh _ _ (asgn_ow (s2.1.trans s3) g1 (fun z => ?_) ?_ s3'.ok e2)
      · rcases s3.mu a2 z with z | z
        · exact g2 z
        · obtain ⟨ob, e⟩ := g3.some_
          rw [e] at z; cases z
      · exact g3.mono (fun _ _ e _ => e) s3'.mu (fun _ e => e)
theorem asgn_owM {K : PySem.W.Frag} {G : Gh} {σ : L2.St} {H : Hp} {p p' : PS} {i : Nat} {d : Py.D} {a : Addr} (h2 : ¬ Mu G σ p.env a) (h3 : OwnAt K (Mu (G.more a) σ p.env) H a d) (h4 : Ok K (G.more a) σ H p) (h : asgn i (.ow d) p = .nx p') : Ok K G (σ.set i (some (.ref a))) H p' ∧ ∀ b, Mu G (σ.set i (some (.ref a))) p'.env b → Mu G σ p.env b ∨ b = a := by
  unfold asgn at h
  cases e : setSl i (.own false false d) p.env with
  | none => simp only [e] at h; cases h
  | some env' =>
    simp only [e] at h; cases h
    obtain ⟨k1, k2, _⟩ := h4.putOw h2 e h3
    exact ⟨k1, k2⟩
theorem vs_parA (i j : Nat) {x y : Str} {a b : Expr} {da db : Dn} {px py pt pt2 : Pos} {kt k2 : Nat} (hi : s.N[i]? = some x) (hj : s.N[j]? = some y) (hij : i ≠ j) (hx : s.sc.names.lookup x = some .local) (hy : s.sc.names.lookup y = some .local) (ha : VE s T a da) (hb : VE s T b db)
    (hw : ∀ env : Env, env.scope = s.sc → swappedStores [.Tuple [.Name x px, .Name y py] kt pt] (.Tuple [a, b] k2 pt2) env = pure (some [x, y]))
    (hs : ∀ env, swapsWithSole [.Tuple [.Name x px, .Name y py] kt pt] (.Tuple [a, b] k2 pt2) pos.line env = pure false := by intro _; rfl)
    (s1 : ∀ env, starEach [a, b] env = (false, eval a env) :: starEach [b] env := by intro _; rfl) (s2 : ∀ env, starEach [b] env = (false, eval b env) :: starEach [] env := by intro _; rfl) :
    VS s T (.Assign [.Tuple [.Name x px, .Name y py] kt pt] (.Tuple [a, b] k2 pt2) pos) (sParA i j da db) := fun X W c tk => by
  refine PSt.of (ps_par (i := i) (j := j) c.1.calm (by rw [c.1.N]; exact c.1.nd) (by rw [c.1.N]; exact hi) (by rw [c.1.N]; exact hj) hij (by rw [c.1.sc]; exact hx) (by rw [c.1.sc]; exact hy) (pa_cons (ha X W c.1 tk) (pa_cons (hb X W c.1 tk) pa_nil (s2 _)) (s1 _)) (hw _ c.1.sc) (hs _)) fun D σ H h => ?_
  obtain ⟨G, p, o, h⟩ := h
  refine ts_bindK o h fun v p1 u H1 s1 r1 h => ?_
  cases v with
  | bo k =>
    refine ts_bindK s1.ok (PostS.from s1.1 h) fun w p2 u2 H2 s2 r2 h => ?_
    obtain ⟨p3, p4, e1, e2, h⟩ := asgn2_cases h
    unfold asgn at e1; cases e1
  | sr =>
    refine ts_bindK s1.ok (PostS.from s1.1 h) fun w p2 u2 H2 s2 r2 h => ?_
    obtain ⟨p3, p4, e1, e2, h⟩ := asgn2_cases h
    unfold asgn at e1; cases e1
  | sh d =>
    have h : PostS X.K (clK X.K) W G σ H1 p1 D (onR (db p1) fun w p2 => asgn2 i j (.sh d) w.soft p2) := PostS.from s1.1 h
    refine ts_bindK s1.ok h fun w p2 u2 H2 s2 r2 h => ?_
    refine ⟨u, u2, rfl, ?_⟩
    have ru : Rep X.K (Mu G σ p1.env) H1 u d := r1
    have r2 := r2.soft
    obtain ⟨p3, p4, e1, e2, h⟩ := asgn2_cases h
    have h : ∀ σ' H', Stp X.K G σ p1 H1 σ' p4 H' → D.nx σ' H' := h
    have s3 := asgn_st s2.ok (s2.1.rep ru) e1
    cases ew : w.soft with
    | bo k => rw [ew] at e2; unfold asgn at e2; cases e2
    | sr => rw [ew] at e2; unfold asgn at e2; cases e2
    | ow d => cases w <;> simp at ew
    | sh e =>
      rw [ew] at e2 r2
      exact h _ _ (s2.1.trans (s3.trans (asgn_st s3.ok (s3.rep r2) e2)))
  | ow d =>
    obtain ⟨_, a1, rfl, f1, f2, f3, f4⟩ := r1
    have nmx : ¬ G.mx a1 := fun z => f2 (.inl z)
    have nga : ¬ gaA G a1 := fun z => f2 (.inr (.inl z))
    refine ⟨G.more a1, p1, f4, ?_⟩
    cases eb : db p1 with
    | bad => rw [eb] at h; exact h.elim
    | exc cc q => rw [eb] at h; exact fun H2 s2 => (h σ H2 (s1.1.trans (s2.1.lessM nmx nga))).from s1.1.dom
    | ok w p2 =>
      rw [eb] at h
      simp only [onR_ok] at h
      intro u2 H2 s2 r2
      refine ⟨.ref a1, u2, rfl, ?_⟩
      have s2G := s2.1.lessM nmx nga
      have f2' : ¬ Mu G σ p2.env a1 := fun z => f2 (by rw [s2.2.mu] at z; exact z)
      have f3' : OwnAt X.K (Mu (G.more a1) σ p2.env) H2 a1 d := f3.mono (fun a o e n => s2.1.fr a o e fun z => n z.mu) s2.1.mu (fun ob e => s2.1.fr a1 ob e fun z => nLm f4 z)
      have r2 := r2.soft
      obtain ⟨p3, p4, e1, e2, h⟩ := asgn2_cases h
      have h : ∀ σ' H', Stp X.K G σ p H σ' p4 H' → D.nx σ' H' := h
      cases ew : w.soft with
      | bo k => rw [ew] at e2; unfold asgn at e2; cases e2
      | sr => rw [ew] at e2; unfold asgn at e2; cases e2
      | ow d => cases w <;> simp at ew
      | sh e =>
        rw [ew] at e2 r2
        have s3 := asgn_ow (σ0 := σ) (p0 := p) (H0 := H) (s1.1.trans s2G) f1 f2' f3' s2.ok e1
        obtain ⟨_, k2⟩ := asgn_owM f2' f3' s2.ok e1
        have rm : Rep X.K (Mu G (σ.set i (some (.ref a1))) p3.env) H2 u2 e := Rep.mono X.K (fun _ _ e _ => e) (fun b z => .inl (mu_more.mpr (k2 b z))) (show Rep X.K (Mu (G.more a1) σ p2.env) H2 u2 e from r2)
        exact h _ _ (s3.trans (asgn_st s3.ok rm e2))
end
end Py
set_option maxRecDepth 100000
namespace Py
open PySem PySem.Spec PyProof.Rows L2

/-! ### loops -/
section
variable {K : PySem.W.Frag} {cl : Nat → Addr} {W : WX} {G : Gh} {σ σ' : L2.St} {H H' : Hp} {p p' : PS} {z : Option Nat}
theorem stp_lock (o : Ok K G σ H p) : Stp K G σ p H σ ⟨lockE z p.env, p.src⟩ H := by
  have sz := sameZ_lock z p.env
  refine ⟨fun _ _ e _ => e, fun _ e => e, fun a h => ?_, fun a h => .inl (by rw [sz.mu]; exact h), fun i zz d h => ?_, fun i l d h => ?_, o.zz sz⟩
  · rcases h with h | ⟨i, l, d, h1, h2⟩
    · exact .inl (.inl h)
    · refine .inl (.inr ⟨i, l, d, ?_, h2⟩)
      replace h1 : (lockE z p.env)[i]? = some (.own l false d) := h1
      cases z with
      | none => exact h1
      | some j =>
        unfold lockE at h1
        simp only at h1
        split at h1
        · rename_i l' z' d' e
          by_cases hj : j = i
          · subst hj
            rw [List.getElem?_set_self (List.getElem?_eq_some_iff.mp e).1] at h1; cases h1
          · rw [List.getElem?_set_ne hj] at h1; exact h1
        · exact h1
  · obtain ⟨z', h'⟩ := sz.own h
    exact ⟨z', d, h', rfl⟩
  · refine ⟨d, ?_, rfl⟩
    show (lockE z p.env)[i]? = _
    unfold lockE
    split
    · rename_i j
      split
      · rename_i l' z' d' e
        by_cases hj : j = i
        · subst hj
          rw [h] at e; cases e
          rw [List.getElem?_set_self (List.getElem?_eq_some_iff.mp h).1]
        · rw [List.getElem?_set_ne hj]; exact h
      · exact h
    · exact h
theorem stp_unlock (lz : lockOk z p.env = true) (s : Stp K G σ ⟨lockE z p.env, p.src⟩ H σ' p' H') (o : Ok K G σ H p) : Stp K G σ p H σ' ⟨unlockE z p'.env, p'.src⟩ H' := by
  have s0 := (stp_lock (z := z) o).trans s
  have sz := sameZ_unlock z p'.env
  refine ⟨s0.fr, s0.dom, fun a h => ?_, fun a h => s0.mu a (by rw [sz.mu]; exact h), fun i zz d h => ?_, fun i l d h => ?_, s.ok.zz sz⟩
  · rcases h with h | ⟨i, l, d, h1, h2⟩
    · exact .inl (.inl h)
    · replace h1 : (unlockE z p'.env)[i]? = some (.own l false d) := h1
      obtain ⟨z', h3⟩ := sz.symm.own h1
      cases z' with
      | false => exact s0.lm a (.inr ⟨i, l, d, h3, h2⟩)
      | true =>
        -- the slot that was locked here
        rcases s0.mu a (.inr (.inr ⟨i, l, true, d, h3, h2⟩)) with q | q
        · rcases q with q | q | ⟨j, l', z'', d', h4, h5⟩
          · obtain ⟨b, g1, _, g3, _⟩ := s.ok.ow i l true d h3
            rw [h2] at g1; cases g1
            exact absurd q g3
          · exact .inl (.inl q)
          · cases z'' with
            | false => exact .inl (.inr ⟨j, l', d', h4, h5⟩)
            | true =>
              obtain ⟨d2, h6, h7⟩ := s0.lk j l' d' h4
              have := s.ok.inj _ _ _ _ _ _ _ _ _ h3 h6 h2 (by rw [h7]; exact h5)
              subst this
              exfalso
              -- i is the slot z, which was not locked ahead
              cases z with
              | none => rw [show unlockE none p'.env = p'.env from rfl, h3] at h1; cases h1
              | some k =>
                unfold unlockE at h1
                simp only at h1
                split at h1
                · rename_i l2 z2 d3 e2
                  by_cases hk : k = i
                  · subst hk
                    unfold lockOk at lz
                    simp only [h4] at lz
                    cases lz
                  · rw [List.getElem?_set_ne hk] at h1; rw [h3] at h1; cases h1
                · rw [h3] at h1; cases h1
        · exact .inr q
  · obtain ⟨z', d', h', e'⟩ := s0.lent i zz d h
    obtain ⟨z2, h2⟩ := sz.own h'
    exact ⟨z2, d', h2, e'⟩
  · obtain ⟨d', h', e'⟩ := s0.lk i l d h
    refine ⟨d', ?_, e'⟩
    show (unlockE z p'.env)[i]? = _
    unfold unlockE
    split
    · rename_i k
      split
      · rename_i l2 z2 d3 e2
        by_cases hk : k = i
        · subst hk
          unfold lockOk at lz
          simp only [h] at lz
          cases lz
        · rw [List.getElem?_set_ne hk]; exact h'
      · exact h'
    · exact h'
end
def unlockO (z : Option Nat) : Out → Out
  | .nx p => .nx ⟨unlockE z p.env, p.src⟩
  | .rt v p => .rt v p
  | .exc c p => .exc c p
  | _ => .bad
def forL (tg : Tgd) (body : SDn) : List D → PS → Out
  | [], p => .nx p
  | d :: ds, p => match tg d p.env with
    | none => .bad
    | some env' => match body ⟨env', p.src⟩ with
      | .nx p' => forL tg body ds p'
      | .ct p' => forL tg body ds p'
      | .bk p' => .nx p'
      | .rt v p' => .rt v p'
      | .exc c p' => .exc c p'
      | .bad => .bad
def sFor (di : PS → R Iv) (tg : Tgd) (body : SDn) : SDn := fun p => onR (di p) fun iv p1 =>
  if lockOk iv.z p1.env = true then unlockO iv.z (forL tg body iv.items ⟨lockE iv.z p1.env, p1.src⟩) else .bad
def whileL (dt : Dn) (body : SDn) : Nat → PS → Out
  | 0, _ => .bad
  | n + 1, p => match dt p with
    | .ok v p1 => onBS v p1 (fun p1 => match body p1 with
      | .nx p2 => whileL dt body n p2
      | .ct p2 => whileL dt body n p2
      | .bk p2 => .nx p2
      | .rt v p2 => .rt v p2
      | .exc c p2 => .exc c p2
      | .bad => .bad) (fun p1 => .nx p1)
    | .exc c p1 => .exc c p1
    | .bad => .bad
def sWhile (n : Nat) (dt : Dn) (body : SDn) : SDn := whileL dt body n
section
variable {s : Sx} {T : Tab} {pos : Pos}
theorem vs_for {tg iter : Expr} {body : List Stmt} {is : List Nat} {di : PS → R Iv} {g : Tgd} {db : SDn} (hi : VI s T tg iter di) (hg : VG s T tg is g) (hb : VB s T body db) (hs : ∀ env x, foldedSetIterable iter env x = pure x := by intro _ _; rfl) :
    VS s T (.For tg iter body [] pos) (sFor di g db) := fun X W c tk => by
  refine PSt.of (ps_for (hs := hs X.env) c.2.1 c.1.calm (hi X W c.1 tk) (hg X c.1) (hb X W c tk)) fun D σ H h => ?_
  obtain ⟨G, p, o, h⟩ := h
  refine ⟨G, p, o, ?_⟩
  unfold sFor at h
  cases e : di p with
  | bad => rw [e] at h; exact h.elim
  | exc cc q => rw [e] at h; exact fun H1 s => h σ H1 s.1
  | ok iv p1 =>
    rw [e] at h
    simp only [onR_ok] at h
    by_cases lz : lockOk iv.z p1.env = true
    · rw [if_pos lz] at h
      intro J H1 s1 w
      have h := PostS.from s1.1 h
      generalize hr : forL g db iv.items ⟨lockE iv.z p1.env, p1.src⟩ = r0 at h
      refine ⟨fun i m σ' H' => m = iv.items.length - i ∧ i ≤ iv.items.length ∧ ∃ p', Stp X.K G σ ⟨lockE iv.z p1.env, p1.src⟩ H1 σ' p' H' ∧ forL g db (iv.items.drop i) p' = r0, ⟨_, rfl, Nat.zero_le _, _, .refl (s1.ok.zz (sameZ_lock _ _)), by rw [List.drop_zero]; exact hr⟩, ?_⟩
      rintro i m σ' H' ⟨rfl, hi, p', st, hf⟩
      have lockMu : Mu G σ (lockE iv.z p1.env) = Mu G σ p1.env := ((sameZ_lock iv.z p1.env).mu).symm
      obtain ⟨w1, w2, w3⟩ := w (Mu G σ' p'.env) H' (fun a o e n _ => st.fr a o e n) (fun a z => by
        rcases st.mu a z with z | z
        · exact .inl (by rw [← lockMu]; exact z)
        · exact .inr z) (fun a z => st.ok.dom z)
      by_cases hlt : i < iv.items.length
      · refine .inr ⟨w1 i hlt, fun σ2 H2 => ∃ p2, Stp X.K G σ ⟨lockE iv.z p1.env, p1.src⟩ H1 σ2 p2 H2 ∧ forL g db (iv.items.drop (i + 1)) p2 = r0, fun σ2 H2 ⟨p2, k1, k2⟩ => ⟨_, by omega, rfl, hlt, p2, k1, k2⟩, fun x H3 y => ?_⟩
        obtain ⟨d, hd, sm, rd⟩ := w3 i x H3 hlt y
        have hdrop : iv.items.drop i = d :: iv.items.drop (i + 1) := by
          rw [List.drop_eq_getElem_cons hlt]
          rw [List.getElem?_eq_getElem hlt] at hd
          cases hd; rfl
        rw [hdrop] at hf
        unfold forL at hf
        have st3 : Stp X.K G σ ⟨lockE iv.z p1.env, p1.src⟩ H1 σ' p' H3 := st.trans (StpE.grow st.ok sm).1
        cases et : g d p'.env with
        | none => rw [et] at hf; simp only at hf; subst hf; exact h.elim
        | some env' =>
          rw [et] at hf
          simp only at hf
          refine ⟨G, p', d, env', st3.ok, rd, et, fun σ2 s2 _ _ => ?_⟩
          refine ⟨G, ⟨env', p'.src⟩, s2.ok, ?_⟩
          have st4 := st3.trans s2
          cases eb : db ⟨env', p'.src⟩ with
          | nx p5 => rw [eb] at hf; exact fun σ5 H5 s5 => ⟨p5, st4.trans s5, hf⟩
          | ct p5 => rw [eb] at hf; exact fun σ5 H5 s5 => ⟨p5, st4.trans s5, hf⟩
          | bk p5 =>
            rw [eb] at hf
            simp only at hf
            subst hf
            exact fun σ5 H5 s5 => h σ5 H5 (stp_unlock lz (st4.trans s5) s1.ok)
          | rt v p5 =>
            rw [eb] at hf
            simp only at hf
            subst hf
            exact fun σ5 u H5 s5 r5 => h σ5 u H5 ((stp_lock s1.ok).trans (st4.trans s5)) (r5.back st4.dom)
          | exc cc p5 =>
            rw [eb] at hf
            simp only at hf
            subst hf
            exact fun σ5 H5 s5 => (h σ5 H5 ((stp_lock s1.ok).trans (st4.trans s5))).from st4.dom
          | bad => rw [eb] at hf; simp only at hf; subst hf; exact h.elim
      · have hi' : i = iv.items.length := by omega
        rw [hi', List.drop_length] at hf
        have hf : Out.nx p' = r0 := hf
        subst hf
        exact .inl ⟨by rw [hi']; exact w2, h σ' H' (stp_unlock lz st s1.ok)⟩
    · rw [if_neg lz] at h; exact h.elim
theorem vs_while (n : Nat) {c : Expr} {body : List Stmt} {dt : Dn} {db : SDn} (hc : VT s T c dt) (hb : VB s T body db) : VS s T (.While c body [] pos) (sWhile n dt db) := fun X W cx tk => by
  refine PSt.of (ps_while cx.2.1 (hc X W cx.1 tk) (hb X W cx tk)) fun D σ H h => ?_
  obtain ⟨G, p, o, h⟩ := h
  unfold sWhile at h
  generalize hr : whileL dt db n p = r0 at h
  refine ⟨fun m σ' H' => ∃ p', Stp X.K G σ p H σ' p' H' ∧ whileL dt db m p' = r0, ⟨n, p, .refl o, hr⟩, ?_⟩
  rintro m σ' H' ⟨p', st, hf⟩
  cases m with
  | zero => unfold whileL at hf; subst hf; exact h.elim
  | succ m =>
    unfold whileL at hf
    refine ⟨G, p', st.ok, ?_⟩
    cases et : dt p' with
    | bad => rw [et] at hf; simp only at hf; subst hf; exact h.elim
    | exc cc q => rw [et] at hf; simp only at hf; subst hf; exact fun H1 s1 => (h σ' H1 (st.trans s1.1)).from st.dom
    | ok v p1 =>
      rw [et] at hf
      simp only at hf
      intro u H1 s1 r1
      unfold onBS at hf
      split at hf
      · cases (show Rep X.K _ H1 u (.bl true) from r1)
        refine ⟨true, rfl, ?_⟩
        show (if (true : Bool) = true then _ else _)
        rw [if_pos rfl]
        refine ⟨fun σ2 H2 => ∃ p2, Stp X.K G σ p H σ2 p2 H2 ∧ whileL dt db m p2 = r0, fun σ2 H2 k => ⟨m, Nat.lt_succ_self _, k⟩, G, p1, s1.ok, ?_⟩
        have st4 := st.trans s1.1
        simp only at hf
        cases eb : db p1 with
        | nx p5 => rw [eb] at hf; exact fun σ5 H5 s5 => ⟨p5, st4.trans s5, hf⟩
        | ct p5 => rw [eb] at hf; exact fun σ5 H5 s5 => ⟨p5, st4.trans s5, hf⟩
        | bk p5 =>
          rw [eb] at hf
          simp only at hf
          subst hf
          exact fun σ5 H5 s5 => h σ5 H5 (st4.trans s5)
        | rt v p5 =>
          rw [eb] at hf
          simp only at hf
          subst hf
          exact fun σ5 u H5 s5 r5 => h σ5 u H5 (st4.trans s5) (r5.back st4.dom)
        | exc cc p5 =>
          rw [eb] at hf
          simp only at hf
          subst hf
          exact fun σ5 H5 s5 => (h σ5 H5 (st4.trans s5)).from st4.dom
        | bad => rw [eb] at hf; simp only at hf; subst hf; exact h.elim
      · cases (show Rep X.K _ H1 u (.bl false) from r1)
        refine ⟨false, rfl, ?_⟩
        show (if (false : Bool) = true then _ else _)
        rw [if_neg Bool.false_ne_true]
        subst hf
        exact h σ' H1 (st.trans s1.1)
      · subst hf; exact h.elim
end
end Py
set_option maxRecDepth 100000
namespace Py
open PySem PySem.Spec PyProof.Rows L2

/-! ### defs -/
def backOf : List Sl → List Sl → List Sl
  | .own l z _ :: as, .own _ _ d :: es => .own l z d :: backOf as es
  | a :: as, _ :: es => a :: backOf as es
  | as, [] => as
  | [], _ => []
def retFR (args : List Sl) (v : Rv) (p : PS) : FR := match v with
  | .sh d => .ok false d (backOf args p.env) p.src
  | .ow d => .ok true d (backOf args p.env) p.src
  | .bo i => match p.env[i]? with
    | some (.own false _ d) => if d.plain = true then .ok true d (backOf args p.env) p.src else .bad
    | _ => .bad
  | .sr => .bad
def outFR (args : List Sl) : Out → FR
  | .nx p => .ok false .non (backOf args p.env) p.src
  | .rt v p => retFR args v p
  | .exc c p => .exc c (backOf args p.env) p.src
  | _ => .bad
/-- a def's meaning: n names in all -/
def semD (n : Nat) (den : SDn) (args : List Sl) (src : List Int × Int) : FR := outFR args (den ⟨args ++ List.replicate (n - args.length) .no, src⟩)
section
variable {K : PySem.W.Frag} {G : Gh} {σ σ' : L2.St} {H H' : Hp} {p p' : PS} {vs : List V} {args : List Sl} {src : List Int × Int} {N : List Str}
theorem backOf_len : ∀ (as es : List Sl), (backOf as es).length = as.length
  | [], [] => rfl
  | [], _ :: _ => rfl
  | a :: as, [] => by cases a <;> rfl
  | a :: as, e :: es => by
    cases a <;> cases e <;> simp [backOf, backOf_len as es]
theorem backOf_get : ∀ (as es : List Sl) (i : Nat), (∀ l z d, as[i]? = some (.own l z d) → ∀ l' z' d', es[i]? = some (.own l' z' d') → (backOf as es)[i]? = some (.own l z d')) ∧ ((∀ l z d, as[i]? ≠ some (.own l z d)) → (backOf as es)[i]? = as[i]?)
  | [], [], i => ⟨fun _ _ _ h => by simp at h, fun _ => rfl⟩
  | [], _ :: _, i => ⟨fun _ _ _ h => by simp at h, fun _ => rfl⟩
  | a :: as, [], i => ⟨fun _ _ _ _ _ _ _ h => by simp at h, fun _ => by cases a <;> rfl⟩
  | a :: as, e :: es, 0 => by
    refine ⟨fun l z d h l' z' d' h' => ?_, fun n => ?_⟩
    · simp at h h'
      subst h; subst h'
      rfl
    · cases a <;> cases e <;> first | rfl | (exact absurd rfl (n _ _ _))
  | a :: as, e :: es, i + 1 => by
    obtain ⟨h1, h2⟩ := backOf_get as es i
    have q : (backOf (a :: as) (e :: es))[i + 1]? = (backOf as es)[i]? := by cases a <;> cases e <;> rfl
    rw [q]
    exact ⟨fun l z d h l' z' d' h' => h1 l z d (by simpa using h) l' z' d' (by simpa using h'), fun n => by rw [h2 (by simpa using n)]; simp⟩

/-- the entry -/
theorem start_get {i : Nat} {v : V} (h : vs[i]? = some v) : (L2.start N vs)[i]? = some (some v) := by
  unfold L2.start
  have hi : i < vs.length := (List.getElem?_eq_some_iff.mp h).1
  rw [List.getElem?_append_left (by simpa using hi), List.getElem?_map, h]; rfl
theorem entry_env {x : Sl} {n i : Nat} (h : (args ++ List.replicate n Sl.no)[i]? = some x) (hx : x ≠ .no) : args[i]? = some x := by
  by_cases hi : i < args.length
  · rwa [List.getElem?_append_left hi] at h
  · rw [List.getElem?_append_right (by omega), List.getElem?_replicate] at h
    split at h
    · cases h; exact absurd rfl hx
    · cases h
theorem entry_env' {x : Sl} {n i : Nat} (h : args[i]? = some x) : (args ++ List.replicate n Sl.no)[i]? = some x := by
  rw [List.getElem?_append_left (List.getElem?_eq_some_iff.mp h).1]; exact h
theorem CallOk.len (c : CallOk K G H vs args src) : vs.length = args.length := Paired.length c.ar
theorem CallOk.lent (c : CallOk K G H vs args src) {i : Nat} {l z : Bool} {d : D} (h : args[i]? = some (.own l z d)) : l = true ∧ z = false ∧ ∃ a, vs[i]? = some (.ref a) ∧ OwnAt K (Ma G vs args) H a d ∧ ¬ G.mx a ∧ ¬ gaA G a := by
  obtain ⟨v, h1, h2⟩ := paired_get c.ar h
  obtain ⟨e1, e2, a, rfl, h3⟩ := h2
  exact ⟨e1, e2, a, h1, h3⟩
theorem entry_ownA {n : Nat} (c : CallOk K G H vs args src) {a : Addr} : ownA (L2.start N vs) (args ++ List.replicate n .no) a ↔ lentA vs args a := by
  constructor
  · rintro ⟨i, l, z, d, h1, h2⟩
    have h1 := entry_env h1 (fun e => by cases e)
    obtain ⟨_, _, b, h3, _⟩ := c.lent h1
    rw [start_get h3] at h2; cases h2
    exact ⟨i, l, z, d, h1, h3⟩
  · rintro ⟨i, l, z, d, h1, h2⟩
    exact ⟨i, l, z, d, entry_env' h1, start_get h2⟩
theorem entry_mu {n : Nat} (c : CallOk K G H vs args src) : Mu G (L2.start N vs) (args ++ List.replicate n .no) = Ma G vs args := by
  funext a; apply propext; unfold Mu Ma; rw [entry_ownA c]
theorem entry_ok (c : CallOk K G H vs args src) (hn : args.length ≤ N.length) : Ok K G (L2.start N vs) H ⟨args ++ List.replicate (N.length - args.length) .no, src⟩ where
  len := by
    have := c.len
    simp [L2.start]; omega
  sh := fun i d h => by
    show ∃ v, _ ∧ Rep K (Mu G (L2.start N vs) (args ++ List.replicate _ .no)) H v d
    rw [entry_mu c]
    have h := entry_env h (fun e => by cases e)
    obtain ⟨v, h1, h2⟩ := paired_get c.ar h
    exact ⟨v, start_get h1, h2⟩
  ow := fun i l z d h => by
    show ∃ a, _ ∧ OwnAt K (Mu G (L2.start N vs) (args ++ List.replicate _ .no)) H a d ∧ _
    rw [entry_mu c]
    have h := entry_env h (fun e => by cases e)
    obtain ⟨_, _, a, h1, h2⟩ := c.lent h
    exact ⟨a, start_get h1, h2⟩
  inj := fun i j l z d l' z' d' a h1 h2 h3 h4 => by
    have h1 := entry_env h1 (fun e => by cases e)
    have h2 := entry_env h2 (fun e => by cases e)
    obtain ⟨_, _, b, g1, _⟩ := c.lent h1
    obtain ⟨_, _, b', g2, _⟩ := c.lent h2
    rw [start_get g1] at h3; cases h3
    rw [start_get g2] at h4; cases h4
    exact c.inj _ _ _ _ _ _ _ _ _ h1 h2 g1 g2
  sr := fun i h => by
    have h := entry_env h (fun e => by cases e)
    obtain ⟨v, h1, h2⟩ := paired_get c.ar h
    obtain ⟨q, e, rfl⟩ := h2
    exact ⟨q, e, start_get h1⟩
  mx := c.mx
  ga := c.ga
/-- behind the body -/
theorem body_back {n : Nat} {G2 : Gh} (c : CallOk K G H vs args src) (s : Stp K G (L2.start N vs) ⟨args ++ List.replicate n .no, src⟩ H σ' p' H') (hg : G2.ga = G.ga) (hm : ∀ a, G.mx a → G2.mx a) (o2 : Ok K G2 σ' H' p') :
    BackOk K G2 H vs args (backOf args p'.env) p'.src H' := by
  have lentS : ∀ (i : Nat) l z d, args[i]? = some (.own l z d) → ∃ z' d', p'.env[i]? = some (.own true z' d') ∧ σ'[i]? = (L2.start N vs)[i]? := fun i l z d h => by
    obtain ⟨rfl, _⟩ := c.lent h
    exact s.lent i z d (entry_env' h)
  refine ⟨fun a o e n' => s.fr a o e fun z => n' ?_, s.dom, ⟨(backOf_len _ _).symm, fun i x h => ?_⟩, fun i l z d a h1 h2 => ?_, fun q e => ?_⟩
  · rcases z with ⟨q, e, z⟩ | ⟨i, l, d, h1, h2⟩
    · exact .inl ⟨q, by rw [hg]; exact e, z⟩
    · exact .inr ((entry_ownA c).mp ⟨i, l, false, d, h1, h2⟩)
  · cases x with
    | own l z d =>
      obtain ⟨z', d', h1, _⟩ := lentS i l z d h
      exact ⟨_, (backOf_get args p'.env i).1 l z d h _ _ _ h1, rfl, rfl⟩
    | no => exact ⟨_, by rw [(backOf_get args p'.env i).2 (fun l z d e => by rw [h] at e; cases e)]; exact h, rfl⟩
    | sh d => exact ⟨_, by rw [(backOf_get args p'.env i).2 (fun l z d e => by rw [h] at e; cases e)]; exact h, rfl⟩
    | src => exact ⟨_, by rw [(backOf_get args p'.env i).2 (fun l z d e => by rw [h] at e; cases e)]; exact h, rfl⟩
  · have ha : ∃ l0 z0 d0, args[i]? = some (.own l0 z0 d0) := by
      cases e : args[i]? with
      | none =>
        have q := (backOf_get args p'.env i).2 (fun l z d e' => by rw [e] at e'; cases e')
        rw [q, e] at h1; cases h1
      | some y =>
        cases y with
        | own l0 z0 d0 => exact ⟨_, _, _, rfl⟩
        | no => rw [(backOf_get args p'.env i).2 (fun l z d e' => by rw [e] at e'; cases e'), e] at h1; cases h1
        | sh d => rw [(backOf_get args p'.env i).2 (fun l z d e' => by rw [e] at e'; cases e'), e] at h1; cases h1
        | src => rw [(backOf_get args p'.env i).2 (fun l z d e' => by rw [e] at e'; cases e'), e] at h1; cases h1
    obtain ⟨l0, z0, d0, ha⟩ := ha
    obtain ⟨z', d', h3, h4⟩ := lentS i l0 z0 d0 ha
    have h5 := (backOf_get args p'.env i).1 l0 z0 d0 ha _ _ _ h3
    rw [h1] at h5; cases h5
    obtain ⟨b, g1, g2, _⟩ := o2.ow i true z' d h3
    rw [h4, start_get h2] at g1; cases g1
    refine g2.mono (fun _ _ e _ => e) (fun b z => .inl ?_) (fun _ e => e)
    rcases z with z | z | ⟨j, l1, z1, d1, k1, k2⟩
    · exact .inl z
    · exact .inr (.inl z)
    · obtain ⟨z2, d2, k3, k4⟩ := lentS j l1 z1 d1 k1
      exact .inr (.inr ⟨j, true, z2, d2, k3, by rw [k4]; exact start_get k2⟩)
  · obtain ⟨_, g2, g3, _⟩ := o2.ga q e
    exact ⟨g2, g3⟩
theorem ma_sub {n : Nat} {G2 : Gh} (c : CallOk K G H vs args src) (s : Stp K G (L2.start N vs) ⟨args ++ List.replicate n .no, src⟩ H σ' p' H') (a : Addr) (z : Ma G2 vs args a) : Mu G2 σ' p'.env a := by
  rcases z with z | z | ⟨j, l1, z1, d1, k1, k2⟩
  · exact .inl z
  · exact .inr (.inl z)
  · obtain ⟨rfl, _⟩ := c.lent k1
    obtain ⟨z2, d2, k3, k4⟩ := s.lent j z1 d1 (entry_env' k1)
    exact .inr (.inr ⟨j, true, z2, d2, k3, by rw [k4]; exact start_get k2⟩)
/-- an own slot is given away -/
theorem Ok.give {i : Nat} {z : Bool} {d : D} {a : Addr} (o : Ok K G σ H p) (h : p.env[i]? = some (.own false z d)) (ha : σ[i]? = some (some (.ref a))) : Ok K (G.more a) σ H ⟨p.env.set i .no, p.src⟩ ∧ OwnAt K (Mu (G.more a) σ (p.env.set i .no)) H a d ∧ ¬ Mu G σ (p.env.set i .no) a := by
  obtain ⟨b, hb, hoa, hm, hg⟩ := o.ow i false z d h
  rw [ha] at hb; cases hb
  have hi : i < p.env.length := (List.getElem?_eq_some_iff.mp h).1
  have old : ∀ {j : Nat} {l z : Bool} {e : D}, (p.env.set i .no)[j]? = some (.own l z e) → j ≠ i ∧ p.env[j]? = some (.own l z e) := fun {j l z e} h2 => by
    by_cases hj : j = i
    · subst hj; rw [List.getElem?_set_self hi] at h2; cases h2
    · rw [List.getElem?_set_ne (Ne.symm hj)] at h2; exact ⟨hj, h2⟩
  have mu : ∀ c, Mu (G.more a) σ (p.env.set i .no) c → Mu G σ p.env c := fun c z => by
    rcases mu_more.mp z with (z | z | ⟨j, l, zz, e, h1, h2⟩) | rfl
    · exact .inl z
    · exact .inr (.inl z)
    · exact .inr (.inr ⟨j, l, zz, e, (old h1).2, h2⟩)
    · exact .inr (.inr ⟨i, false, _, d, h, ha⟩)
  have nu : ¬ Mu G σ (p.env.set i .no) a := by
    rintro (z | z | ⟨j, l, zz, e, h1, h2⟩)
    · exact hm z
    · exact hg z
    · obtain ⟨hj, h1⟩ := old h1
      exact hj (o.inj _ _ _ _ _ _ _ _ _ h1 h h2 ha)
  refine ⟨⟨by simpa using o.len, fun j e hj => ?_, fun j l zz e hj => ?_, fun j j' l z e l' z' e' b h1 h2 h3 h4 => ?_, fun j hj => ?_, fun c z => ?_, fun q e => ?_⟩, hoa.mono (fun _ _ e _ => e) (fun c z => .inl (mu c z)) (fun _ e => e), nu⟩
  · have hj : (p.env.set i .no)[j]? = some (.sh e) := hj
    by_cases e' : j = i
    · subst e'; rw [List.getElem?_set_self hi] at hj; cases hj
    · rw [List.getElem?_set_ne (Ne.symm e')] at hj
      obtain ⟨v, h1, h2⟩ := o.sh j e hj
      exact ⟨v, h1, Rep.mono K (fun _ _ e _ => e) (fun c z => .inl (mu c z)) h2⟩
  · obtain ⟨hne, hj⟩ := old hj
    obtain ⟨b, h1, h2, h3, h4⟩ := o.ow j l zz e hj
    refine ⟨b, h1, h2.mono (fun _ _ e _ => e) (fun c z => .inl (mu c z)) (fun _ e => e), ?_, h4⟩
    rintro (z | rfl)
    · exact h3 z
    · exact hne (o.inj _ _ _ _ _ _ _ _ _ hj h h1 ha)
  · exact o.inj _ _ _ _ _ _ _ _ _ (old h1).2 (old h2).2 h3 h4
  · have hj : (p.env.set i .no)[j]? = some .src := hj
    by_cases e' : j = i
    · subst e'; rw [List.getElem?_set_self hi] at hj; cases hj
    · rw [List.getElem?_set_ne (Ne.symm e')] at hj; exact o.sr j hj
  · rcases z with z | rfl
    · exact o.mx c z
    · obtain ⟨ob, e⟩ := hoa.some_
      rw [e]; simp
  · obtain ⟨g1, g2, g3, g4, g5⟩ := o.ga q e
    exact ⟨g1, g2, g3, fun z => z.elim g4 fun e' => hg ⟨q, e, .inl e'.symm⟩, fun z => z.elim g5 fun e' => hg ⟨q, e, .inr e'.symm⟩⟩
end
section
variable {P : Program} {w : World} {K : PySem.W.Frag} {mg : Str → Option Value} {base : Heap} {x qual : Str} {params : Arguments} {body : List Stmt} {scope : Scope} {f : Addr} {fd : FuncData}
theorem backOf_set {x : Sl} : ∀ (as es : List Sl) (i : Nat), (∀ l z d, as[i]? ≠ some (.own l z d)) → backOf as (es.set i x) = backOf as es
  | [], [], _, _ => rfl
  | [], _ :: _, 0, _ => rfl
  | [], _ :: _, _ + 1, _ => rfl
  | _ :: _, [], _, _ => rfl
  | a :: as, e :: es, 0, h => by
    cases a with
    | own l z d => exact absurd rfl (h l z d)
    | no => cases e <;> cases x <;> rfl
    | sh d => cases e <;> cases x <;> rfl
    | src => cases e <;> cases x <;> rfl
  | a :: as, e :: es, i + 1, h => by
    have ih := backOf_set (x := x) as es i (fun l z d => by simpa using h l z d)
    rw [List.set_cons_succ]
    cases a <;> cases e <;> simp only [backOf, ih]
/-- THE RULE: a def keeps its meaning -/
theorem def_ok {T : Tab} {N ps : List Str} {den : SDn} (F : FunD K x qual params body scope [] [] f fd) (S : FnScope N ps scope) (hlen : ps.length ≤ N.length) (fac : Facts T P w K mg base) (h : VB ⟨N, scope, fun _ => true⟩ T body den) :
    FnOk P w K mg base (L2.CX P w) (T.k + 1) f fd ps (spF K (clK K) ps.length (semD N.length den)) := by
  refine F.ok S (fun vs H Q E hs => hs.1) (fun cdv A outer st H vs Q E hr hs => ?_)
  obtain ⟨hl, G, args, src, c, hs⟩ := hs
  have hargs : args.length ≤ N.length := by have := c.len; omega
  have cx : CtxS ⟨N, scope, fun _ => true⟩ T (cxOf (L2.CX P w) P w K mg base N qual scope f cdv A outer st H E) := ⟨⟨rfl, rfl, S.nd, rfl, hr, fun _ _ => rfl, fac⟩, passes_of rfl, rfl, rfl, rfl⟩
  refine ⟨_, h _ (fun cls d _ H => E cls d H) cx (takes_of rfl rfl rfl rfl), G, _, entry_ok c hargs, ?_⟩
  unfold semD at hs
  generalize hd : den ⟨args ++ List.replicate (N.length - args.length) .no, src⟩ = r at hs ⊢
  cases r with
  | nx p' => exact fun σ' H' s => hs .non H' (body_back c s rfl (fun _ z => z) s.ok) .non
  | bk p' => exact hs.elim
  | ct p' => exact hs.elim
  | bad => exact hs.elim
  | exc cc p' => exact fun σ' H' s => hs H' (body_back c s rfl (fun _ z => z) s.ok)
  | rt v p' =>
    intro σ' u H' s r
    cases v with
    | sh d =>
      refine hs u H' (body_back c s rfl (fun _ z => z) s.ok) (Rep.mono K (fun _ _ e _ => e) (fun a z => .inl (ma_sub c s a z)) r)
    | ow d =>
      obtain ⟨hpl, a, rfl, h1, h2, h3, h4⟩ := r
      exact hs a H' h1 hpl (body_back c s rfl (fun _ z => .inl z) h4) (h3.mono (fun _ _ e _ => e) (fun b z => .inl (ma_sub (G2 := G.more a) c s b z)) (fun _ e => e))
    | sr => exact hs.elim
    | bo i =>
      obtain ⟨⟨l, z, d, h1⟩, h2⟩ := r
      have hs : match retFR args (.bo i) p' with
        | .ok false d back src' => ∀ u H', BackOk K G H vs args back src' H' → Rep K (Ma G vs args) H' u d → Q u H'
        | .ok true d back src' => ∀ q H', H q = none → d.plain = true → BackOk K (G.more q) H vs args back src' H' → OwnAt K (Ma (G.more q) vs args) H' q d → Q (.ref q) H'
        | .exc c back src' => ∀ H', BackOk K G H vs args back src' H' → FlyX (clK K) E H c H'
        | .bad => False := hs
      unfold retFR at hs
      simp only [h1] at hs
      cases l with
      | true => exact hs.elim
      | false =>
        simp only at hs
        cases hpl : d.plain with
        | false => rw [hpl, if_neg Bool.false_ne_true] at hs; exact hs.elim
        | true =>
        rw [hpl, if_pos rfl] at hs
        obtain ⟨a, g1, g2, g3, g4⟩ := s.ok.ow i false z d h1
        rw [h2] at g1; cases g1
        obtain ⟨k1, k2, k3⟩ := s.ok.give h1 h2
        have nl : ∀ l z d, args[i]? ≠ some (.own l z d) := fun l' z' d' e => by
          obtain ⟨rfl, _⟩ := c.lent e
          obtain ⟨z2, d2, e2, _⟩ := s.lent i z' d' (entry_env' e)
          rw [h1] at e2; cases e2
        have fresh : H a = none := by
          rcases s.mu a (.inr (.inr ⟨i, false, z, d, h1, h2⟩)) with q | q
          · rw [entry_mu c] at q
            rcases q with q | q | ⟨j, l1, z1, d1, e1, e2⟩
            · exact absurd q g3
            · exact absurd q g4
            · obtain ⟨rfl, _⟩ := c.lent e1
              obtain ⟨z2, d2, e3, e4⟩ := s.lent j z1 d1 (entry_env' e1)
              have := s.ok.inj _ _ _ _ _ _ _ _ _ h1 e3 h2 (by rw [e4]; exact start_get e2)
              subst this
              exact absurd e1 (nl _ _ _)
          · exact q
        have o2 : Ok K G σ' H' ⟨p'.env.set i .no, p'.src⟩ := k1.less rfl fun a z => .inl z
        have lentO : ∀ (j : Nat) (z0 : Bool) (d0 : D), (args ++ List.replicate (N.length - args.length) Sl.no)[j]? = some (.own true z0 d0) → j ≠ i := fun j z0 d0 e e' => by
          subst e'
          exact nl _ _ _ (entry_env e (fun e => by cases e))
        have sub : ∀ b, ownA σ' (p'.env.set i .no) b → ownA σ' p'.env b := fun b ⟨j, l, zz, e, h3, h4⟩ => by
          have hi : i < p'.env.length := (List.getElem?_eq_some_iff.mp h1).1
          by_cases hj : j = i
          · subst hj; rw [List.getElem?_set_self hi] at h3; cases h3
          · rw [List.getElem?_set_ne (Ne.symm hj)] at h3; exact ⟨j, l, zz, e, h3, h4⟩
        have subL : ∀ b, ownL σ' (p'.env.set i .no) b → ownL σ' p'.env b := fun b ⟨j, l, e, h3, h4⟩ => by
          have hi : i < p'.env.length := (List.getElem?_eq_some_iff.mp h1).1
          by_cases hj : j = i
          · subst hj; rw [List.getElem?_set_self hi] at h3; cases h3
          · rw [List.getElem?_set_ne (Ne.symm hj)] at h3; exact ⟨j, l, e, h3, h4⟩
        have s2 : Stp K G (L2.start N vs) ⟨args ++ List.replicate (N.length - args.length) .no, src⟩ H σ' ⟨p'.env.set i .no, p'.src⟩ H' := by
          refine ⟨s.fr, s.dom, fun b z => s.lm b (z.elim .inl fun z => .inr (subL b z)), fun b z => s.mu b (z.elim .inl fun z => .inr (z.elim .inl fun z => .inr (sub b z))), fun j z0 d0 e => ?_, fun j l0 d0 e => ?_, o2⟩
          · obtain ⟨z', d', e1, e2⟩ := s.lent j z0 d0 e
            exact ⟨z', d', by rw [List.getElem?_set_ne (Ne.symm (lentO j z0 d0 e))]; exact e1, e2⟩
          · have e' := entry_env e (fun e => by cases e)
            obtain ⟨_, e3, _⟩ := c.lent e'
            cases e3
        have bb := body_back c s2 (G2 := G.more a) rfl (fun _ z => .inl z) k1
        have eb : backOf args (p'.env.set i .no) = backOf args p'.env := backOf_set _ _ _ nl
        have bb : BackOk K (G.more a) H vs args (backOf args p'.env) p'.src H' := by rw [← eb]; exact bb
        exact hs a H' fresh hpl bb (k2.mono (fun _ _ e _ => e) (fun b z => .inl (ma_sub (G2 := G.more a) c s2 b z)) (fun _ e => e))
end
end Py
set_option maxRecDepth 100000
namespace Py
open PySem PySem.Spec PyProof.Rows L2

/-! ### enumerate over a tuple, a text -/
def IteT (K : PySem.W.Frag) (a : Addr) : It :=
  ⟨fun i H => ∃ (xs : List V) (x : V), SqT K H a xs ∧ xs[i]? = some x, fun i H v H' => ∃ T x, v = .ref T ∧ H T = none ∧ H' = upd H T (.tup [.int (i : Nat), x]) ∧ ∀ xs, SqT K H a xs → xs[i]? = some x, fun i H => ∃ xs : List V, SqT K H a xs ∧ xs.length ≤ i⟩
def IteS (x : Str) : It :=
  ⟨fun i _ => i < x.cps.size, fun i H v H' => ∃ T c, v = .ref T ∧ H T = none ∧ H' = upd H T (.tup [.int (i : Nat), .str ⟨#[c]⟩]) ∧ x.cps[i]? = some c, fun i _ => i = x.cps.size⟩
theorem enum_end_tuple {prog : Program} {w : World} {A : Around} {E : Value → Shared → Prop} {s : Shared} {e it a : Addr} {items : Array Value} {i : Nat} {c : Int} {old : Value} {Q : Option Value → Shared → Prop} (hh : A.handled = none)
    (he : IsEnum s.heap e it c old) (hit : s.heap.IsTupleIter it a i) (ht : s.heap.IsTuple a items) (hx : items[i]? = none)
    (hQ : ∀ h', Heap.ExtBut it s.heap h' → Q none { s with heap := h' }) : wpAny (model prog w) A (pyNext (.ref e)) Q E s := by
  have hT : s.TypeIs (.ref e) "enumerate" := ⟨_, he, rfl⟩
  unfold pyNext
  refine wpAny_bind (wpAny_attempt (wpAny_callSpecial?_slot (name := Str.ofString "__next__") hT F.slot_enumerate_next
    (wpAny_call_entry F.slot_enumerate_next hT F.entry_enumerate_next ?_ (F.args_enumerate_next_1 _))))
  show wpAny _ _ (field (.ref e) 2 >>= _) _ _ _
  refine wpAny_bind (wpAny_field he rfl (x := .ref it) rfl ?_)
  refine wpAny_bind (wpAny_nextOf_tuple_end (A := A.in1) hh hit ht hx fun h' x he' hx' => ?_)
  obtain ⟨o, ho, hc⟩ := hx'
  refine wpAny_bind (wpAny_isInstance (T := "StopIteration") (b := true) ⟨o, ho, hc⟩ isSubtype_stop ?_)
  exact wpAny_pure (hQ _ he')
theorem turn_enumT {P : Program} {w : World} {K : PySem.W.Frag} {elts : List Expr} {kk : Nat} {tpos : Pos} (a e it : Addr) :
    Turn P w K (.Tuple elts kk tpos) (IteT K a) [e, it] e (fun i h => (∃ old, IsEnum h e it ((i : Nat) : Int) old) ∧ h.IsTupleIter it a i ∧ e ≠ it) where
  mem := by simp
  obj := fun i h st b hb => by
    obtain ⟨⟨old, he⟩, ⟨o, ho, hc, hd⟩, _⟩ := st
    have e' : b = e ∨ b = it := by simpa using hb
    rcases e' with z | z
    · rw [z]; exact ⟨_, he, fun v q => nomatch q⟩
    · rw [z]; exact ⟨o, ho, fun v q => by rw [hd] at q; cases q⟩
  keep := fun i h h' st k => let ⟨⟨old, he⟩, hi, hne⟩ := st; ⟨⟨old, k e (by simp) _ he⟩, hi.at fun o q => k it (by simp) o q, hne⟩
  item := by
    intro X hP hw hK hc i pins s σ H E I hf st hg
    subst hP hw hK
    obtain ⟨⟨old, he⟩, hit, hne⟩ := st
    obtain ⟨xs, x, hq, hx⟩ := hg
    obtain ⟨its, rv, p, hz⟩ := I.tuple hq
    obtain ⟨u, hu, ru⟩ := rv.get hx
    have hel : e < s.heap.objs.size := Heap.lt_size he
    have hil : it < s.heap.objs.size := by obtain ⟨_, q, _⟩ := hit; exact Heap.lt_size q
    have hit0 : s.heap.IsTuple a its.toArray := p
    have hai : a ≠ it := fun z => by
      obtain ⟨o1, e1, c1, _⟩ := hit0
      obtain ⟨o2, e2, c2, _⟩ := hit
      rw [z] at e1; rw [e1] at e2; cases e2
      rw [show o1.cls = _ from c1] at c2; injection c2 with c2; exact absurd c2 (by decide)
    have hae : a ≠ e := fun z => by
      obtain ⟨o1, e1, c1, _⟩ := hit0
      rw [z] at e1
      have he' : s.heap.get? e = _ := he
      rw [e1] at he'; cases he'
      injection (show Value.type "enumerate" = Value.type "tuple" from c1) with c2; exact absurd c2 (by decide)
    have hef : e ∉ [it, a] := fun hm => by
      rcases List.mem_cons.mp hm with z | hm
      · exact hne z
      · exact hae (List.mem_singleton.mp hm).symm
    have hlt : i < its.toArray.size := by
      have := (List.getElem?_eq_some_iff.mp hu).1
      simpa using this
    refine wpAny_pyNext_enum_itemC (Draws.tuple (A := X.A.in1) (show X.A.in1.handled = none from I.ok.hd hc) it a hai its.toArray) he ⟨hit, hit0⟩ hlt hne hef fun y h' tk hy ho hit' hT hsz hk => ?_
    have hyu : y = u := by
      have : its[i]? = some y := by simpa using hy
      rw [hu] at this; exact (Option.some.inj this).symm
    subst hyu
    refine ⟨_, rfl, wpAny_letOwnedTupleGo_enum (s := { s with heap := h', toks := tk + 1 }) ho fun h'' he' sb => ?_⟩
    have hT2 : h''.get? s.heap.objs.size = some { cls := .type "tuple", data := .seq #[.int i tk, y] } := (sb.2 _ (Nat.ne_of_gt hel)).trans hT
    have new : ObjOk X.prog X.w (upd H s.heap.objs.size (.tup [.int (i : Nat), x])) h'' s.heap.objs.size (.tup [.int (i : Nat), x]) :=
      ⟨by show 2 ≤ sizeLine; decide, [.int i tk, y], .cons ⟨_, rfl⟩ (.cons ru .nil), ⟨_, hT2, rfl, _, rfl⟩⟩
    have I1 : Inv X pins σ (upd H s.heap.objs.size (.tup [.int (i : Nat), x])) { s with heap := h'', toks := tk + 1 } :=
      I.turnedNew (ch := [e, it]) (fun b ob hb q => (sb.2 b (fun z => hb (by simp [z]))).trans (hk b ob (fun z => hb (by simp [z])) (fun z => hb (by simp [z])) q)) hf (Nat.le_refl _) new
    refine ⟨.ref s.heap.objs.size, _, I1, rfl, ⟨_, x, rfl, I.hok.fresh (Nat.le_refl _), rfl, fun ys hy => by rw [I.tuple_inj hy hq]; exact hx⟩, ⟨⟨y, ?_⟩, hit'.1.at fun o q => (sb.2 it (Ne.symm hne)).trans q, hne⟩, fun b hb => ?_⟩
    · have e1 : ((i + 1 : Nat) : Int) = (i : Int) + 1 := by omega
      rw [e1]; exact he'
    · have hb' : b < s.heap.objs.size := by
        have e' : b = e ∨ b = it := by simpa using hb
        rcases e' with z | z
        · rw [z]; exact hel
        · rw [z]; exact hil
      rw [upd_ne (Nat.ne_of_lt hb')]
      exact (hf b hb).1
  done := by
    intro X hP hw hK hc i pins s σ H E I hf st hg
    subst hP hw hK
    obtain ⟨⟨old, he⟩, hit, hne⟩ := st
    obtain ⟨xs, hq, hx⟩ := hg
    obtain ⟨its, rv, p, hz⟩ := I.tuple hq
    obtain ⟨f0, f1, f2, f3, f4, f5⟩ := hf it (by simp)
    have hl := rv.length
    have hit0 : s.heap.IsTuple a its.toArray := p
    exact enum_end_tuple (show X.A.handled = none from I.ok.hd hc) he hit hit0 (by simp; omega) fun h' eb => ⟨rfl, I.turned (t' := s.toks) (fun b o hb q => eb b o hb q) f0 f1 f3 f4 f5⟩
  self := fun A i s Q E st h => let ⟨⟨_, he⟩, _⟩ := st; wpAny_pyIter_enum he h
theorem strAt {h h' : Heap} {it : Addr} {ty : String} {x : Str} {t : Tok} {i : Nat} (st : h.IsStrIter it ty x t i) (k : ∀ o, h.get? it = some o → h'.get? it = some o) : h'.IsStrIter it ty x t i := let ⟨o, ho, r⟩ := st; ⟨o, k o ho, r⟩
theorem turn_enumS {P : Program} {w : World} {K : PySem.W.Frag} {elts : List Expr} {kk : Nat} {tpos : Pos} (x : Str) (t : Tok) (e it : Addr) :
    Turn P w K (.Tuple elts kk tpos) (IteS x) [e, it] e (fun i h => (∃ old, IsEnum h e it ((i : Nat) : Int) old) ∧ h.IsStrIter it (strIterType x) x t i ∧ e ≠ it) where
  mem := by simp
  obj := fun i h st b hb => by
    obtain ⟨⟨old, he⟩, ⟨o, ho, hc, hd⟩, _⟩ := st
    have e' : b = e ∨ b = it := by simpa using hb
    rcases e' with z | z
    · rw [z]; exact ⟨_, he, fun v q => nomatch q⟩
    · rw [z]; exact ⟨o, ho, fun v q => by rw [hd] at q; cases q⟩
  keep := fun i h h' st k => let ⟨⟨old, he⟩, hi, hne⟩ := st; ⟨⟨old, k e (by simp) _ he⟩, strAt hi fun o q => k it (by simp) o q, hne⟩
  item := by
    intro X hP hw hK hc i pins s σ H E I hf st hg
    subst hP hw hK
    obtain ⟨⟨old, he⟩, hit, hne⟩ := st
    have hg : i < x.cps.size := hg
    have hel : e < s.heap.objs.size := Heap.lt_size he
    have hil : it < s.heap.objs.size := by obtain ⟨_, q, _⟩ := hit; exact Heap.lt_size q
    have hef : e ∉ [it] := fun hm => hne (List.mem_singleton.mp hm)
    refine wpAny_pyNext_enum_itemC (Draws.text (A := X.A.in1) (show X.A.in1.handled = none from I.ok.hd hc) it x t) he hit hg hne hef fun y h' tk hy ho hit' hT hsz hk => ?_
    obtain ⟨c, u, hc2, rfl⟩ := hy
    refine ⟨_, rfl, wpAny_letOwnedTupleGo_enum (s := { s with heap := h', toks := tk + 1 }) ho fun h'' he' sb => ?_⟩
    have hT2 : h''.get? s.heap.objs.size = some { cls := .type "tuple", data := .seq #[.int i tk, .str ⟨#[c]⟩ u] } := (sb.2 _ (Nat.ne_of_gt hel)).trans hT
    have new : ObjOk X.prog X.w (upd H s.heap.objs.size (.tup [.int (i : Nat), .str ⟨#[c]⟩])) h'' s.heap.objs.size (.tup [.int (i : Nat), .str ⟨#[c]⟩]) :=
      ⟨by show 2 ≤ sizeLine; decide, [.int i tk, .str ⟨#[c]⟩ u], .cons ⟨_, rfl⟩ (.cons ⟨_, rfl⟩ .nil), ⟨_, hT2, rfl, _, rfl⟩⟩
    have I1 : Inv X pins σ (upd H s.heap.objs.size (.tup [.int (i : Nat), .str ⟨#[c]⟩])) { s with heap := h'', toks := tk + 1 } :=
      I.turnedNew (ch := [e, it]) (fun b ob hb q => (sb.2 b (fun z => hb (by simp [z]))).trans (hk b ob (fun z => hb (by simp [z])) (fun z => hb (by simp [z])) q)) hf (Nat.le_refl _) new
    refine ⟨.ref s.heap.objs.size, _, I1, rfl, ⟨_, c, rfl, I.hok.fresh (Nat.le_refl _), rfl, hc2⟩, ⟨⟨.str ⟨#[c]⟩ u, ?_⟩, strAt hit' fun o q => (sb.2 it (Ne.symm hne)).trans q, hne⟩, fun b hb => ?_⟩
    · have e1 : ((i + 1 : Nat) : Int) = (i : Int) + 1 := by omega
      rw [e1]; exact he'
    · have hb' : b < s.heap.objs.size := by
        have e' : b = e ∨ b = it := by simpa using hb
        rcases e' with z | z
        · rw [z]; exact hel
        · rw [z]; exact hil
      rw [upd_ne (Nat.ne_of_lt hb')]
      exact (hf b hb).1
  done := by
    intro X hP hw hK hc i pins s σ H E I hf st hg
    subst hP hw hK
    obtain ⟨⟨old, he⟩, hit, hne⟩ := st
    have hg : i = x.cps.size := hg
    subst hg
    obtain ⟨f0, f1, f2, f3, f4, f5⟩ := hf it (by simp)
    refine wpAny_pyNext_enum_endD (Draws.text (A := X.A.in1) (show X.A.in1.handled = none from I.ok.hd hc) it x t) he hit fun h' eb => ⟨rfl, I.turned (t' := s.toks) (fun b o hb q => eb b o hb q) f0 f1 f3 f4 f5⟩
  self := fun A i s Q E st h => let ⟨⟨_, he⟩, _⟩ := st; wpAny_pyIter_enum he h
/-! ### enumerate(e) as what is walked -/
theorem meets_enum1 {v : Value} {o : Obj} {H : Heap → Prop} (B : Begins v o H) :
    Meets (Builtin.«enumerate.__new__» ⟨[.type "enumerate", v], []⟩) (fun _ R s => H s.heap ∧
      R (.ok (.ret (.ref (s.heap.push o).objs.size))) { s with heap := (s.heap.push o).push { cls := .type "enumerate", data := .fields #[.none, .bool false, .ref s.heap.objs.size, rawInt 0, .none, .none] } }) :=
  .of_wp fun prog w A R s h => by
    obtain ⟨hp, g, d, tk, os⟩ := s; obtain ⟨h1, h⟩ := h
    have hsub := sub_enumerate
    have q1 : ∀ {A' : Around} {E : Value → Shared → Prop} {Q : Value → Shared → Prop}, Q (.ref hp.objs.size) ⟨hp.push o, g, d, tk, os⟩ → wpAny (model prog w) A' (pyIter v) Q E ⟨hp, g, d, tk, os⟩ :=
      fun q => B.iter prog w _ _ ⟨hp, g, d, tk, os⟩ _ h1 q
    wp_walk using q1
    refine wpAny_stack_any fun st => wpAny_pure ?_
    split
    · rename_i c _ _ _ _ _
      cases (c == Value.type "enumerate")
      · wp_walk using q1
        exact ⟨_, rfl, h⟩
      · wp_walk using q1
        exact ⟨_, rfl, h⟩
    · wp_walk using q1
      exact ⟨_, rfl, h⟩
theorem enum_begins1 {prog : Program} {w : World} {A : Around} {E : Value → Shared → Prop} {s : Shared} {v : Value} {o : Obj} {H : Heap → Prop} {Q : Value → Shared → Prop} (B : Begins v o H) (h1 : H s.heap)
    (h : ∀ h', IsEnum h' (s.heap.objs.size + 1) s.heap.objs.size 0 .none → h'.get? s.heap.objs.size = some o → h'.objs.size = s.heap.objs.size + 2 →
      (∀ b o, s.heap.get? b = some o → h'.get? b = some o) → Q (.ref (s.heap.objs.size + 1)) { s with heap := h' }) :
    wpAny (model prog w) A (call (.type "enumerate") [v]) Q E s := by
  refine callType_new F.called_enumerate (by decide) (F.typeCall_enumerate_1 _) (F.newCall_enumerate_1 _) (fun obj => F.args_object_init_2 obj _) F.entry_enumerate_new
    (meets_enum1 B) ⟨h1, ?_⟩
  have hz : (s.heap.push o).objs.size = s.heap.objs.size + 1 := Heap.size_push ..
  show _ ∧ _
  rw [hz]
  have he : IsEnum ((s.heap.push o).push { cls := .type "enumerate", data := .fields #[.none, .bool false, .ref s.heap.objs.size, rawInt 0, .none, .none] }) (s.heap.objs.size + 1) s.heap.objs.size 0 .none := by
    have := Heap.get?_push_size (s.heap.push o) (o := { cls := .type "enumerate", data := .fields #[.none, .bool false, .ref s.heap.objs.size, rawInt 0, .none, .none] }) rfl
    rw [hz] at this; exact this
  refine ⟨⟨_, he, rfl⟩, h _ he (Heap.get?_push_of_some _ (Heap.get?_push_size _ B.free)) (by rw [Heap.size_push, hz]) fun b o x => Heap.get?_push_of_some _ (Heap.get?_push_of_some _ x)⟩
def iEnumT (K : PySem.W.Frag) (ta : TA) : TI := fun σ H R => ta σ H fun vs H1 => ∃ a xs, vs = [.ref a] ∧ SqT K H1 a xs ∧ R (IteT K a) H1
def iEnumS (ta : TA) : TI := fun σ H R => ta σ H fun vs H1 => ∃ x, vs = [.str x] ∧ R (IteS x) H1
theorem fp_two {X : Cx} {pins : List (Addr × Obj)} {σ : L2.St} {H : Hp} {s1 : Shared} (I1 : Inv X pins σ H s1) {s2 : Shared} (I2 : Inv X pins σ H s2) : ∀ b ∈ [s1.heap.objs.size + 1, s1.heap.objs.size], FpOk X pins H b := fun b hb => by
  have e' : b = s1.heap.objs.size + 1 ∨ b = s1.heap.objs.size := by simpa using hb
  have hle : s1.heap.objs.size ≤ b := by
    rcases e' with z | z
    · rw [z]; exact Nat.le_add_right _ _
    · rw [z]; exact Nat.le_refl _
  exact I1.fpOk hle (I1.hok.fresh hle)
theorem pi_enumT {X : Cx} {e : Expr} {ta : TA} {p pos tpos : Pos} {elts : List Expr} {kk : Nat} (hg : Gl X "enumerate") (hm : X.mg "enumerate" = none) (ha : PA X [e] ta) (hs : starEach [e] X.env = [(false, eval e X.env)] := by rfl) :
    PI X (.Tuple elts kk tpos) (.Call (.Name "enumerate" p) [e] [] pos) (iEnumT X.K ta) := by
  refine ⟨fun pins s σ H R I h => ?_⟩
  refine Call_ (ld_blt I hg hm boot_enumerate (PyProof.Rows.callWith_type1 (thn (ha.run pos pins s σ H _ I h) fun us s1 ⟨vs, H1, I1, r1, q1⟩ => ?_) hs rfl))
  obtain ⟨a, xs, ex, hq, q⟩ := q1
  subst ex
  cases r1 with
  | cons r rr =>
    cases rr
    cases r
    obtain ⟨its, rv, p', hz⟩ := I1.tuple hq
    refine enum_begins1 (begins_tuple a its.toArray) (show s1.heap.IsTuple a its.toArray from p') fun h' he hit hsz hk => wpAny_pyIter_enum he ?_
    have I2 : Inv X pins σ H1 { s1 with heap := h' } := I1.kept (t' := s1.toks) hk
    exact ⟨s1.heap.objs.size + 1, [s1.heap.objs.size + 1, s1.heap.objs.size], _, _, H1, rfl, I2, turn_enumT a (s1.heap.objs.size + 1) s1.heap.objs.size, ⟨⟨.none, he⟩, ⟨_, hit, rfl, rfl⟩, Nat.succ_ne_self _⟩, fp_two I1 I2, q⟩
theorem pi_enumS {X : Cx} {e : Expr} {ta : TA} {p pos tpos : Pos} {elts : List Expr} {kk : Nat} (hg : Gl X "enumerate") (hm : X.mg "enumerate" = none) (ha : PA X [e] ta) (hs : starEach [e] X.env = [(false, eval e X.env)] := by rfl) :
    PI X (.Tuple elts kk tpos) (.Call (.Name "enumerate" p) [e] [] pos) (iEnumS ta) := by
  refine ⟨fun pins s σ H R I h => ?_⟩
  refine Call_ (ld_blt I hg hm boot_enumerate (PyProof.Rows.callWith_type1 (thn (ha.run pos pins s σ H _ I h) fun us s1 ⟨vs, H1, I1, r1, q1⟩ => ?_) hs rfl))
  obtain ⟨x, ex, q⟩ := q1
  subst ex
  cases r1 with
  | cons r rr =>
    cases rr
    obtain ⟨t, rfl⟩ := (show ∃ t, _ = Value.str x t from r)
    refine enum_begins1 (begins_text x t) trivial fun h' he hit hsz hk => wpAny_pyIter_enum he ?_
    have I2 : Inv X pins σ H1 { s1 with heap := h' } := I1.kept (t' := s1.toks) hk
    exact ⟨s1.heap.objs.size + 1, [s1.heap.objs.size + 1, s1.heap.objs.size], _, _, H1, rfl, I2, turn_enumS x t (s1.heap.objs.size + 1) s1.heap.objs.size, ⟨⟨.none, he⟩, ⟨_, hit, rfl, rfl⟩, Nat.succ_ne_self _⟩, fp_two I1 I2, q⟩
/-- the items with their numbers -/
def enumL (ds : List D) : List D := ds.mapIdx fun i d => .tup [.int (i : Nat), d]
theorem enumL_get {ds : List D} {i : Nat} {d : D} (h : ds[i]? = some d) : (enumL ds)[i]? = some (.tup [.int (i : Nat), d]) := by
  unfold enumL
  rw [List.getElem?_mapIdx, h]; rfl
theorem enumL_len (ds : List D) : (enumL ds).length = ds.length := by unfold enumL; rw [List.length_mapIdx]
/-- a walk that makes pairs, from one that does not -/
theorem walk_enum {K : PySem.W.Frag} {G : Gh} {σ : L2.St} {p : PS} {H : Hp} {z : Option Nat} {J J' : It} {ds : List D} (w : WalkOk K G σ p H z J ds) (hg : ∀ i H, J.go i H → J'.go i H) (hs : ∀ i H, J.stop i H → (∀ j, j < i → J.go j H) → J'.stop i H)
    (hy : ∀ i H v H', J.go i H → J'.yld i H v H' → ∃ T x, v = .ref T ∧ H T = none ∧ H' = upd H T (.tup [.int (i : Nat), x]) ∧ J.yld i H x H) : WalkOk K G σ p H z J' (enumL ds) := fun M2 H2 s mu dm => by
  obtain ⟨h1, h2, h3⟩ := w M2 H2 s mu dm
  rw [enumL_len]
  refine ⟨fun i hi => hg i H2 (h1 i hi), hs _ _ h2 h1, fun i v H3 hi y => ?_⟩
  obtain ⟨T, x, rfl, hT, rfl, y2⟩ := hy i H2 v H3 (h1 i hi) y
  obtain ⟨d, g1, g2, g3⟩ := h3 i x H2 hi y2
  refine ⟨_, enumL_get g1, same_upd hT, .tup (.inl ⟨.inl (upd_same), fun m => dm T m hT⟩) (.cons .int (.cons ?_ .nil))⟩
  exact Rep.mono K (fun a o e _ => same_upd hT a o e) (fun a m => .inl m) g3
theorem sqT_inj {K : PySem.W.Frag} {H : Hp} {a : Addr} {xs ys : List V} (h : ∀ ys, SqT K H a ys → ys = xs) (h2 : SqT K H a ys) : ys = xs := h ys h2
def dEn (da : Dn) : PS → R Iv := fun p => (da p).bind fun v p1 => match finI v p1 with
  | .ok iv p2 => .ok ⟨iv.z, enumL iv.items⟩ p2
  | .exc c p2 => .exc c p2
  | .bad => .bad
section
variable {s : Sx} {T : Tab} {pos : Pos}
theorem vi_enum {elts : List Expr} {kk : Nat} {tpos q : Pos} {e : Expr} {da : Dn} (ha : VE s T e da) (hg : s.sc.names.lookup ("enumerate" : Str) = some .globalImplicit) (hf : T.free "enumerate" = true) (hs : ∀ env, starEach [e] env = [(false, eval e env)] := by intro _; rfl) : VI s T (.Tuple elts kk tpos) (.Call (.Name "enumerate" q) [e] [] pos) (dEn da) := fun X W c tk => by
  have pe : PA X [e] _ := pa_cons (ha X W c tk) pa_nil (by rw [hs]; rfl)
  have gl : Gl X "enumerate" := by show X.env.scope.names.lookup ("enumerate" : Str) = _; rw [c.sc]; exact hg
  have fr := c.fac.free _ hf
  refine PI.of (Py.PI.or (pi_enum gl fr pe (hs _)) (Py.PI.or (pi_enumT gl fr pe (hs _)) (pi_enumS gl fr pe (hs _)))) fun σ H Q hh => ?_
  obtain ⟨G, p, o, h⟩ := hh
  unfold dEn at h
  cases e : da p with
  | bad => rw [e] at h; exact h.elim
  | exc c q =>
    rw [e] at h
    exact .inl ⟨G, p, o, by rw [e]; exact h⟩
  | ok v p1 =>
    rw [e] at h
    simp only [R.bind_ok] at h
    unfold finI at h
    cases e1 : opd v p1 with
    | none => rw [e1] at h; exact h.elim
    | some d =>
      rw [e1] at h
      cases e2 : itemsOf d with
      | none => simp only [e2] at h; exact h.elim
      | some ds =>
        simp only [e2] at h
        have k : ∀ J H', StpE X.K G σ p H p1 H' → WalkOk X.K G σ p1 H' (toLock p1.env v) J (enumL ds) → Q J H' := h
        cases d <;> simp only [itemsOf] at e2 <;> (try cases e2)
        · refine .inr (.inr ⟨G, p, o, ?_⟩)
          rw [e]
          intro u H1 s1 r1
          obtain ⟨rfl, w⟩ := walk_tx s1.ok r1 e1
          refine ⟨_, rfl, k _ _ s1 (walk_enum w (fun i H h => h) (fun i H h g => ?_) fun i H v H' _ ⟨T, c, h1, h2, h3, h4⟩ => ⟨T, _, h1, h2, h3, rfl, c, h4, rfl⟩)⟩
          rcases Nat.lt_or_ge (S _).cps.size i with z | z
          · exact absurd (show (S _).cps.size < (S _).cps.size from g _ z) (Nat.lt_irrefl _)
          · exact Nat.le_antisymm z h
        · refine .inr (.inl ⟨G, p, o, ?_⟩)
          rw [e]
          intro u H1 s1 r1
          obtain ⟨a, rfl, ⟨xs, h1⟩, w⟩ := walk_tp s1.ok r1 e1
          refine ⟨_, xs, rfl, h1, k _ _ s1 (walk_enum w (fun i H h => h) (fun i H h g => h) fun i H v H' _ ⟨T, c, h1, h2, h3, h4⟩ => ⟨T, _, h1, h2, h3, rfl, h4⟩)⟩
        · refine .inl ⟨G, p, o, ?_⟩
          rw [e]
          intro u H1 s1 r1
          obtain ⟨a, rfl, ⟨xs, h1⟩, w⟩ := walk_lst s1.ok r1 e1
          exact ⟨_, xs, rfl, h1, k _ _ s1 (walk_enum w (fun i H h => h) (fun i H h g => h) fun i H v H' _ ⟨T, c, h1, h2, h3, h4⟩ => ⟨T, _, h1, h2, h3, rfl, h4⟩)⟩
end
end Py
set_option maxRecDepth 100000
namespace Py
open PySem PySem.Spec PyProof.Rows L2

/-! ### comprehensions of several clauses -/
/-- what follows a clause's tests -/
def emitAt (elt : Expr) (gs : List Comprehension) (scope : Scope) (pos : Pos) (depth : Nat) (acc : Value) (env : Env) (k : Sem Fin) : Sem Fin :=
  match gs[depth]? with
  | some g' => do
    let x ← eval g'.iter env
    standAt g'.iter.pos
    let x ← foldedSetIterable g'.iter env x
    let _ ← runOwn (.compStart (.ListComp elt gs scope pos) depth (← holding [x] (pyIter x)) acc env) env
    k
  | none => do
    (do let _ ← call (.builtin "list.append") [acc, ← eval elt env])
    k
theorem compTurn_at (elt t i : Expr) (ifs : List Expr) (gs : List Comprehension) (scope : Scope) (pos : Pos) (depth : Nat) (it acc : Value) (env : Env) (hg : gs[depth]? = some ⟨t, i, ifs, 0⟩) (hn : ∀ g', gs[depth + 1]? = some g' → g'.is_async = 0) :
    compTurn (.ListComp elt gs scope pos) depth it acc env = (do
      standAt i.pos
      match ← pyNext it with
      | none => pure (.done .next)
      | some v =>
        letOwnedTupleGo t it v
        assign t env v
        let mut ok := true
        for c in ifs do
          if ok then ok ← isTrue c env (eval c env)
        if ok then
          emitAt elt gs scope pos (depth + 1) acc env (again (.compLoop (.ListComp elt gs scope pos) depth it acc env))
        else again (.compLoop (.ListComp elt gs scope pos) depth it acc env)) := by
  unfold compTurn emitAt
  simp only [hg]
  cases e : gs[depth + 1]? with
  | none => rfl
  | some g' =>
    obtain ⟨a, b, c, d⟩ := g'
    have := hn _ e
    cases (show d = 0 from this)
    rfl
section
variable {prog : Program} {w : World} {A : Around} {R : Result → Shared → Prop} {s : Shared} {elt t i : Expr} {ifs : List Expr} {gs : List Comprehension} {depth : Nat} {scope : Scope} {pos : Pos} {it acc : Value} {env : Env}
theorem compLoop_at (hg : gs[depth]? = some ⟨t, i, ifs, 0⟩) (hn : ∀ g', gs[depth + 1]? = some g' → g'.is_async = 0) (I : Nat → Shared → Prop)
    (turn : ∀ n s, I n s → wpAny (model prog w) A (pyNext it) (fun r s₁ => match r with
      | none => R (.ok .next) s₁
      | some v => wpAny (model prog w) A (letOwnedTupleGo t it v) (fun _ s₁' => wpAny (model prog w) A (assign t env v) (fun _ s₂ =>
          wpAny (model prog w) A (forIn ifs true fun c r => if r = true then do let ok ← isTrue c env (eval c env); pure (ForInStep.yield ok) else pure (ForInStep.yield r)) (fun ok s₃ =>
            if ok = true then ∀ (k : Sem Fin) (Q : Fin → Shared → Prop), (∀ s₅ m, m < n → I m s₅ → wpAny (model prog w) A k Q (notedBy (model prog w) A env fun e s' => R (.error e) s') s₅) → wpAny (model prog w) A (emitAt elt gs scope pos (depth + 1) acc env k) Q (notedBy (model prog w) A env fun e s' => R (.error e) s') s₃
            else ∃ m, m < n ∧ I m s₃) (notedBy (model prog w) A env fun e s' => R (.error e) s') s₂) (notedBy (model prog w) A env fun e s' => R (.error e) s') s₁') (notedBy (model prog w) A env fun e s' => R (.error e) s') s₁) (notedBy (model prog w) A env fun e s' => R (.error e) s') s)
    (n : Nat) (h : I n s) :
    codeAny (model prog w) A (.compLoop (.ListComp elt gs scope pos) depth it acc env) R s := by
  refine codeAny_loop rfl I (fun n s hI => ?_) n h
  show wpAny _ A ((compTurn (.ListComp elt gs scope pos) depth it acc env).onRaise (fun x => do noteFrame x env; theTreesLotGoes x)) _ _ s
  refine wpAny_noted ?_
  rw [compTurn_at elt t i ifs gs scope pos depth it acc env hg hn]
  refine wpAny_bind (wpAny_standAt (wpAny_bind (wpAny_mono (turn n s hI) (fun r s₁ h₁ => ?_) fun _ _ h' => h')))
  cases r with
  | none => exact wpAny_pure h₁
  | some v =>
    refine wpAny_bind (wpAny_mono h₁ (fun _ s₁' h₁' => ?_) fun _ _ h' => h')
    refine wpAny_bind (wpAny_mono h₁' (fun _ s₂ h₂ => wpAny_bind (wpAny_mono h₂ (fun ok s₃ h₃ => ?_) fun _ _ h' => h')) fun _ _ h' => h')
    cases ok with
    | false => exact wpAny_pure ⟨rfl, h₃⟩
    | true =>
      exact h₃ _ _ fun s₄ m hm hi => wpAny_pure ⟨rfl, m, hm, hi⟩
theorem compStart_at (hg : gs[depth]? = some ⟨t, i, ifs, 0⟩) (h0 : codeAny (model prog w) A (.compLoop (.ListComp elt gs scope pos) depth it acc env) R s)
    (h : wpAny (model prog w) A (pyIter it) (fun it' s' => codeAny (model prog w) A (.compLoop (.ListComp elt gs scope pos) depth it' acc env) R s')
      (notedBy (model prog w) A env fun x s' => R (.error x) s') s) :
    codeAny (model prog w) A (.compStart (.ListComp elt gs scope pos) depth it acc env) R s := by
  refine codeAny_of_tree ?_
  show wpAny _ _ ((compStart (.ListComp elt gs scope pos) depth it acc env).onRaise (fun x => do noteFrame x env; standAt theWindowsPlace)) _ _ s
  refine wpAny_notedAt ?_
  unfold compStart
  have e1 : (clausesOf (.ListComp elt gs scope pos))[depth]? = some ⟨t, i, ifs, 0⟩ := hg
  simp only [e1]
  show wpAny _ _ (ask >>= _) _ _ s
  refine wpAny_bind (wpAny_askSetting (wpAny_ite ?_))
  split
  · first
      | exact wpAny_bind (wpAny_pure (wpAny_pure (And.intro rfl h0)))
      | exact wpAny_pure (And.intro rfl h0)
  · first
      | exact wpAny_bind (wpAny_rule (wpAny_bind (wpAny_standAt (wpAny_bind (wpAny_mono h (fun it' s' h' => wpAny_pure (And.intro rfl h')) fun _ _ x => x)))))
      | (refine wpAny_bind (wpAny_rule ?_); show wpAny _ _ (standAt i.pos >>= _) _ _ s; exact wpAny_bind (wpAny_standAt (wpAny_bind (wpAny_mono h (fun it' s' h' => wpAny_pure (And.intro rfl h')) fun _ _ x => x))))
end
abbrev TC := L2.St → Hp → (Hp → Prop) → Prop
/-- the rest of a comprehension from a clause on, in the block's context: D the list, vs the names that it and the later ones set -/
structure PCl (B : Cx) (elt : Expr) (gs : List Comprehension) (scope : Scope) (pos : Pos) (depth : Nat) (D : Addr) (vs : List Nat) (t : TC) : Prop where
  run : ∀ (pins : List (Addr × Obj)) (s : Shared) (σ : L2.St) (H : Hp) (Nx : Hp → Prop), Inv B pins σ H s → t σ H Nx → ∀ (k : Sem Fin) (Q : Fin → Shared → Prop) (E : Value → Shared → Prop),
    (∀ s' σ' H', Inv B pins σ' H' s' → σ'.length = σ.length → (∀ (j : Nat) v, (wipe σ vs)[j]? = some (some v) → σ'[j]? = some (some v)) → Nx H' → wpAny (model B.prog B.w) B.A k Q E s') →
    wpAny (model B.prog B.w) B.A (emitAt elt gs scope pos depth (.ref D) B.env k) Q E s
def tcEnd (D : Addr) (te : TE) : TC := fun σ H Nx => te σ H fun y H' => ∃ acc, H' D = some (.lst acc) ∧ acc.length < sizeLine ∧ Nx (upd H' D (.lst (acc ++ [y])))
def tcFor (wi : TI) (g : TG) (tt : TT) (vs : List Nat) (rest : TC) : TC := fun σ H Nx => wi σ H fun J H1 => ∃ W : Nat → Nat → Hp → Prop, (∃ m, W 0 m H1) ∧ ∀ j k H, W j k H →
  (J.stop j H ∧ Nx H) ∨ (J.go j H ∧ ∃ Nx1 : Hp → Prop, (∀ H', Nx1 H' → ∃ k', k' < k ∧ W (j + 1) k' H') ∧ ∀ x H', J.yld j H x H' → g x (wipe σ vs) H' fun σ3 H5 => wipe σ3 vs = wipe σ vs ∧ tt σ3 H5 fun b H6 =>
    if b = true then rest σ3 H6 Nx1 else Nx1 H6)
section
variable {B : Cx} {elt : Expr} {gs : List Comprehension} {scope : Scope} {pos : Pos} {depth : Nat} {D : Addr}
theorem thnN {α : Type} {P : Program} {w : World} {A : Around} {m : Sem α} {Q Q' : α → Shared → Prop} {E : Value → Shared → Prop} {s : Shared} (h : wpAny (model P w) A m Q (fun _ _ => False) s) (k : ∀ a s', Q a s' → Q' a s') : wpAny (model P w) A m Q' E s := wpAny_mono h k fun _ _ h => h.elim
theorem pcl_end {te : TE} (hxe : B.xe = fun _ _ => False) (hg : gs[depth]? = none) (he : PE B elt te) : PCl B elt gs scope pos depth D [] (tcEnd D te) := ⟨fun pins s σ H Nx I h k Q E hk => by
  unfold emitAt
  rw [hg]
  have h1 := he.run pins s σ H _ I h
  rw [hxe] at h1
  refine wpAny_bind (wpAny_bind (thnF h1 fun z s1 ⟨y, H1, I1, r1, acc, hD, hl, nx⟩ => ?_))
  refine wpAny_bind (app_ok I1 hD hl r1 fun s2 I2 => ?_)
  exact wpAny_pure (hk s2 σ _ I2 rfl (fun j v e => e) nx)⟩
theorem pcl_for {t i : Expr} {ifs : List Expr} {wi : TI} {g : TG} {tt : TT} {vs : List Nat} {rest : TC} (hxe : B.xe = fun _ _ => False) (hc : B.calm = true) (hg : gs[depth]? = some ⟨t, i, ifs, 0⟩) (hn : ∀ g', gs[depth + 1]? = some g' → g'.is_async = 0)
    (hs : ∀ env x, foldedSetIterable i env x = pure x) (hi : PI B t i wi) (pg : PG B t g) (pt : PTs B ifs tt) {vs' : List Nat} (hsub : ∀ i ∈ vs', i ∈ vs) (hr : PCl B elt gs scope pos (depth + 1) D vs' rest) : PCl B elt gs scope pos depth D vs (tcFor wi g tt vs rest) := ⟨fun pins s σ H Nx I h k Q E hk => by
  unfold emitAt
  rw [hg]
  have g0 := hi.run pins s σ H _ I h
  rw [hxe] at g0
  refine wpAny_bind (thnF g0 fun xv s10 hx => ?_)
  refine wpAny_bind (wpAny_standAt (wpAny_bind (wpAny_of_eq (hs _ _) (wpAny_bind (wpAny_holding (thnF hx fun itv s11 h11 => ?_))))))
  obtain ⟨it1, fp1, tn1, J1, H11, e1, I11, T1, st11, f11, W1, ⟨m1, w1⟩, turn1⟩ := h11
  subst e1
  have stat1 : ∀ {H' : Hp}, (∀ b ∈ fp1, H' b = none) → ∀ b ∈ fp1, FpOk B pins H' b := fun hn b hb => ⟨hn b hb, (f11 b hb).2⟩
  have loop1 : codeAny (model B.prog B.w) B.A (.compLoop (.ListComp elt gs scope pos) depth (.ref it1) (.ref D) B.env)
      (fun r s' => match r with
        | .ok _ => ∃ H', Inv B pins (wipe σ vs) H' s' ∧ Nx H'
        | .error _ => False) s11 := by
    refine compLoop_at hg hn (fun k s' => ∃ j H', Inv B pins (wipe σ vs) H' s' ∧ tn1 j s'.heap ∧ (∀ b ∈ fp1, H' b = none) ∧ W1 j k H') ?_ m1 ⟨0, H11, I11.weak (wipe_length _ _) (fun j v e => (wipe_some e).1), st11, fun b hb => (f11 b hb).1, w1⟩
    rintro k s12 ⟨j, H12, I12, st12, n12, w12⟩
    rcases turn1 j k H12 w12 with ⟨stop1, nx1⟩ | ⟨go1, Nx1, hNx1, step1⟩
    · refine thnF (T1.done B rfl rfl rfl hc j _ s12 (wipe σ vs) H12 (fun _ _ => False) I12 (stat1 n12) st12 stop1) fun r s13 ⟨hr, I13⟩ => ?_
      subst hr
      exact ⟨_, I13, nx1⟩
    · refine thnF (T1.item B rfl rfl rfl hc j _ s12 (wipe σ vs) H12 (fun _ _ => False) I12 (stat1 n12) st12 go1) fun r s13 ⟨u1, hr, h13⟩ => ?_
      subst hr
      refine thnF h13 fun _ s14 ⟨x1, H14, I14, r14, y14, st14, n14⟩ => ?_
      have I14' := I14.pinned (stat1 n14) (T1.obj _ _ st14)
      have g1 := pg.run _ s14 (wipe σ vs) H14 x1 u1 _ I14' r14 (step1 x1 H14 y14)
      rw [hxe] at g1
      refine thnF g1 fun _ s15 ⟨σ15, H15, I15, hw15, q15⟩ => ?_
      have g2 := pt.run _ s15 σ15 H15 _ I15 q15
      rw [hxe] at g2
      refine thnF g2 fun b1 s16 ⟨H16, I16, q16⟩ => ?_
      have fin1 : ∀ {s' : Shared} {H' : Hp} {σ9 : L2.St}, Inv B (pins ++ pinsAt fp1 s14.heap) σ9 H' s' → σ9.length = σ15.length → (∀ (j : Nat) v, (wipe σ15 vs')[j]? = some (some v) → σ9[j]? = some (some v)) → Nx1 H' → ∃ m, m < k ∧ ∃ j H', Inv B pins (wipe σ vs) H' s' ∧ tn1 j s'.heap ∧ (∀ b ∈ fp1, H' b = none) ∧ W1 j m H' := fun {s' H' σ9} I' hl9 hk9 nx => by
        obtain ⟨m', hm, w'⟩ := hNx1 H' nx
        have pin' : ∀ b ∈ fp1, ∀ o, s14.heap.get? b = some o → s'.heap.get? b = some o ∧ H' b = none := fun b hb o e =>
          let z := I'.pin (b, o) (List.mem_append_right _ (List.mem_append_right _ (mem_pinsAt hb e)))
          ⟨z.1, z.2.1⟩
        refine ⟨m', hm, j + 1, H', I'.unpinned.weak (by rw [hl9, ← hw15, wipe_length]) (fun j v e => by
          rw [← hw15] at e
          obtain ⟨e1, e2⟩ := wipe_some e
          exact hk9 j v (by rw [wipe_out fun z => e2 (hsub j z)]; exact e1)), T1.keep _ _ _ st14 fun b hb o e => (pin' b hb o e).1, fun b hb => ?_, w'⟩
        obtain ⟨o, e, _⟩ := T1.obj _ _ st14 b hb
        exact (pin' b hb o e).2
      cases b1 with
      | false =>
        simp only [Bool.false_eq_true, if_false] at q16 ⊢
        exact fin1 I16 rfl (fun j v e => (wipe_some e).1) q16
      | true =>
        simp only [if_true] at q16 ⊢
        intro k2 Q2 hk2
        refine hr.run _ s16 σ15 H16 _ I16 q16 k2 Q2 _ fun s17 σ17 H17 I17 h1 h2 nx => ?_
        obtain ⟨m, hm, w⟩ := fin1 I17 h1 h2 nx
        exact hk2 s17 m hm w
  refine wpAny_bind (wpAny_runOwn ?_)
  rw [Around.mark_none]
  refine codeAny_mono (compStart_at hg loop1 (T1.self B.A 0 _ _ _ st11 loop1)) fun r s' hr => ?_
  cases r with
  | ok f =>
    obtain ⟨H', I', nx⟩ := hr
    exact hk s' _ H' I' (wipe_length _ _) (fun j v e => e) nx
  | error e => exact hr.elim⟩
end
def tLcN (wi : TI) (g : TG) (tt : TT) (tc : Addr → TC) (vs : List Nat) : TE := fun σ H Q => wi σ H fun J H1 => ∀ D, H1 D = none → ∃ W : Nat → Nat → Hp → Prop, (∃ m, W 0 m (upd H1 D (.lst []))) ∧ ∀ i m H, W i m H →
  (J.stop i H ∧ Q (.ref D) H) ∨ (J.go i H ∧ ∃ Nx : Hp → Prop, (∀ H', Nx H' → ∃ m', m' < m ∧ W (i + 1) m' H') ∧ ∀ x H', J.yld i H x H' → g x (wipe σ vs) H' fun σ2 H2 => wipe σ2 vs = wipe σ vs ∧ tt σ2 H2 fun b H3 =>
    if b = true then tc D σ2 H3 Nx else Nx H3)
theorem lcN_core {X : Cx} {pins : List (Addr × Obj)} {s : Shared} {σ : L2.St} {H : Hp} {Q : VK} {elt tg iter : Expr} {ifs : List Expr} {gs : List Comprehension} {scope : Scope} {own : List (Str × Nat)} {vs1 : List Nat} {pos pos' : Pos} {wi : TI} {g : TG} {tt : TT} {tc : Addr → TC} {use : Option (Value → Sem Unit)} {Qf : Value → Shared → Prop}
    (hc : X.calm = true) (hN : X.N.Nodup) (I : Inv X pins σ H s) (hi : PI X tg iter wi) (ok : BlkOk X.N X.env.scope scope own) (hv : ∀ i ∈ vs1, i ∈ own.map (·.2))
    (hg : ∀ (s : Shared) (H : Hp) (C : Addr) (cl : List (Str × Addr)) (fp : List Addr), PG (X.blk s H scope (compEnvC scope cl C X.env) fp) tg g) (ht : ∀ (s : Shared) (H : Hp) (C : Addr) (cl : List (Str × Addr)) (fp : List Addr), PTs (X.blk s H scope (compEnvC scope cl C X.env) fp) ifs tt)
    (hr : ∀ (s : Shared) (H : Hp) (C : Addr) (cl : List (Str × Addr)) (fp : List Addr) (D : Addr), PCl (X.blk s H scope (compEnvC scope cl C X.env) fp) elt (⟨tg, iter, ifs, 0⟩ :: gs) scope pos 1 D vs1 (tc D)) (hs : ∀ x, foldedSetIterable iter X.env x = pure x) (hn : ∀ g', gs[0]? = some g' → g'.is_async = 0)
    (h : tLcN wi g tt tc (own.map (·.2)) σ H Q)
    (hRR : ∀ D C s' m H', Inv X pins σ H' s' → Q (.ref D) H' → s'.heap.Ns C m → FpOk X pins H' C → compPost (model X.prog X.w) X.A X.xe use Qf (.ref D) C (.ok .next) s') :
    wpAny (model X.prog X.w) X.A (comprehension (.ListComp elt (⟨tg, iter, ifs, 0⟩ :: gs) scope pos) scope X.env pos' (newList []) false (eval iter X.env) use) Qf X.xe s := by
  have hfree : ∀ y ∈ scope.names, y.2 = .free → ∃ c, X.env.cells.lookup y.1 = some c := fun y hy e => by
    rcases ok.free y hy e with k | k
    · exact I.ok.has _ (.inl k)
    · exact I.ok.has _ (.inr k)
  refine wpAny_comprehension_free (use := use) rfl hs (closure_ok hfree) ok.kind (fun y hy e => by rw [ok.uniq y hy, e])
    (thn (hi.run pins s σ H _ I h) fun xv s1 hx => thn hx fun itv s2 h2 => ?_)
  obtain ⟨it, fp, tn, J, H2, e, I2, T, st2, f2, q⟩ := h2
  subst e
  refine wpAny_newObj_type (newEnv_comp ?_) (by show 0 ≤ sizeLine; decide)
  generalize hD : s2.heap.objs.size = D
  have hDn : H2 D = none := I2.hok.fresh (Nat.le_of_eq hD)
  obtain ⟨W, ⟨m0, w0⟩, turn⟩ := q D hDn
  -- the new list
  generalize hs3 : ({ s2 with heap := s2.heap.push { cls := .type "list", data := .seq ([] : List Value).toArray } } : Shared) = s3
  have I3 : Inv X pins σ (upd H2 D (.lst [])) s3 := by
    rw [← hs3]
    refine I2.laid (t' := s2.toks) (fun b o e => Heap.get?_push_of_some _ e) (Nat.le_of_eq hD) ⟨Nat.zero_le _, [], 0, .nil, ?_⟩
    rw [← hD]
    exact Heap.get?_push_size _ rfl
  have h3 : s3.heap = s2.heap.push { cls := .type "list", data := .seq ([] : List Value).toArray } := by rw [← hs3]
  have sz : ∀ b ∈ fp, b < s2.heap.objs.size := fun b hb => by
    obtain ⟨o, e, _⟩ := T.obj _ _ st2 b hb
    exact Heap.lt_size e
  have f3 : ∀ b ∈ fp, FpOk X pins (upd H2 D (.lst [])) b ∧ b < s3.heap.objs.size := fun b hb => by
    have hlt := sz b hb
    refine ⟨⟨?_, (f2 b hb).2⟩, by rw [h3, Heap.size_push]; exact Nat.lt_succ_of_lt hlt⟩
    rw [upd_ne (by rw [← hD]; exact Nat.ne_of_lt hlt)]
    exact (f2 b hb).1
  have st3 : tn 0 s3.heap := T.keep _ _ _ st2 fun b _ o e => by rw [h3]; exact Heap.get?_push_of_some _ e
  have I4 := block_start I3 ok hN f3
  have pg := hg s3 (upd H2 D (.lst [])) s3.heap.objs.size (cellsFrom (s3.heap.objs.size + 1) scope.names (cloFrom X.env.cells scope.names [])) fp
  have pt := ht s3 (upd H2 D (.lst [])) s3.heap.objs.size (cellsFrom (s3.heap.objs.size + 1) scope.names (cloFrom X.env.cells scope.names [])) fp
  have pr := fun D' => hr s3 (upd H2 D (.lst [])) s3.heap.objs.size (cellsFrom (s3.heap.objs.size + 1) scope.names (cloFrom X.env.cells scope.names [])) fp D'
  show codeAny _ _ (.compStart (.ListComp elt (⟨tg, iter, ifs, 0⟩ :: gs) scope pos) 0 (.ref it) (.ref D) (compEnvC scope (cellsFrom (s3.heap.objs.size + 1) scope.names (cloFrom X.env.cells scope.names [])) s3.heap.objs.size X.env)) (compPost (model X.prog X.w) X.A X.xe use Qf (.ref D) s3.heap.objs.size) { s3 with heap := pushCells (s3.heap.push { cls := .type "dict", data := .dict #[] }) scope.names }
  have nfp : ∀ b ∈ fp, (upd H2 D (.lst [])) b = none := fun b hb => (f3 b hb).1.1
  generalize hce : compEnvC scope (cellsFrom (s3.heap.objs.size + 1) scope.names (cloFrom X.env.cells scope.names [])) s3.heap.objs.size X.env = ce at I4 pg pt pr ⊢
  have cL : ce.locals = s3.heap.objs.size := by subst hce; rfl
  generalize hH3 : upd H2 D (.lst []) = H3 at I3 I4 pg pt pr w0 nfp f3
  generalize hs4 : ({ s3 with heap := pushCells (s3.heap.push { cls := .type "dict", data := .dict #[] }) scope.names } : Shared) = s4 at I4 ⊢
  have st4 : tn 0 s4.heap := T.keep _ _ _ st3 fun b _ o e => by rw [← hs4]; exact pushCells_keeps _ _ _ _ (Heap.get?_push_of_some _ e)
  have stat : ∀ {σ' : L2.St} {H' : Hp} {s' : Shared}, Inv (X.blk s3 H3 scope ce fp) [] σ' H' s' → (∀ b ∈ fp, H' b = none) → ∀ b ∈ fp, FpOk (X.blk s3 H3 scope ce fp) [] H' b := fun {σ' H' s'} I' hn b hb =>
    ⟨hn b hb, (I'.ok.exf b hb).1, I'.ok.exfs b hb, .inl hb, fun x c e => (I'.ok.exf b hb).2 x c e, fun p hp => absurd (show p ∈ ([] : List (Addr × Obj)) ++ [] from hp) (by simp)⟩
  have loop : codeAny (model X.prog X.w) X.A (.compLoop (.ListComp elt (⟨tg, iter, ifs, 0⟩ :: gs) scope pos) 0 (.ref it) (.ref D) ce) (compPost (model X.prog X.w) X.A X.xe use Qf (.ref D) s3.heap.objs.size) s4 := by
    refine compLoop_at rfl hn (fun n s' => ∃ i H', Inv (X.blk s3 H3 scope ce fp) [] (wipe σ (own.map (·.2))) H' s' ∧ tn i s'.heap ∧ (∀ b ∈ fp, H' b = none) ∧ W i n H') ?_ m0 ⟨0, H3, I4, st4, nfp, w0⟩
    rintro n s5 ⟨i, H5, I5, st5, n5, w5⟩
    rcases turn i n H5 w5 with ⟨stop, qq⟩ | ⟨go, Nx, hNx, step⟩
    · have td := T.done (X.blk s3 H3 scope ce fp) rfl rfl rfl hc i [] s5 _ H5 (fun _ _ => False) I5 (stat I5 n5) st5 stop
      refine thnF td fun r s6 ⟨hr, I6⟩ => ?_
      subst hr
      -- back in the def's context
      have I7 : Inv X pins σ H5 s6 := I3.call' (ch := fp) I6.os I6.base I6.hok I6.bare fun b hb => ⟨(f3 b hb).1.2.2.2.1, (f3 b hb).1.2.1, (f3 b hb).1.2.2.2.2.1, (f3 b hb).1.2.2.2.2.2⟩
      have nC : H5 s3.heap.objs.size = none := by
        have z : H5 ce.locals = none := I6.free
        rw [cL] at z
        exact z
      obtain ⟨m, hn, _⟩ := I6.loc
      have hn : s6.heap.Ns ce.locals m := hn
      rw [cL] at hn
      exact hRR D s3.heap.objs.size s6 m H5 I7 qq hn (I3.fpOk (Nat.le_refl _) nC)
    · have ti := T.item (X.blk s3 H3 scope ce fp) rfl rfl rfl hc i [] s5 _ H5 (fun _ _ => False) I5 (stat I5 n5) st5 go
      refine thnF ti fun r s6 ⟨u, hr, h6⟩ => ?_
      subst hr
      refine thnF h6 fun _ s7 ⟨x, H7, I7, r7, y7, st7, n7⟩ => ?_
      have I7' := I7.pinned (stat I7 n7) (T.obj _ _ st7)
      refine thnF (pg.run _ s7 _ H7 x u _ I7' r7 (step x H7 y7)) fun _ s8 ⟨σ8, H8, I8, hw8, q8⟩ => ?_
      refine thnF (pt.run _ s8 σ8 H8 _ I8 q8) fun b s9 ⟨H9, I9, q9⟩ => ?_
      -- the turn's end, from any slots that know what the block knew at its start
      have fin : ∀ {σ9 : L2.St} {s' : Shared} {H' : Hp}, Inv (X.blk s3 H3 scope ce fp) ([] ++ pinsAt fp s7.heap) σ9 H' s' → (wipe σ (own.map (·.2))).length = σ9.length → (∀ (j : Nat) v, (wipe σ (own.map (·.2)))[j]? = some (some v) → σ9[j]? = some (some v)) → Nx H' →
          ∃ m, m < n ∧ ∃ i H', Inv (X.blk s3 H3 scope ce fp) [] (wipe σ (own.map (·.2))) H' s' ∧ tn i s'.heap ∧ (∀ b ∈ fp, H' b = none) ∧ W i m H' := fun {σ9 s' H'} I' hl hk nx => by
        obtain ⟨m', hm, w'⟩ := hNx H' nx
        have pin' : ∀ b ∈ fp, ∀ o, s7.heap.get? b = some o → s'.heap.get? b = some o ∧ H' b = none := fun b hb o e =>
          let z := I'.pin (b, o) (List.mem_append_right _ (List.mem_append_right _ (mem_pinsAt hb e)))
          ⟨z.1, z.2.1⟩
        refine ⟨m', hm, i + 1, H', (I'.unpinned (pins := [])).weak hl hk, T.keep _ _ _ st7 fun b hb o e => (pin' b hb o e).1, fun b hb => ?_, w'⟩
        obtain ⟨o, e, _⟩ := T.obj _ _ st7 b hb
        exact (pin' b hb o e).2
      have hl8 : (wipe σ (own.map (·.2))).length = σ8.length := by rw [← hw8, wipe_length]
      have hk8 : ∀ (j : Nat) v, (wipe σ (own.map (·.2)))[j]? = some (some v) → σ8[j]? = some (some v) := fun j v e => by
        rw [← hw8] at e
        exact (wipe_some e).1
      cases b with
      | false =>
        simp only [Bool.false_eq_true, if_false] at q9 ⊢
        exact fin I9 hl8 hk8 q9
      | true =>
        simp only [if_true] at q9 ⊢
        intro k2 Q2 hk2
        refine (pr D).run _ s9 σ8 H9 _ I9 q9 k2 Q2 _ fun s17 σ17 H17 I17 h1 h2 nx => ?_
        obtain ⟨m, hm, w⟩ := fin I17 (hl8.trans h1.symm) (fun j v e => by
          rw [← hw8] at e
          obtain ⟨e1, e2⟩ := wipe_some e
          exact h2 j v (by rw [wipe_out fun z => e2 (hv j z)]; exact e1)) nx
        exact hk2 s17 m hm w
  exact codeAny_compStart_list loop (T.self X.A 0 _ _ _ st4 loop)
theorem pe_lcN {X : Cx} {elt tg iter : Expr} {ifs : List Expr} {gs : List Comprehension} {scope : Scope} {own : List (Str × Nat)} {vs1 : List Nat} {pos : Pos} {wi : TI} {g : TG} {tt : TT} {tc : Addr → TC} (hc : X.calm = true) (hN : X.N.Nodup) (hi : PI X tg iter wi) (ok : BlkOk X.N X.env.scope scope own) (hv : ∀ i ∈ vs1, i ∈ own.map (·.2))
    (hg : ∀ (s : Shared) (H : Hp) (C : Addr) (cl : List (Str × Addr)) (fp : List Addr), PG (X.blk s H scope (compEnvC scope cl C X.env) fp) tg g) (ht : ∀ (s : Shared) (H : Hp) (C : Addr) (cl : List (Str × Addr)) (fp : List Addr), PTs (X.blk s H scope (compEnvC scope cl C X.env) fp) ifs tt)
    (hr : ∀ (s : Shared) (H : Hp) (C : Addr) (cl : List (Str × Addr)) (fp : List Addr) (D : Addr), PCl (X.blk s H scope (compEnvC scope cl C X.env) fp) elt (⟨tg, iter, ifs, 0⟩ :: gs) scope pos 1 D vs1 (tc D)) (hs : ∀ x, foldedSetIterable iter X.env x = pure x) (hn : ∀ g', gs[0]? = some g' → g'.is_async = 0) :
    PE X (.ListComp elt (⟨tg, iter, ifs, 0⟩ :: gs) scope pos) (tLcN wi g tt tc (own.map (·.2))) := by
  refine ⟨fun pins s σ H Q I h => ?_⟩
  rw [eval_ListComp]
  refine lcN_core hc hN I hi ok hv hg ht hr hs hn h fun D C s' m H' I' q hn f => ⟨m, hn, fun h'' sb => ?_⟩
  obtain ⟨f0, f1, f2, f3, f4, f5⟩ := f
  exact ⟨.ref D, H', I'.turned (t' := s'.toks) (fun b o hb e => (sb.2 b hb).trans e) f0 f1 f3 f4 f5, rfl, q⟩
end Py
set_option maxRecDepth 100000
namespace Py
open PySem PySem.Spec PyProof.Rows L2

/-! ### the meaning of a comprehension of several clauses -/
abbrev RC := List D → PS → R (List D)
def rEnd (de : Dn) : RC := fun acc p => bindN (de p) fun v p2 => match v.soft with
  | .sh e => if acc.length < 16777216 then .ok (acc ++ [e]) p2 else .bad
  | _ => .bad
def cL (vs : List Nat) (tg : Tgd) (dt : Dn) (rest : RC) : List D → RC
  | [], acc, p => .ok acc p
  | d :: ds, acc, p => match tg d p.env with
    | none => .bad
    | some env' => bindN (dt ⟨env', p.src⟩) fun b p1 => onBL b p1
      (fun p1 => bindN (rest acc p1) fun acc p2 => cL vs tg dt rest ds acc ⟨clrE p2.env vs, p2.src⟩)
      (fun p1 => cL vs tg dt rest ds acc ⟨clrE p1.env vs, p1.src⟩)
def rFor (vs : List Nat) (di : PS → R Iv) (tg : Tgd) (dt : Dn) (rest : RC) : RC := fun acc p => bindN (di p) fun iv p1 =>
  match iv.z with
  | none => cL vs tg dt rest iv.items acc ⟨clrE p1.env vs, p1.src⟩
  | some _ => .bad
def dCompN (own : List Nat) (di : PS → R Iv) (tg : Tgd) (dt : Dn) (rest : RC) : Dn := fun p => (di p).bind fun iv p1 =>
  if freeOwn own p1.env = true ∧ lockOk iv.z p1.env = true then
    bindN (cL own tg dt rest iv.items [] ⟨clrE (lockE iv.z p1.env) own, p1.src⟩) fun ds p2 => .ok (.ow (.lst ds)) ⟨unlockE iv.z (resE p1.env p2.env own), p2.src⟩
  else .bad

section
variable {K : PySem.W.Frag} {G : Gh} {σ σ' σ1 σ2 : L2.St} {H H' H1 H2 : Hp} {p p' p1 p2 : PS} {vs own : List Nat} {L : Addr} {acc acc1 acc2 : List D} {cl : Nat → Addr}
/-- a stretch within a comprehension's block: L, its list, may be written -/
structure CS (K : PySem.W.Frag) (G : Gh) (L : Addr) (vs : List Nat) (σ : L2.St) (p : PS) (H : Hp) (σ2 : L2.St) (p2 : PS) (H2 : Hp) (acc2 : List D) : Prop where
  fr : ∀ a o, H a = some o → ¬ Lm G σ p.env a → a ≠ L → H2 a = some o
  dom : ∀ a, H2 a = none → H a = none
  ok : Ok K G σ2 H2 p2
  same : SameE (clrE p.env vs) (clrE p2.env vs)
  wip : wipe σ2 vs = wipe σ vs
  free : freeOwn vs p.env = true
  lst : ∃ xs, H2 L = some (.lst xs) ∧ RepL K (Mu G σ2 p2.env) H2 xs acc2
theorem free_of {e e' : List Sl} (s : SameE (clrE e vs) (clrE e' vs)) (f : freeOwn vs e' = true) {i : Nat} {l z : Bool} {d : D} (h : e'[i]? = some (.own l z d)) : i ∉ vs ∧ ∃ d', e[i]? = some (.own l z d') := by
  have hm := own_free f h
  obtain ⟨d', h'⟩ := s.symm_own (by rw [clrE_out hm]; exact h)
  exact ⟨hm, d', (clr_own h').2⟩
theorem freeOwn_of {e : List Sl} (h : ∀ i ∈ vs, ∀ l z d, e[i]? ≠ some (.own l z d)) : freeOwn vs e = true := by
  unfold freeOwn
  rw [List.all_eq_true]
  intro i hi
  split
  · rename_i l z d e1; exact absurd e1 (h i hi l z d)
  · rfl
theorem nL (hL : G.mx L) (o : Ok K G σ H p) : ¬ Lm G σ p.env L := by
  rintro (⟨q, e, z⟩ | ⟨i, l, d, h1, h2⟩)
  · obtain ⟨_, _, _, h4, h5⟩ := o.ga q e
    rcases z with z | z
    · exact h4 (z ▸ hL)
    · exact h5 (z ▸ hL)
  · obtain ⟨b, h3, _, h4, _⟩ := o.ow i l false d h1
    rw [h2] at h3; cases h3
    exact h4 hL
theorem CS.mu_ (c : CS K G L vs σ p H σ2 p2 H2 acc2) (f2 : freeOwn vs p2.env = true) : Mu G σ2 p2.env = Mu G σ p.env := by
  rw [← clr_mu (σ := σ2) f2, ← clr_mu (σ := σ) c.free, c.wip, c.same.mu]
theorem CS.lm_ (c : CS K G L vs σ p H σ2 p2 H2 acc2) (f2 : freeOwn vs p2.env = true) : Lm G σ2 p2.env = Lm G σ p.env := by
  rw [← clr_lm (σ := σ2) f2, ← clr_lm (σ := σ) c.free, c.wip, c.same.lm]
theorem CS.refl (o : Ok K G σ H p) (f : freeOwn vs p.env = true) (l : ∃ xs, H L = some (.lst xs) ∧ RepL K (Mu G σ p.env) H xs acc) : CS K G L vs σ p H σ p H acc := ⟨fun _ _ h _ _ => h, fun _ h => h, o, .refl _, rfl, f, l⟩
theorem CS.trans (c : CS K G L vs σ p H σ1 p1 H1 acc1) (d : CS K G L vs σ1 p1 H1 σ2 p2 H2 acc2) : CS K G L vs σ p H σ2 p2 H2 acc2 where
  fr := fun a o h n z => d.fr a o (c.fr a o h n z) (by rw [c.lm_ d.free]; exact n) z
  dom := fun a h => c.dom a (d.dom a h)
  ok := d.ok
  same := c.same.trans d.same
  wip := d.wip.trans c.wip
  free := c.free
  lst := d.lst
/-- an expression -/
theorem CS.stp (hL : G.mx L) (c : CS K G L vs σ p H σ1 p1 H1 acc) (f1 : freeOwn vs p1.env = true) (s : StpE K G σ1 p1 H1 p2 H2) : CS K G L vs σ p H σ1 p2 H2 acc ∧ freeOwn vs p2.env = true := by
  have f2 : freeOwn vs p2.env = true := freeOwn_of fun i hi l z d e => by
    obtain ⟨d', e⟩ := s.2.symm_own e
    exact own_free f1 e hi
  have sm : SameE (clrE p1.env vs) (clrE p2.env vs) := by
    refine ⟨by rw [clrE_len, clrE_len, s.2.1], fun i x h => ?_⟩
    have hi : i < p1.env.length := by
      have := (List.getElem?_eq_some_iff.mp h).1
      rwa [clrE_len] at this
    have hi' : i < p2.env.length := by rw [← s.2.1]; exact hi
    by_cases hm : i ∈ vs
    · rw [clrE_in hi hm] at h; cases h
      exact ⟨_, clrE_in hi' hm, rfl⟩
    · rw [clrE_out hm] at h
      obtain ⟨y, h1, h2⟩ := s.2.2 i x h
      exact ⟨y, by rw [clrE_out hm]; exact h1, h2⟩
  refine ⟨c.trans ⟨fun a o h n _ => s.1.fr a o h n, s.1.dom, s.1.ok, sm, rfl, f1, ?_⟩, f2⟩
  obtain ⟨xs, h1, h2⟩ := c.lst
  exact ⟨xs, s.1.fr _ _ h1 (nL hL c.ok), s.1.repL h2⟩
/-- the heap grows -/
theorem CS.grow (c : CS K G L vs σ p H σ1 p1 H1 acc) (s : Same H1 H2) : CS K G L vs σ p H σ1 p1 H2 acc := by
  obtain ⟨xs, h1, h2⟩ := c.lst
  exact ⟨fun a o e n z => s _ _ (c.fr a o e n z), fun a h => c.dom a (s.free h), c.ok.grow s, c.same, c.wip, c.free, xs, s _ _ h1, RepL.mono K (fun a o e _ => s a o e) (fun a z => .inl z) h2⟩
/-- the names go -/
theorem CS.clr (c : CS K G L vs σ p H σ1 p1 H1 acc) (f1 : freeOwn vs p1.env = true) : CS K G L vs σ p H (wipe σ1 vs) ⟨clrE p1.env vs, p1.src⟩ H1 acc ∧ freeOwn vs (clrE p1.env vs) = true := by
  have f2 : freeOwn vs (clrE p1.env vs) = true := freeOwn_of fun i hi l z d e => (clr_own e).1 hi
  refine ⟨⟨c.fr, c.dom, c.ok.clr f1, ?_, by rw [wipe_wipe]; exact c.wip, c.free, ?_⟩, f2⟩
  · refine c.same.trans ⟨by rw [clrE_len, clrE_len, clrE_len], fun i x h => ⟨x, ?_, Same1.refl x⟩⟩
    have hi : i < p1.env.length := by
      have := (List.getElem?_eq_some_iff.mp h).1
      rwa [clrE_len] at this
    by_cases hm : i ∈ vs
    · rw [clrE_in hi hm] at h; cases h
      exact clrE_in (by show i < (clrE p1.env vs).length; rw [clrE_len]; exact hi) hm
    · show (clrE (clrE p1.env vs) vs)[i]? = _
      rw [clrE_out hm]; exact h
  · obtain ⟨xs, h1, h2⟩ := c.lst
    refine ⟨xs, h1, ?_⟩
    show RepL K (Mu G (wipe σ1 vs) (clrE p1.env vs)) H1 xs acc
    rw [clr_mu f1]; exact h2
/-- fewer names within -/
theorem CS.wider {vs' : List Nat} (c : CS K G L vs' σ p H σ2 p2 H2 acc2) (hs : ∀ i ∈ vs', i ∈ vs) (f : freeOwn vs p.env = true) (f2 : freeOwn vs' p2.env = true) : CS K G L vs σ p H σ2 p2 H2 acc2 ∧ freeOwn vs p2.env = true := by
  refine ⟨⟨c.fr, c.dom, c.ok, ?_, ?_, f, c.lst⟩, freeOwn_of fun i hi l z d e => ?_⟩
  · have len : p.env.length = p2.env.length := by
      have := c.same.1
      rwa [clrE_len, clrE_len] at this
    refine ⟨by rw [clrE_len, clrE_len, len], fun i x h => ?_⟩
    have hi : i < p.env.length := by
      have := (List.getElem?_eq_some_iff.mp h).1
      rwa [clrE_len] at this
    by_cases hm : i ∈ vs
    · rw [clrE_in hi hm] at h; cases h
      exact ⟨_, clrE_in (by rw [← len]; exact hi) hm, rfl⟩
    · have hm' : i ∉ vs' := fun z => hm (hs i z)
      rw [clrE_out hm] at h
      obtain ⟨y, h1, h2⟩ := c.same.2 i x (by rw [clrE_out hm']; exact h)
      rw [clrE_out hm'] at h1
      exact ⟨y, by rw [clrE_out hm]; exact h1, h2⟩
  · have hl : σ2.length = σ.length := by
      have := congrArg List.length c.wip
      rwa [wipe_length, wipe_length] at this
    refine wipe_ext hl fun i hm => ?_
    have hm' : i ∉ vs' := fun z => hm (hs i z)
    rw [← wipe_out (vs := vs') hm', c.wip, wipe_out hm']
  · obtain ⟨_, d', e'⟩ := free_of c.same f2 e
    exact own_free f e' hi
/-- an item more -/
theorem CS.push (hL : G.mx L) (c : CS K G L vs σ p H σ1 p1 H1 acc) {x : V} {d : D} (r : Rep K (Mu G σ1 p1.env) H1 x d) : ∃ xs, H1 L = some (.lst xs) ∧ xs.length = acc.length ∧ CS K G L vs σ p H σ1 p1 (upd H1 L (.lst (xs ++ [x]))) (acc ++ [d]) := by
  obtain ⟨xs, h1, h2⟩ := c.lst
  have up : ∀ a o, H1 a = some o → ¬ Mu G σ1 p1.env a → upd H1 L (.lst (xs ++ [x])) a = some o := fun a o e n => by
    rw [upd_ne (fun z => n (by rw [z]; exact .inl hL))]; exact e
  refine ⟨xs, h1, h2.length, fun a o e n z => ?_, fun a h => ?_, c.ok.updMx hL, c.same, c.wip, c.free, _, upd_same, ?_⟩
  · rw [upd_ne z]; exact c.fr a o e n z
  · by_cases e : a = L
    · subst e; rw [upd_same] at h; cases h
    · rw [upd_ne e] at h; exact c.dom a h
  · exact (RepL.mono K up (fun a z => .inl z) h2).snoc (Rep.mono K up (fun a z => .inl z) r)

/-- a reading that keeps a meaning -/
def TCok (K : PySem.W.Frag) (cl : Nat → Addr) (L : Addr) (vs : List Nat) (tc : TC) (rest : RC) : Prop := ∀ (G : Gh) (σ : L2.St) (p : PS) (H : Hp) (acc : List D) (Nx : Hp → Prop), G.mx L → Ok K G σ H p → freeOwn vs p.env = true → (∃ xs, H L = some (.lst xs) ∧ RepL K (Mu G σ p.env) H xs acc) → ∀ acc2 p2, rest acc p = .ok acc2 p2 →
  (∀ σ2 H2, CS K G L vs σ p H σ2 p2 H2 acc2 → freeOwn vs p2.env = true → Nx H2) → tc σ H Nx
theorem tc_end {de : Dn} : TCok K cl L [] (tcEnd L (tE K cl W0 de)) (rEnd de) := fun G σ p H acc Nx hL o f l acc2 p2 h k => by
  refine ⟨G, p, o, ?_⟩
  unfold rEnd at h
  cases e : de p with
  | bad => rw [e] at h; cases h
  | exc c q => rw [e] at h; cases h
  | ok v p1 =>
    rw [e] at h
    simp only [bindN_ok] at h
    intro u H1 s1 r1
    obtain ⟨c1, f1⟩ := (CS.refl o f l).stp hL f s1
    cases es : v.soft with
    | sh d =>
      simp only [es] at h
      have r2 := r1.soft
      rw [es] at r2
      split at h
      · rename_i hlen
        cases h
        obtain ⟨xs, g1, g2, g3⟩ := c1.push hL r2
        exact ⟨xs, g1, by rw [g2]; exact Nat.lt_of_lt_of_le hlen (by rw [sizeLine_eq]; exact Nat.le_refl _), k _ _ g3 f1⟩
      · cases h
    | ow d => simp only [es] at h; cases h
    | bo i => simp only [es] at h; cases h
    | sr => simp only [es] at h; cases h
/-- one turn -/
theorem clrE_idem (env : List Sl) (vs : List Nat) : clrE (clrE env vs) vs = clrE env vs := by
  apply List.ext_getElem?
  intro i
  by_cases hm : i ∈ vs
  · by_cases hi : i < env.length
    · rw [clrE_in (by rw [clrE_len]; exact hi) hm, clrE_in hi hm]
    · rw [List.getElem?_eq_none (by rw [clrE_len, clrE_len]; omega), List.getElem?_eq_none (by rw [clrE_len]; omega)]
  · rw [clrE_out hm]
theorem turnN {is vs' : List Nat} {tg : Tgd} {dt : Dn} {rest : RC} {tc : TC} {d : D} {ds : List D} {r0 : List D} {pf : PS} {v : V} {Nx : Hp → Prop} (hr : TCok K cl L vs' tc rest) (hvs : ∀ i ∈ vs', i ∈ vs) (hsub : ∀ i ∈ is, i ∈ vs) (hgood : GoodG tg)
    (hL : G.mx L) (o : Ok K G (wipe σ vs) H p) (f : freeOwn vs p.env = true) (l : ∃ xs, H L = some (.lst xs) ∧ RepL K (Mu G (wipe σ vs) p.env) H xs acc) (r : Rep K (Mu G (wipe σ vs) p.env) H v d) (h : cL vs tg dt rest (d :: ds) acc p = .ok r0 pf)
    (k : ∀ acc' p' H', CS K G L vs (wipe σ vs) p H (wipe σ vs) p' H' acc' → freeOwn vs p'.env = true → clrE p'.env vs = p'.env → cL vs tg dt rest ds acc' p' = .ok r0 pf → Nx H') :
    tG K is tg v (wipe σ vs) H fun σ2 H2 => wipe σ2 vs = wipe σ vs ∧ tB (tE K cl W0 dt) σ2 H2 fun b H3 => if b = true then tc σ2 H3 Nx else Nx H3 := by
  have h : (match tg d p.env with
    | none => R.bad
    | some env' => bindN (dt ⟨env', p.src⟩) fun b p1 => onBL b p1
      (fun p1 => bindN (rest acc p1) fun acc p2 => cL vs tg dt rest ds acc ⟨clrE p2.env vs, p2.src⟩)
      (fun p1 => cL vs tg dt rest ds acc ⟨clrE p1.env vs, p1.src⟩)) = .ok r0 pf := h
  cases et : tg d p.env with
  | none => rw [et] at h; cases h
  | some env' =>
    simp only [et] at h
    refine ⟨G, p, d, env', o, r, et, fun σ2 s2 w2 n2 => ?_⟩
    have w2 := w2 vs hsub
    rw [wipe_wipe] at w2
    have f2 : freeOwn vs env' = true := freeOwn_of fun i hi l z x e => own_free f (hgood _ _ _ et i l z x e) hi
    have c2 : CS K G L vs (wipe σ vs) p H σ2 ⟨env', p.src⟩ H acc := by
      have len : p.env.length = env'.length := by
        have h1 := o.len
        have h2 : env'.length = σ2.length := s2.ok.len
        have h3 := congrArg List.length w2
        rw [wipe_length, wipe_length] at h3
        rw [wipe_length] at h1
        omega
      have sm : SameE (clrE p.env vs) (clrE env' vs) := by
        refine ⟨by rw [clrE_len, clrE_len, len], fun i x h => ⟨x, ?_, Same1.refl x⟩⟩
        have hi : i < p.env.length := by
          have := (List.getElem?_eq_some_iff.mp h).1
          rwa [clrE_len] at this
        by_cases hm : i ∈ vs
        · rw [clrE_in hi hm] at h; cases h
          exact clrE_in (by rw [← len]; exact hi) hm
        · rw [clrE_out hm] at h ⊢
          rw [tgt_own hsub n2 i hm]; exact h
      have w3 : wipe σ2 vs = wipe (wipe σ vs) vs := by rw [wipe_wipe]; exact w2
      have mu : Mu G σ2 env' = Mu G (wipe σ vs) p.env := by
        rw [← clr_mu (σ := σ2) f2, ← clr_mu (σ := wipe σ vs) f, w3, sm.mu]
      refine ⟨fun _ _ h _ _ => h, fun _ h => h, s2.ok, sm, w3, f, ?_⟩
      obtain ⟨xs, h1, h2⟩ := l
      exact ⟨xs, h1, by rw [show Mu G σ2 (PS.env ⟨env', p.src⟩) = _ from mu]; exact h2⟩
    refine ⟨w2, G, ⟨env', p.src⟩, s2.ok, ?_⟩
    cases ed : dt ⟨env', p.src⟩ with
    | bad => rw [ed] at h; cases h
    | exc x q => rw [ed] at h; cases h
    | ok b p3 =>
      rw [ed] at h
      simp only [bindN_ok] at h
      intro u H3 s3 r3
      obtain ⟨c3, f3⟩ := c2.stp hL f2 s3
      have last : ∀ {σ9 : L2.St} {p9 : PS} {H9 : Hp} {acc9 : List D}, CS K G L vs (wipe σ vs) p H σ9 p9 H9 acc9 → freeOwn vs p9.env = true → cL vs tg dt rest ds acc9 ⟨clrE p9.env vs, p9.src⟩ = .ok r0 pf → Nx H9 := fun {σ9 p9 H9 acc9} c9 f9 e9 => by
        obtain ⟨c10, f10⟩ := c9.clr f9
        have e : wipe σ9 vs = wipe σ vs := by rw [c9.wip, wipe_wipe]
        rw [e] at c10
        exact k _ _ _ c10 f10 (clrE_idem _ _) e9
      unfold onBL at h
      split at h
      · cases (show Rep K _ H3 u (.bl true) from r3)
        refine ⟨true, rfl, ?_⟩
        show (if (true : Bool) = true then _ else _)
        rw [if_pos rfl]
        simp only at h
        cases er : rest acc p3 with
        | bad => rw [er] at h; cases h
        | exc x q => rw [er] at h; cases h
        | ok acc4 p4 =>
          rw [er] at h
          simp only [bindN_ok] at h
          refine hr G σ2 p3 H3 acc Nx hL s3.ok (freeOwn_of fun i hi l z x e => own_free f3 e (hvs i hi)) c3.lst acc4 p4 er fun σ4 H4 c4 f4 => ?_
          obtain ⟨c5, f5⟩ := c4.wider hvs f3 f4
          exact last (c3.trans c5) f5 h
      · cases (show Rep K _ H3 u (.bl false) from r3)
        refine ⟨false, rfl, ?_⟩
        show (if (false : Bool) = true then _ else _)
        rw [if_neg Bool.false_ne_true]
        exact last c3 f3 h
      · cases h
theorem tc_for {is vs' : List Nat} {di : PS → R Iv} {tg : Tgd} {dt : Dn} {rest : RC} {tc : TC} (hr : TCok K cl L vs' tc rest) (hvs : ∀ i ∈ vs', i ∈ vs) (hsub : ∀ i ∈ is, i ∈ vs) (hgood : GoodG tg) :
    TCok K cl L vs (tcFor (tI K cl W0 di) (tG K is tg) (tB (tE K cl W0 dt)) vs tc) (rFor vs di tg dt rest) := fun G σ p H acc Nx hL o f l acc2 p2 h k => by
  refine ⟨G, p, o, ?_⟩
  unfold rFor at h
  cases e : di p with
  | bad => rw [e] at h; cases h
  | exc c q => rw [e] at h; cases h
  | ok iv p1 =>
    rw [e] at h
    simp only [bindN_ok] at h
    obtain ⟨z, items⟩ := iv
    cases z with
    | some z => simp only at h; cases h
    | none =>
      simp only at h
      intro J H1 s1 w
      obtain ⟨c1, f1⟩ := (CS.refl o f l).stp hL f s1
      obtain ⟨c2, f2⟩ := c1.clr f1
      obtain ⟨c2', _⟩ := (CS.refl (L := L) (vs := vs) c1.ok f1 c1.lst).clr f1
      refine ⟨fun j n Hi => n = items.length - j ∧ j ≤ items.length ∧ ∃ acc' p', CS K G L vs σ p1 H1 (wipe σ vs) p' Hi acc' ∧ freeOwn vs p'.env = true ∧ cL vs tg dt rest (items.drop j) acc' p' = .ok acc2 p2, ⟨_, rfl, Nat.zero_le _, acc, _, c2', f2, h⟩, ?_⟩
      rintro j n Hi ⟨rfl, hj, acc', p', cc, fc, ec⟩
      obtain ⟨w1, w2, w3⟩ := w (Mu G (wipe σ vs) p'.env) Hi (fun a ob g n m => cc.fr a ob g n fun z => m (z ▸ hL)) (fun a z => .inl (by rw [cc.mu_ fc] at z; exact z)) (fun a z => cc.ok.dom z)
      by_cases hlt : j < items.length
      · refine .inr ⟨w1 j hlt, fun H' => ∃ acc' p', CS K G L vs σ p1 H1 (wipe σ vs) p' H' acc' ∧ freeOwn vs p'.env = true ∧ cL vs tg dt rest (items.drop (j + 1)) acc' p' = .ok acc2 p2, fun H' ⟨acc', p', h1, h2, h3⟩ => ⟨_, by omega, rfl, hlt, acc', p', h1, h2, h3⟩, fun x H3 y => ?_⟩
        obtain ⟨d, hd, sm, rd⟩ := w3 j x H3 hlt y
        have hdrop : items.drop j = d :: items.drop (j + 1) := by
          rw [List.drop_eq_getElem_cons hlt]
          rw [List.getElem?_eq_getElem hlt] at hd
          cases hd; rfl
        rw [hdrop] at ec
        have cg := cc.grow sm
        exact turnN hr hvs hsub hgood hL cg.ok fc cg.lst rd ec fun acc9 p9 H9 c9 f9 _ e9 => ⟨acc9, p9, cg.trans c9, f9, e9⟩
      · have hj' : j = items.length := by omega
        rw [hj', List.drop_length] at ec
        have ec : R.ok acc' p' = R.ok acc2 p2 := ec
        cases ec
        exact .inl ⟨by rw [hj']; exact w2, k _ _ (c1.trans cc) fc⟩
theorem CInv.cs {e1 : List Sl} (c : CInv K G σ own e1 H1 L acc p H) (f : freeOwn own e1 = true) (hL : H1 L = none) (d : CS K (G.more L) L own (wipe σ own) p H (wipe σ own) p' H' acc2) (f2 : freeOwn own p'.env = true) (hc : clrE p'.env own = p'.env) : CInv K G σ own e1 H1 L acc2 p' H' where
  fr := fun a o e n => d.fr a o (c.fr a o e n) (by
    have e2 : Lm (G.more L) (wipe σ own) p.env = Lm G σ e1 := by
      show Lm G (wipe σ own) p.env = _
      rw [c.same.lm, clr_lm f]
    rw [e2]; exact n) (fun z => by rw [z, hL] at e; cases e)
  dom := fun a h => c.dom a (d.dom a h)
  ok := d.ok
  same := by
    have := (sameE_clr c.same).trans d.same
    rwa [hc] at this
  lst := d.lst
theorem lcN_imp {W : WX} {is vs' : List Nat} {di : PS → R Iv} {g : Tgd} {dt : Dn} {rest : RC} {tc : Addr → TC} (hr : ∀ L, TCok K cl L vs' (tc L) rest) (hvs : ∀ i ∈ vs', i ∈ own) (hsub : ∀ i ∈ is, i ∈ own) (hgood : GoodG g) {Q : VK} (h : tE K cl W (dCompN own di g dt rest) σ H Q) :
    tLcN (tI K cl W di) (tG K is g) (tB (tE K cl W0 dt)) tc own σ H Q := by
  obtain ⟨G, p, o, h⟩ := h
  refine ⟨G, p, o, ?_⟩
  unfold dCompN at h
  cases e : di p with
  | bad => rw [e] at h; exact h.elim
  | exc c q => rw [e] at h; exact h
  | ok iv p1 =>
    rw [e] at h
    intro J H1 s1 w L hL
    have h : Post K cl W G σ H p Q (if freeOwn own p1.env = true ∧ lockOk iv.z p1.env = true then bindN (cL own g dt rest iv.items [] ⟨clrE (lockE iv.z p1.env) own, p1.src⟩) fun ds p2 => .ok (.ow (.lst ds)) ⟨unlockE iv.z (resE p1.env p2.env own), p2.src⟩ else .bad) := h
    by_cases hc : freeOwn own p1.env = true ∧ lockOk iv.z p1.env = true
    · rw [if_pos hc] at h
      obtain ⟨f0, lz⟩ := hc
      have f : freeOwn own (lockE iv.z p1.env) = true := freeOwn_of fun i hi l z d e' => by
        obtain ⟨z', e'⟩ := (sameZ_lock iv.z p1.env).symm.own e'
        exact own_free f0 e' hi
      cases ec : cL own g dt rest iv.items [] ⟨clrE (lockE iv.z p1.env) own, p1.src⟩ with
      | bad => rw [ec] at h; exact h.elim
      | exc c q => rw [ec] at h; exact h.elim
      | ok r0 pf =>
        rw [ec] at h
        simp only [bindN_ok] at h
        have f1 : freeOwn own (clrE (lockE iv.z p1.env) own) = true := freeOwn_of fun i hi l z d e => (clr_own e).1 hi
        refine ⟨fun i m Hi => m = iv.items.length - i ∧ i ≤ iv.items.length ∧ ∃ acc p', CInv K G σ own (lockE iv.z p1.env) H1 L acc p' Hi ∧ freeOwn own p'.env = true ∧ cL own g dt rest (iv.items.drop i) acc p' = .ok r0 pf, ⟨_, rfl, Nat.zero_le _, [], _, CInv.start s1.ok f hL, f1, ec⟩, ?_⟩
        rintro i m Hi ⟨rfl, hi, acc, p', ci, fc, ecc⟩
        have lockMu : Mu G σ (lockE iv.z p1.env) = Mu G σ p1.env := ((sameZ_lock iv.z p1.env).mu).symm
        obtain ⟨w1, w2, w3⟩ := w (Mu (G.more L) (wipe σ own) p'.env) Hi (fun a o e n _ => ci.fr a o e n) (fun a z => by
          rw [mu_more, ci.same.mu, clr_mu f, lockMu] at z
          rcases z with z | z
          · exact .inl z
          · exact .inr (z ▸ hL)) (fun a z => ci.ok.dom z)
        by_cases hlt : i < iv.items.length
        · refine .inr ⟨w1 i hlt, fun H' => ∃ acc p', CInv K G σ own (lockE iv.z p1.env) H1 L acc p' H' ∧ freeOwn own p'.env = true ∧ cL own g dt rest (iv.items.drop (i + 1)) acc p' = .ok r0 pf, fun H' ⟨acc, p', h1, h2, h3⟩ => ⟨_, by omega, rfl, hlt, acc, p', h1, h2, h3⟩, fun x H3 y => ?_⟩
          obtain ⟨d, hd, sm, rd⟩ := w3 i x H3 hlt y
          have hdrop : iv.items.drop i = d :: iv.items.drop (i + 1) := by
            rw [List.drop_eq_getElem_cons hlt]
            rw [List.getElem?_eq_getElem hlt] at hd
            cases hd; rfl
          rw [hdrop] at ecc
          have cg := ci.grow sm
          exact turnN (hr L) hvs hsub hgood (show (G.more L).mx L from .inr rfl) cg.ok fc cg.lst rd ecc fun acc' p2 H' c2 f2 hc2 e2 => ⟨acc', p2, cg.cs f hL c2 f2 hc2, f2, e2⟩
        · have hi' : i = iv.items.length := by omega
          rw [hi', List.drop_length] at ecc
          have ecc : R.ok acc p' = R.ok r0 pf := ecc
          cases ecc
          obtain ⟨s2, r2⟩ := ci.done s1.ok rfl f lz hL
          refine .inl ⟨by rw [hi']; exact w2, ?_⟩
          exact (Post.from s1 h) (.ref L) Hi s2 r2
    · rw [if_neg hc] at h; exact h.elim
end
/-- the later clauses, in the block -/
structure VCl (s : Sx) (T : Tab) (elt : Expr) (gs : List Comprehension) (scope : Scope) (pos : Pos) (depth : Nat) (vs : List Nat) (rest : RC) : Prop where
  run : ∃ tc : Cx → Addr → TC, ∀ X, CtxOk s T X → X.xe = (fun _ _ => False) → ∀ D, PCl X elt gs scope pos depth D vs (tc X D) ∧ TCok X.K (clK X.K) D vs (tc X D) rest
section
variable {s : Sx} {T : Tab} {pos : Pos} {elt : Expr} {gs : List Comprehension} {scope : Scope} {depth : Nat}
theorem vc_end {de : Dn} (hg : gs[depth]? = none) (he : VE s T elt de) : VCl s T elt gs scope pos depth [] (rEnd de) :=
  ⟨fun X D => tcEnd D (tE X.K (clK X.K) W0 de), fun X c hx D => ⟨pcl_end hx hg (he X W0 c takes0), tc_end⟩⟩
theorem vc_for {t i : Expr} {ifs : List Expr} {is vs vs' : List Nat} {di : PS → R Iv} {tg : Tgd} {dt : Dn} {rest : RC} (hg : gs[depth]? = some ⟨t, i, ifs, 0⟩) (hn : ∀ g', gs[depth + 1]? = some g' → g'.is_async = 0)
    (hi : VI s T t i di) (hgt : VG s T t is tg) (ht : VTs s T ifs dt) (hr : VCl s T elt gs scope pos (depth + 1) vs' rest) (hvs : ∀ i ∈ vs', i ∈ vs) (hsub : ∀ i ∈ is, i ∈ vs) (hgood : GoodG tg) (hs : ∀ env x, foldedSetIterable i env x = pure x := by intro _ _; rfl) :
    VCl s T elt gs scope pos depth vs (rFor vs di tg dt rest) := by
  obtain ⟨tc, h⟩ := hr.run
  exact ⟨fun X D => tcFor (tI X.K (clK X.K) W0 di) (tG X.K is tg) (tB (tE X.K (clK X.K) W0 dt)) vs (tc X D), fun X c hx D => ⟨pcl_for hx c.calm hg hn hs (hi X W0 c takes0) (hgt X c) (ht X W0 c takes0) hvs (h X c hx D).1, tc_for (h X c hx D).2 hvs hsub hgood⟩⟩
theorem v_lcN {tg iter : Expr} {ifs : List Expr} {own : List (Str × Nat)} {is vs' : List Nat} {di : PS → R Iv} {g : Tgd} {dt : Dn} {rest : RC} (hi : VI s T tg iter di) (hb : blkC s.N s.sc scope own = true) (hg : VG (blkS s scope) T tg is g) (ht : VTs (blkS s scope) T ifs dt) (hr : VCl (blkS s scope) T elt (⟨tg, iter, ifs, 0⟩ :: gs) scope pos 1 vs' rest)
    (hvs : ∀ i ∈ vs', i ∈ own.map (·.2)) (hsub : ∀ i ∈ is, i ∈ own.map (·.2)) (hgood : GoodG g) (hn : ∀ g', gs[0]? = some g' → g'.is_async = 0) (hs : ∀ env x, foldedSetIterable iter env x = pure x := by intro _ _; rfl) : VE s T (.ListComp elt (⟨tg, iter, ifs, 0⟩ :: gs) scope pos) (dCompN (own.map (·.2)) di g dt rest) := fun X W c tk => by
  obtain ⟨tc, h⟩ := hr.run
  refine PE.of (pe_lcN (own := own) (wi := tI X.K (clK X.K) W di) (g := tG X.K is g) (tt := tB (tE X.K (clK X.K) W0 dt)) (tc := fun D σ H Nx => ∀ t, TCok X.K (clK X.K) D vs' t rest → t σ H Nx) c.calm (by rw [c.N]; exact c.nd) (hi X W c tk) (by rw [c.N, c.sc]; exact blkOk_by hb) hvs (fun st H C cl fp => hg _ (c.blk st H scope C cl fp)) (fun st H C cl fp => ht _ W0 (c.blk st H scope C cl fp) takes0) (fun st H C cl fp D => ?_) (hs X.env) hn) fun σ H Q h => ?_
  · obtain ⟨h1, h2⟩ := h _ (c.blk st H scope C cl fp) rfl D
    exact ⟨fun pins s σ H Nx I q => h1.run pins s σ H Nx I (q _ h2)⟩
  · refine lcN_imp (K := X.K) (cl := clK X.K) (own := own.map (·.2)) (vs' := vs') (rest := rest) (tc := fun D σ H Nx => ∀ t, TCok X.K (clK X.K) D vs' t rest → t σ H Nx) ?_ hvs hsub hgood h
    intro L G σ p H acc Nx hL o f l acc2 p2 e k t ht
    exact ht G σ p H acc Nx hL o f l acc2 p2 e k
end
end Py
set_option maxRecDepth 100000
namespace Py
open PySem PySem.Spec PyProof.Rows L2

/-! ### built-in functions -/
section
variable {K : PySem.W.Frag} {M : Addr → Prop} {H : Hp} {Q : VK} {x : V} {d : D}
theorem pair1 {P : V → D → Prop} {xs : List V} {d : D} (h : Paired P xs [d]) : ∃ x, xs = [x] ∧ P x d := by
  cases h with
  | cons h t => cases t; exact ⟨_, rfl, h⟩
theorem pair2 {P : V → D → Prop} {xs : List V} {d e : D} (h : Paired P xs [d, e]) : ∃ x y, xs = [x, y] ∧ P x d ∧ P y e := by
  cases h with
  | cons h t =>
    cases t with
    | cons h2 t => cases t; exact ⟨_, _, rfl, h, h2⟩
def opLen : List D → Option Rv
  | [.lst ds] => some (.sh (.int ds.length))
  | [.tup ds] => some (.sh (.int ds.length))
  | [.str x] => if x.length ≤ 16777216 then some (.sh (.int x.length)) else none
  | _ => none
theorem opn_len : OpN K opLen (fun xs H Q => ∃ x n, xs = [x] ∧ LenV K x H n ∧ Q (.int n) H) := by
  intro M H xs a v Q dom r h
  unfold opLen at h
  split at h
  · cases h
    obtain ⟨x, rfl, r9⟩ := pair1 r
    obtain ⟨b, ys, rfl, h1, r1⟩ := r9.lst_
    refine ⟨rfl, fun q => ⟨_, _, rfl, .inl ⟨ys, .inl (.inl h1), rfl⟩, ?_⟩⟩
    rw [r1.length]; exact res_int q
  · cases h
    obtain ⟨x, rfl, r9⟩ := pair1 r
    obtain ⟨b, ys, rfl, _, h1, r1⟩ := r9.tup_
    refine ⟨rfl, fun q => ⟨_, _, rfl, .inr ⟨ys, h1, rfl⟩, ?_⟩⟩
    rw [r1.length]; exact res_int q
  · split at h
    · rename_i hl
      cases h
      obtain ⟨x, rfl, r9⟩ := pair1 r
      rw [r9.str_]
      refine ⟨rfl, fun q => ⟨_, _, rfl, ⟨by rw [S_len]; exact szl hl, rfl⟩, ?_⟩⟩
      rw [S_len]; exact res_int q
    · cases h
  · cases h
def allBl : List D → Option (List Bool)
  | [] => some []
  | .bl b :: ds => (allBl ds).map (b :: ·)
  | _ => none
theorem allBl_rep : ∀ {ds : List D} {bs : List Bool} {xs : List V}, allBl ds = some bs → RepL K M H xs ds → xs = bs.map V.bl
  | [], bs, xs, h, r => by cases h; cases r; rfl
  | d :: ds, bs, xs, h, r => by
    cases d <;> simp only [allBl] at h <;> (try cases h)
    cases hb : allBl ds with
    | none => rw [hb] at h; cases h
    | some cs =>
      rw [hb] at h; cases h
      cases r with
      | cons r t => cases r; rw [allBl_rep hb t]; rfl
def allInt : List D → Option (List Int)
  | [] => some []
  | .int b :: ds => (allInt ds).map (b :: ·)
  | _ => none
theorem allInt_rep : ∀ {ds : List D} {bs : List Int} {xs : List V}, allInt ds = some bs → RepL K M H xs ds → xs = bs.map V.int
  | [], bs, xs, h, r => by cases h; cases r; rfl
  | d :: ds, bs, xs, h, r => by
    cases d <;> simp only [allInt] at h <;> (try cases h)
    cases hb : allInt ds with
    | none => rw [hb] at h; cases h
    | some cs =>
      rw [hb] at h; cases h
      cases r with
      | cons r t => cases r; rw [allInt_rep hb t]; rfl
def allStr : List D → Option (List (List Nat))
  | [] => some []
  | .str b :: ds => (allStr ds).map (b :: ·)
  | _ => none
theorem allStr_rep : ∀ {ds : List D} {bs : List (List Nat)} {xs : List V}, allStr ds = some bs → RepL K M H xs ds → xs = (bs.map S).map V.str
  | [], bs, xs, h, r => by cases h; cases r; rfl
  | d :: ds, bs, xs, h, r => by
    cases d <;> simp only [allStr] at h <;> (try cases h)
    cases hb : allStr ds with
    | none => rw [hb] at h; cases h
    | some cs =>
      rw [hb] at h; cases h
      cases r with
      | cons r t => cases r; rw [allStr_rep hb t]; rfl
def opAll : List D → Option Rv
  | [.lst ds] => (allBl ds).map fun bs => .sh (.bl (bs.all id))
  | _ => none
def opAny : List D → Option Rv
  | [.lst ds] => (allBl ds).map fun bs => .sh (.bl (bs.any id))
  | _ => none
def opSum : List D → Option Rv
  | [.lst ds] => (allInt ds).map fun bs => .sh (.int bs.sum)
  | _ => none
theorem opn_all : OpN K opAll (rAll K) := by
  intro M H xs a v Q dom r h
  unfold opAll at h
  split at h
  · obtain ⟨x, rfl, r9⟩ := pair1 r
    obtain ⟨b, ys, rfl, h1, r1⟩ := r9.lst_
    cases e : allBl _ with
    | none => rw [e] at h; cases h
    | some bs =>
      rw [e] at h; cases h
      have e1 := allBl_rep e r1
      subst e1
      exact ⟨rfl, fun q => ⟨_, bs, rfl, .inl (.inl h1), res_bl q⟩⟩
  · cases h
theorem opn_any : OpN K opAny (rAny K) := by
  intro M H xs a v Q dom r h
  unfold opAny at h
  split at h
  · obtain ⟨x, rfl, r9⟩ := pair1 r
    obtain ⟨b, ys, rfl, h1, r1⟩ := r9.lst_
    cases e : allBl _ with
    | none => rw [e] at h; cases h
    | some bs =>
      rw [e] at h; cases h
      have e1 := allBl_rep e r1
      subst e1
      exact ⟨rfl, fun q => ⟨_, bs, rfl, .inl (.inl h1), res_bl q⟩⟩
  · cases h
theorem opn_sum : OpN K opSum (rSum K) := by
  intro M H xs a v Q dom r h
  unfold opSum at h
  split at h
  · obtain ⟨x, rfl, r9⟩ := pair1 r
    obtain ⟨b, ys, rfl, h1, r1⟩ := r9.lst_
    cases e : allInt _ with
    | none => rw [e] at h; cases h
    | some bs =>
      rw [e] at h; cases h
      have e1 := allInt_rep e r1
      subst e1
      exact ⟨rfl, fun q => ⟨_, bs, rfl, .inl (.inl h1), res_int q⟩⟩
  · cases h
def opMax2 : List D → Option Rv
  | [.int i, .int j] => some (.sh (.int (if j > i then j else i)))
  | _ => none
def opMin2 : List D → Option Rv
  | [.int i, .int j] => some (.sh (.int (if j < i then j else i)))
  | _ => none
theorem opn_max2 : OpN K opMax2 (fun xs H Q => ∃ i j, xs = [.int i, .int j] ∧ Q (.int (if j > i then j else i)) H) := by
  intro M H xs a v Q dom r h
  unfold opMax2 at h
  split at h
  · cases h
    obtain ⟨x, y, rfl, r1, r2⟩ := pair2 r
    rw [r1.int_, r2.int_]
    exact ⟨rfl, fun q => ⟨_, _, rfl, res_int q⟩⟩
  · cases h
theorem opn_min2 : OpN K opMin2 (fun xs H Q => ∃ i j, xs = [.int i, .int j] ∧ Q (.int (if j < i then j else i)) H) := by
  intro M H xs a v Q dom r h
  unfold opMin2 at h
  split at h
  · cases h
    obtain ⟨x, y, rfl, r1, r2⟩ := pair2 r
    rw [r1.int_, r2.int_]
    exact ⟨rfl, fun q => ⟨_, _, rfl, res_int q⟩⟩
  · cases h
def maxI (n : Int) (ns : List Int) : Int := ns.foldl max n
def minI (n : Int) (ns : List Int) : Int := ns.foldl min n
theorem maxI_ub : ∀ (ns : List Int) (n : Int), n ≤ maxI n ns ∧ (∀ y ∈ ns, y ≤ maxI n ns) ∧ (maxI n ns = n ∨ maxI n ns ∈ ns)
  | [], n => ⟨Int.le_refl _, by simp, .inl rfl⟩
  | m :: ns, n => by
    obtain ⟨h1, h2, h3⟩ := maxI_ub ns (max n m)
    have e : maxI n (m :: ns) = maxI (max n m) ns := rfl
    rw [e]
    refine ⟨by omega, fun y hy => ?_, ?_⟩
    · rcases List.mem_cons.mp hy with rfl | hy
      · omega
      · exact h2 y hy
    · rcases h3 with h3 | h3
      · rw [h3]
        rcases Int.le_total n m with z | z
        · right; rw [Int.max_eq_right z]; exact List.mem_cons_self
        · left; exact Int.max_eq_left z
      · right; exact List.mem_cons_of_mem _ h3
theorem minI_lb : ∀ (ns : List Int) (n : Int), minI n ns ≤ n ∧ (∀ y ∈ ns, minI n ns ≤ y) ∧ (minI n ns = n ∨ minI n ns ∈ ns)
  | [], n => ⟨Int.le_refl _, by simp, .inl rfl⟩
  | m :: ns, n => by
    obtain ⟨h1, h2, h3⟩ := minI_lb ns (min n m)
    have e : minI n (m :: ns) = minI (min n m) ns := rfl
    rw [e]
    refine ⟨by omega, fun y hy => ?_, ?_⟩
    · rcases List.mem_cons.mp hy with rfl | hy
      · omega
      · exact h2 y hy
    · rcases h3 with h3 | h3
      · rw [h3]
        rcases Int.le_total n m with z | z
        · left; exact Int.min_eq_left z
        · right; rw [Int.min_eq_right z]; exact List.mem_cons_self
      · right; exact List.mem_cons_of_mem _ h3
def opMaxL : List D → Option Rv
  | [.lst ds] => match allInt ds with
    | some (n :: ns) => some (.sh (.int (maxI n ns)))
    | _ => none
  | _ => none
def opMinL : List D → Option Rv
  | [.lst ds] => match allInt ds with
    | some (n :: ns) => some (.sh (.int (minI n ns)))
    | _ => none
  | _ => none
theorem opn_maxL : OpN K opMaxL (rMax K) := by
  intro M H xs a v Q dom r h
  unfold opMaxL at h
  split at h
  · obtain ⟨x, rfl, r9⟩ := pair1 r
    obtain ⟨b, ys, rfl, h1, r1⟩ := r9.lst_
    split at h
    · rename_i n ns e
      cases h
      have e1 := allInt_rep e r1
      subst e1
      refine ⟨rfl, fun q => ⟨_, n :: ns, rfl, .inl (.inl h1), by simp, fun m hm hle => ?_⟩⟩
      obtain ⟨g1, g2, g3⟩ := maxI_ub ns n
      have : m = maxI n ns := by
        apply Int.le_antisymm
        · rcases List.mem_cons.mp hm with rfl | hm
          · exact g1
          · exact g2 m hm
        · rcases g3 with g3 | g3
          · rw [g3]; exact hle n List.mem_cons_self
          · exact hle _ (List.mem_cons_of_mem _ g3)
      rw [this]; exact res_int q
    · cases h
  · cases h
theorem opn_minL : OpN K opMinL (rMin K) := by
  intro M H xs a v Q dom r h
  unfold opMinL at h
  split at h
  · obtain ⟨x, rfl, r9⟩ := pair1 r
    obtain ⟨b, ys, rfl, h1, r1⟩ := r9.lst_
    split at h
    · rename_i n ns e
      cases h
      have e1 := allInt_rep e r1
      subst e1
      refine ⟨rfl, fun q => ⟨_, n :: ns, rfl, .inl (.inl h1), by simp, fun m hm hle => ?_⟩⟩
      obtain ⟨g1, g2, g3⟩ := minI_lb ns n
      have : m = minI n ns := by
        apply Int.le_antisymm
        · rcases g3 with g3 | g3
          · rw [g3]; exact hle n List.mem_cons_self
          · exact hle _ (List.mem_cons_of_mem _ g3)
        · rcases List.mem_cons.mp hm with rfl | hm
          · exact g1
          · exact g2 m hm
      rw [this]; exact res_int q
    · cases h
  · cases h
def opTuple : List D → Option Rv
  | [.lst ds] => some (.sh (.tup ds))
  | [.tup ds] => some (.sh (.tup ds))
  | _ => none
def opList : List D → Option Rv
  | [.lst ds] => some (.ow (.lst ds))
  | [.tup ds] => some (.ow (.lst ds))
  | _ => none
def opInt : List D → Option Rv
  | [.int i] => some (.sh (.int i))
  | [.bl b] => some (.sh (.int (if b then 1 else 0)))
  | _ => none
def opAbs : List D → Option Rv
  | [.int i] => some (.sh (.int (if i < 0 then -i else i)))
  | _ => none
theorem opn_tuple : OpN K opTuple (fun xs H Q => ∃ p ys, xs = [.ref p] ∧ ((SqL K H p ys ∧ ∀ l, H l = none → Q (.ref l) (upd H l (.tup ys))) ∨ (SqT K H p ys ∧ Q (.ref p) H))) := by
  intro M H xs a v Q dom r h
  unfold opTuple at h
  split at h
  · cases h
    obtain ⟨x, rfl, r9⟩ := pair1 r
    obtain ⟨b, ys, rfl, h1, r1⟩ := r9.lst_
    exact ⟨rfl, fun q => ⟨_, _, rfl, .inl ⟨.inl (.inl h1), res_tup dom r1 q⟩⟩⟩
  · cases h
    obtain ⟨x, rfl, r9⟩ := pair1 r
    obtain ⟨b, ys, rfl, h0, h1, r1⟩ := r9.tup_
    exact ⟨rfl, fun q => ⟨_, _, rfl, .inr ⟨h1, res_same (.tup h0 r1) q⟩⟩⟩
  · cases h
theorem opn_list : OpN K opList (fun xs H Q => ∃ p ys, xs = [.ref p] ∧ (SqL K H p ys ∨ SqT K H p ys) ∧ ∀ l, H l = none → Q (.ref l) (upd H l (.lst ys))) := by
  intro M H xs a v Q dom r h
  unfold opList at h
  split at h
  · cases h
    obtain ⟨x, rfl, r9⟩ := pair1 r
    obtain ⟨b, ys, rfl, h1, r1⟩ := r9.lst_
    exact ⟨rfl, fun q => ⟨_, _, rfl, .inl (.inl (.inl h1)), res_lst r1 q⟩⟩
  · cases h
    obtain ⟨x, rfl, r9⟩ := pair1 r
    obtain ⟨b, ys, rfl, h0, h1, r1⟩ := r9.tup_
    exact ⟨rfl, fun q => ⟨_, _, rfl, .inr h1, res_lst r1 q⟩⟩
  · cases h
theorem opn_int : OpN K opInt (fun xs H Q => (∃ i, xs = [.int i] ∧ Q (.int i) H) ∨ ∃ k, xs = [.bl k] ∧ Q (.int (if k then 1 else 0)) H) := by
  intro M H xs a v Q dom r h
  unfold opInt at h
  split at h
  · cases h
    obtain ⟨x, rfl, r9⟩ := pair1 r
    rw [r9.int_]
    exact ⟨rfl, fun q => .inl ⟨_, rfl, res_int q⟩⟩
  · cases h
    obtain ⟨x, rfl, r9⟩ := pair1 r
    rw [r9.bl_]
    exact ⟨rfl, fun q => .inr ⟨_, rfl, res_int q⟩⟩
  · cases h
theorem opn_abs : OpN K opAbs (fun xs H Q => ∃ i, xs = [.int i] ∧ Q (.int (if i < 0 then -i else i)) H) := by
  intro M H xs a v Q dom r h
  unfold opAbs at h
  split at h
  · cases h
    obtain ⟨x, rfl, r9⟩ := pair1 r
    rw [r9.int_]
    exact ⟨rfl, fun q => ⟨_, rfl, res_int q⟩⟩
  · cases h

/-! ### isinstance of a built-in class -/
def tyN : D → String
  | .non => "NoneType" | .bl _ => "bool" | .int _ => "int" | .str _ => "str" | .tup _ => "tuple" | .lst _ => "list" | .dic _ => "dict" | .err _ => "" | .obj _ _ => "" | .bx => ""
def isErr : D → Bool
  | .err _ => true
  | .obj _ _ => true
  | .bx => true
  | _ => false
def opIsi (c : String) (d : D) : Option Rv := if isErr d then none else (kitB (tyN d) c).map fun b => .sh (.bl b)
theorem rdb_ty (r : Rdb K M H x d) (he : isErr d = false) : TyX K H x (.type (tyN d)) := by
  rcases r with r | ⟨a, rfl, r⟩
  · cases r with
    | non => exact .base .non
    | bl => exact .base (.bl _)
    | int => exact .base (.int _)
    | str => exact .base (.str _)
    | tup h r =>
      rcases h with ⟨h | ⟨o, h⟩, _⟩ | ⟨o, its, n, h, c, _⟩
      · exact .base (.tup h)
      · exact .fTuple h
      · exact .kTuple h c
    | lst h _ _ => exact .base (.lst h)
    | dic h _ _ => exact .base (.dK h)
    | err _ h _ => cases he
    | erf _ h _ _ _ => cases he
  · cases d with
    | lst ds => obtain ⟨xs, h, _⟩ := r; exact .base (.lst h)
    | dic ds => obtain ⟨xs, h, _⟩ := r; exact .base (.dK h)
    | obj c ds => cases he
    | bx => cases he
    | _ => exact r.elim
end
section
variable {s : Sx} {T : Tab} {pos : Pos}
theorem v_isi {c : Str} {C : String} {e : Expr} {da : Dn} {q q2 : Pos} (ha : VE s T e da) (hg : s.sc.names.lookup ("isinstance" : Str) = some .globalImplicit) (hf : T.free "isinstance" = true) (hgc : s.sc.names.lookup c = some .globalImplicit) (hfc : T.free c = true)
    (hv : bootBuiltins c = some (.type C)) (hn : c ≠ "__name__" := by decide) (hd : (c == ("__debug__" : Str)) = false := by decide)
    (hs : ∀ env, starEach [e, .Name c q2] env = (false, eval e env) :: starEach [.Name c q2] env := by intro _; rfl) (hs2 : ∀ env, starEach [.Name c q2] env = (false, eval (.Name c q2) env) :: starEach [] env := by intro _; rfl) (hpl : ∀ env, (backTo pos (starEach [.Name c q2] env)).any (·.1) = false := by intro _; rfl) :
    VE s T (.Call (.Name "isinstance" q) [e, .Name c q2] [] pos) (d1 (opIsi C) da) := fun X W cx tk => by
  have gl : ∀ x, s.sc.names.lookup x = some .globalImplicit → Gl X x := fun x h => by show X.env.scope.names.lookup x = _; rw [cx.sc]; exact h
  refine PE.of (pe_callB (id := "isinstance") call_isi (gl _ hg) (cx.fac.free _ hf) (by decide +kernel) (pa_cons (ha X W cx tk) (pa_cons (pe_bltn (v := .ty C) (gl _ hgc) (cx.fac.free _ hfc) hv rfl hn hd) pa_nil (hs2 _)) (hs _)) (he := hs _) (hpl := hpl _)) fun σ H Q h => ?_
  obtain ⟨G, p, o, h⟩ := h
  refine te_bind o h fun v p1 u H1 s1 r1 h => ?_
  show rIsi X.K [u, .ty C] H1 Q
  unfold fin1 at h
  cases e1 : opd v p1 with
  | none => rw [e1] at h; exact h.elim
  | some a =>
    rw [e1] at h
    have ra := r1.rdb s1.ok e1
    obtain ⟨z, hz, q⟩ := post_give s1.ok h fun v e => by
      unfold opIsi at e
      split at e
      · cases e
      cases hk : kitB (tyN a) C with
      | none => rw [hk] at e; cases e
      | some b => rw [hk] at e; cases e; rfl
    unfold opIsi at hz
    split at hz
    · cases hz
    rename_i hne
    cases hk : kitB (tyN a) C with
    | none => rw [hk] at hz; cases hz
    | some b =>
      rw [hk] at hz; cases hz
      exact ⟨u, .ty C, _, _, b, rfl, .ty C, rdb_ty ra (by simpa using hne), kit_ty hk, res_bl q⟩

/-! ### texts' methods -/
def opJoin : D → D → Option Rv
  | .str a, .lst ds => match allStr ds with
    | some ys => if (ys.map (·.length)).sum + ys.length * a.length ≤ 16777216 then some (.sh (.str (TL.joinL a ys))) else none
    | none => none
  | _, _ => none
/-- a method of texts with one argument -/
def dM1 (f : D → D → Option Rv) (do_ de : Dn) : Dn := fun p => (do_ p).bind fun x p1 => match x with
  | .sh (.str a) => (de p1).bind fun y p2 => fin2 f (.sh (.str a)) y p2
  | _ => .bad
theorem v_m1 {o e : Expr} {name : Str} {f : D → D → Option Rv} {r : PySem.W.Frag → V → List V → Hp → VK → Prop} {do_ de : Dn} {apos : Pos} (pe : ∀ (X : Cx) (to te : TE), PE X o to → PE X e te → PE X (.Call (.Attribute o name apos) [e] [] pos) (tM1 (r X.K) to te))
    (h2 : ∀ K, Op2 K f (fun x y H Q => r K x [y] H Q)) (ho : VE s T o (do_)) (he : VE s T e de) : VE s T (.Call (.Attribute o name apos) [e] [] pos) (dM1 f do_ de) := fun X W c tk => by
  refine PE.of (pe X _ _ (ho X W c tk) (he X W c tk)) fun σ H Q h => ?_
  obtain ⟨G, p, o, h⟩ := h
  refine te_bind o h fun v p1 u H1 s1 r1 h => ?_
  split at h
  · cases (show Rep X.K _ H1 u (.str _) from r1)
    refine ⟨⟨_, rfl⟩, ?_⟩
    refine te_bind s1.ok h fun v2 p2 u2 H2 s2 r2 h => ?_
    exact fin2_run (h2 X.K) s2.ok (show RvOk X.K G σ p2 H2 H2 _ (.sh (.str _)) from .str) r2 h
  · exact h.elim
theorem lens_S (l : List (List Nat)) : ((l.map S).map (·.length)) = l.map (·.length) := SX.lens l
theorem v_join {o e : Expr} {do_ de : Dn} {apos : Pos} (ho : VE s T o (do_)) (he : VE s T e de) (hs : ∀ env, starEach [e] env = [(false, eval e env)] := by intro _; rfl) (hbase : ∀ env, attributeBase o "join" env (eval o env) = eval o env := by intro _; rfl) (hline : (apos.endLine == pos.line) = true := by rfl) :
    VE s T (.Call (.Attribute o "join" apos) [e] [] pos) (dM1 opJoin do_ de) := by
  refine v_m1 (r := fun K x xs H Q => ∃ a p, ∃ ys : List Str, x = .str a ∧ xs = [.ref p] ∧ (SqL K H p (ys.map V.str) ∨ SqT K H p (ys.map V.str)) ∧ (ys.map (·.length)).sum + ys.length * a.length ≤ 16777216 ∧ Q (.str (Txt.join a ys)) H)
    (fun X to te h1 h2 => pe_join h1 h2 (hs _) (hbase _) hline) (fun K M H x y a b v Q dom ra rb h => ?_) ho he
  cases a <;> cases b <;> simp only [opJoin] at h <;> (try cases h)
  split at h
  · rename_i ys e
    split at h
    · rename_i hl
      cases h
      obtain ⟨q1, xs, rfl, h1, r1⟩ := rb.lst_
      have e1 := allStr_rep e r1
      subst e1
      refine ⟨rfl, fun q => ⟨_, q1, ys.map S, ra.str_, rfl, .inl (.inl (.inl h1)), ?_, ?_⟩⟩
      · rw [lens_S, List.length_map, S_len]; exact hl
      · rw [show Txt.join (S _) (ys.map S) = S (TL.joinL _ ys) from SX.join_S _ _]; exact res_str q
    · cases h
  · cases h
end
end Py
set_option maxRecDepth 100000
namespace Py
open PySem PySem.Spec PyProof.Rows L2

/-! ### dicts with keys that are whole numbers or texts -/
def keyD : D → Option Key
  | .int i => some (.inl i)
  | .str x => some (.inr (S x))
  | _ => none
def lookK (kvs : List (D × D)) (k : Key) : Option D := (kvs.find? fun kv => decide (keyD kv.1 = some k)).map (·.2)
section
variable {K : PySem.W.Frag} {M : Addr → Prop} {H : Hp}
theorem key_rep {k : Key} {e : D} (r : Rep K M H (kV k) e) : keyD e = some k := by
  cases k with
  | inl i => cases (show Rep K M H (.int i) e from r); rfl
  | inr x => cases (show Rep K M H (.str x) e from r); rfl
theorem key_of {v : V} {e : D} {k : Key} (r : Rdb K M H v e) (h : keyD e = some k) : v = kV k := by
  cases e <;> simp only [keyD] at h <;> (try cases h)
  · exact r.int_
  · exact r.str_
theorem look_rep {k : Key} : ∀ {kvs : List (Key × V)} {ds : List (D × D)}, RepK K M H kvs ds → (∀ v, valV kvs k = some v → ∃ d, lookK ds k = some d ∧ Rep K M H v d) ∧ (valV kvs k = none → lookK ds k = none)
  | _, _, .nil => ⟨(fun v h => by cases h), fun _ => rfl⟩
  | _, _, @RepK.cons _ _ _ k' v' e' d' vs ds rk rv t => by
    obtain ⟨h1, h2⟩ := look_rep t
    by_cases e : k' = k
    · have ek : lookK ((e', d') :: ds) k = some d' := by
        unfold lookK
        rw [List.find?_cons, key_rep rk, e]
        simp
      rw [valV_pos (p := (k', v')) e]
      exact ⟨(fun v h => by cases h; exact ⟨d', ek, rv⟩), fun h => by cases h⟩
    · have ek : lookK ((e', d') :: ds) k = lookK ds k := by
        unfold lookK
        rw [List.find?_cons, key_rep rk]
        simp [e]
      rw [valV_neg (p := (k', v')) e, ek]
      exact ⟨h1, h2⟩
end
def finGet (d k z : Rv) (p : PS) : R Rv := match opd d p, opd k p with
  | some (.dic kvs), some kd => match keyD kd with
    | some key => match lookK kvs key with
      | some v => .ok (.sh v) p
      | none => .ok z.soft p
    | none => .bad
  | _, _ => .bad
def isDic : Option D → Bool
  | some (.dic _) => true
  | _ => false
def dGet2 (dd dk dx : Dn) : Dn := fun p => (dd p).bind fun d p1 => if isDic (opd d p1) = true then (dk p1).bind fun k p2 => (dx p2).bind fun z p3 => finGet d.soft k.soft z p3 else .bad
/-- a display of constants -/
def VPC (keys : List (Option Expr)) (values : List Expr) (kvs : List (Key × V)) (ds : List (D × D)) : Prop := (∀ X pos, PPs X pos keys values (kvs.map fun kv => (tC (kV kv.1), tC kv.2))) ∧ ∀ K M H, RepK K M H kvs ds
section
variable {s : Sx} {T : Tab} {pos : Pos}
theorem vpc_nil : VPC [] [] [] [] := ⟨fun X pos => pps_nil, fun _ _ _ => .nil⟩
theorem vpc_cons {x : Str} {l : List Nat} {j : Nat} {e : Expr} {v : V} {d : D} {keys : List (Option Expr)} {values : List Expr} {kvs : List (Key × V)} {ds : List (D × D)} {q : Pos} (hx : x.cps.toList = l) (he : ∀ X, PE X e (tC v)) (hr : ∀ K M H, Rep K M H v d) (h : VPC keys values kvs ds) :
    VPC (some (.Constant (.str x) j q) :: keys) (e :: values) ((.inr x, v) :: kvs) ((.str l, d) :: ds) := ⟨fun X pos => pps_cons pe_str (he X) (h.1 X pos), fun K M H => .cons (by rw [S_of hx]; exact Rep.str) (hr K M H) (h.2 K M H)⟩
theorem tp_const {σ : L2.St} {H : Hp} {Q : List (V × V) → Hp → Prop} : ∀ {kvs : List (Key × V)}, Q (kvs.map fun kv => (kV kv.1, kv.2)) H → tPairs (kvs.map fun kv => (tC (kV kv.1), tC kv.2)) σ H Q
  | [], h => h
  | kv :: kvs, h => by
    show tPairs (kvs.map fun kv => (tC (kV kv.1), tC kv.2)) σ H fun ps H3 => Q ((kV kv.1, kv.2) :: ps) H3
    exact tp_const h
theorem v_disp {keys : List (Option Expr)} {values : List Expr} {kvs : List (Key × V)} {ds : List (D × D)} (h : VPC keys values kvs ds) (hm : mergeK [] kvs = kvs) (hl : kvs.length ≤ 15) (hall : keys.all (·.isSome) = true := by rfl) (hlen : keys.length = values.length := by rfl) (h0 : keys ≠ [] := by intro h; cases h) (h15 : keys.length ≤ 15 := by decide) :
    VE s T (.Dict keys values pos) (fun p => .ok (.ow (.dic ds)) p) := fun X W c tk => by
  refine PE.of (pe_disp (h.1 X pos) hall hlen h0 h15) fun σ H Q q => ?_
  obtain ⟨G, p, o, q⟩ := q
  intro a ha
  refine tp_const ⟨upd_same, kvs, rfl, hl, ?_⟩
  rw [upd_upd, hm]
  have q : ∀ u H', StpE X.K G σ p H p H' → RvOk X.K G σ p H H' u (.ow (.dic ds)) → Q u H' := q
  refine q (.ref a) _ (.grow o (same_upd ha)) ⟨rfl, a, rfl, ha, fun z => o.dom z ha, ⟨kvs, upd_same, h.2 _ _ _⟩, o.more (same_upd ha) ha (by rw [upd_same]; simp)⟩
theorem v_get2 {oe ke fe : Expr} {dd dk dx : Dn} {apos : Pos} (ho : VE s T oe dd) (hk : VE s T ke dk) (hf : VE s T fe dx) (m : ∀ X, M2 X oe "get" apos ke fe pos) : VE s T (.Call (.Attribute oe "get" apos) [ke, fe] [] pos) (dGet2 dd dk dx) := fun X W c tk => by
  refine PE.of (pe_dget2 (by have := c.room.units; omega) (ho X W c tk) (hk X W c tk) (hf X W c tk) (m X)) fun σ H Q h => ?_
  obtain ⟨G, p, o, h⟩ := h
  refine te_bind o h fun v p1 u H1 s1 r1 h => ?_
  split at h
  · rename_i hd
    cases e : opd v p1 with
    | none => rw [e] at hd; cases hd
    | some d =>
      rw [e] at hd
      cases d with
      | dic kvs =>
        obtain ⟨a, xs, rfl, h1, r2⟩ := (r1.rdb s1.ok e).dic_
        refine ⟨a, rfl, .inl ⟨xs, .inl h1⟩, ?_⟩
        refine te_bind s1.ok h fun v2 p2 u2 H2 s2 q2 h => ?_
        refine te_bind s2.ok h fun v3 p3 u3 H3 s3 q3 h => ?_
        have r1' := (r1.soft.step s2).step s3
        have r2' := q2.soft.step s3
        unfold finGet at h
        cases e1 : opd v.soft p3 with
        | none => rw [e1] at h; exact h.elim
        | some d1 =>
          cases e2 : opd v2.soft p3 with
          | none => rw [e1, e2] at h; cases d1 <;> exact h.elim
          | some d2 =>
            rw [e1, e2] at h
            cases d1 with
            | dic kvs3 =>
              obtain ⟨a3, xs3, ea, g1, g2⟩ := (r1'.rdb s3.ok e1).dic_
              cases ea
              simp only at h
              cases ek : keyD d2 with
              | none => rw [ek] at h; exact h.elim
              | some key =>
                rw [ek] at h
                have eu := key_of (r2'.rdb s3.ok e2) ek
                subst eu
                obtain ⟨l1, l2⟩ := look_rep (k := key) g2
                refine ⟨valV xs3 key, DGet.k g1, ?_⟩
                cases ev : valV xs3 key with
                | some w =>
                  obtain ⟨d3, l3, l4⟩ := l1 w ev
                  simp only [l3] at h
                  exact h w H3 (.refl s3.ok) l4
                | none =>
                  simp only [l2 ev] at h
                  exact h u3 H3 (.refl s3.ok) q3.soft
            | _ => exact h.elim
      | _ => cases hd
  · exact h.elim
end
end Py
set_option maxRecDepth 100000
namespace Py
open PySem PySem.Spec PyProof.Rows L2

/-! ### powers -/
def rPow : R2 := rI (fun i j => 0 ≤ j ∧ (Builtin.Int.intBits i : Int) * j ≤ 2 ^ 27) fun i j => .int (i ^ j.toNat)
theorem op_powW {X : Cx} : OpR X (binaryOp .Pow) rPow := opI fun _ _ _ _ _ _ _ hc q => PyProof.Rows.pow_int hc.1 hc.2 q
noncomputable def opPow : D → D → Option Rv
  | .int i, .int j => if sb (0 ≤ j ∧ (Builtin.Int.intBits i : Int) * j ≤ 2 ^ 27) = true then some (.sh (.int (i ^ j.toNat))) else none
  | _, _ => none
theorem op2_pow {K : PySem.W.Frag} : Op2 K opPow rPow := by
  intro M H x y a b v Q dom ra rb h
  cases a <;> cases b <;> simp only [opPow] at h <;> (try cases h)
  split at h
  · rename_i hc
    cases h
    exact ⟨rfl, fun q => ⟨_, _, ra.int_, rb.int_, sb_iff.mp hc, res_int q⟩⟩
  · cases h

/-! ### the source's draw -/
def mixD (cell turn : Int) : Int :=
  let n := (cell % 2147483629 * 48271 + turn * turn * 69621 + 11) % 2147483647
  let n := n * n % 2147483629
  n * n % 2147483587
def srcOk (src : List Int × Int) : Prop := 0 < src.1.length ∧ src.1.length ≤ 16777216 ∧ 0 ≤ src.2 ∧ src.2 < 2 ^ 60
instance (src : List Int × Int) : Decidable (srcOk src) := by unfold srcOk; infer_instance
def drawN (limit : Int) (src : List Int × Int) : Int :=
  let cell := src.1.getD (src.2 % (src.1.length : Int)).toNat 0
  if 1000000000000000000 ≤ cell then cell % limit else mixD cell src.2 % limit
def drawS (limit : Int) (src : List Int × Int) : List Int × Int :=
  let place := (src.2 % (src.1.length : Int)).toNat
  let cell := src.1.getD place 0
  (if 1000000000000000000 ≤ cell then src.1.set place (cell / limit) else src.1, src.2 + 1)
noncomputable def semDraw (args : List Sl) (src : List Int × Int) : FR := match args with
  | [.src, .sh (.int limit)] => if sb (0 < limit ∧ limit < 1073741824 ∧ srcOk src) = true then .ok false (.int (drawN limit src)) [.src, .sh (.int limit)] (drawS limit src) else .bad
  | _ => .bad
theorem drawN_lt {limit : Int} {src : List Int × Int} (h : 0 < limit) : 0 ≤ drawN limit src ∧ drawN limit src < limit := by
  unfold drawN
  dsimp only
  split
  · exact ⟨Int.emod_nonneg _ (by omega), Int.emod_lt_of_pos _ h⟩
  · exact ⟨Int.emod_nonneg _ (by omega), Int.emod_lt_of_pos _ h⟩
def drawSl : List Str := ["source", "limit", "cells", "turn", "place", "cell", "number"]
noncomputable def mk1 (a : Dn) : Dn := dN opInt (dCons a dNil)
/-- what follows the turn's writing -/
noncomputable def denDraw : SDn :=
  sSeq (sIf (d2 opGe (dVar 5) (d2 opPow (dC (.int 10)) (dC (.int 18)))) (sSeq (sPut 2 (dVar 4) (d2 opDiv (dVar 5) (dVar 1))) (sRet (d2 opMod (mk1 (dVar 5)) (dVar 1)))) sNil)
  (sSeq (sAsg 6 (d2 opMod (mk1 (d2 opAdd (d2 opAdd (d2 opMul (d2 opMod (mk1 (dVar 5)) (dC (.int 2147483629))) (dC (.int 48271))) (d2 opMul (d2 opMul (dVar 3) (dVar 3)) (dC (.int 69621)))) (dC (.int 11)))) (dC (.int 2147483647))))
  (sSeq (sAsg 6 (d2 opMod (mk1 (d2 opMul (dVar 6) (dVar 6))) (dC (.int 2147483629))))
  (sSeq (sAsg 6 (d2 opMod (mk1 (d2 opMul (dVar 6) (dVar 6))) (dC (.int 2147483587))))
  (sRet (d2 opMod (mk1 (dVar 6)) (dVar 1))))))
def envDraw (limit turn place cell : Int) (cells : List Int) (n : Sl) : List Sl := [.no, .sh (.int limit), .own true false (.lst (cells.map .int)), .sh (.int turn), .sh (.int place), .sh (.int cell), n]
theorem bits10 : (Builtin.Int.intBits 10 : Int) * 18 ≤ 2 ^ 27 := by decide +kernel
theorem ixN_nat {n k : Nat} (h : k < n) : ixN n (k : Int) = some k := by
  unfold ixN
  rw [if_pos (Int.natCast_nonneg k), if_pos (Int.ofNat_lt.mpr h)]
  simp
theorem opMul_int {i j : Int} (h : (-(2 ^ 64) < i ∧ i < 2 ^ 64) ∨ (-(2 ^ 64) < j ∧ j < 2 ^ 64)) : opMul (.int i) (.int j) = some (.sh (.int (i * j))) := by
  simp only [opMul]; rw [if_pos (sb_iff.mpr h)]
theorem opMod_int {i j : Int} (h : 0 < j) : opMod (.int i) (.int j) = some (.sh (.int (i % j))) := by
  simp only [opMod]; rw [if_pos h]
theorem opDiv_int {i j : Int} (h : 0 < j ∧ j < 1073741824) : opDiv (.int i) (.int j) = some (.sh (.int (i / j))) := by
  simp only [opDiv]; rw [if_pos (sb_iff.mpr h)]
theorem opPow_int {i j : Int} (h : 0 ≤ j ∧ (Builtin.Int.intBits i : Int) * j ≤ 2 ^ 27) : opPow (.int i) (.int j) = some (.sh (.int (i ^ j.toNat))) := by
  simp only [opPow]; rw [if_pos (sb_iff.mpr h)]
theorem den_draw {limit turn cell : Int} {place : Nat} {cells : List Int} (h1 : 0 < limit) (h2 : limit < 1073741824) (h3 : 0 ≤ turn) (h4 : turn < 2 ^ 60) (hp : place < cells.length) :
    denDraw ⟨envDraw limit turn place cell cells .no, ([], 0)⟩ = if 1000000000000000000 ≤ cell then .rt (.sh (.int (cell % limit))) ⟨envDraw limit turn place cell (cells.set place (cell / limit)) .no, ([], 0)⟩
      else .rt (.sh (.int (mixD cell turn % limit))) ⟨envDraw limit turn place cell cells (.sh (.int (mixD cell turn))), ([], 0)⟩ := by
  have e18 : opPow (.int 10) (.int 18) = some (.sh (.int 1000000000000000000)) := opPow_int ⟨by decide, bits10⟩
  have g1 : ∀ i, opMod (.int i) (.int limit) = some (.sh (.int (i % limit))) := fun i => opMod_int h1
  have g2 : ∀ i, opMod (.int i) (.int 2147483629) = some (.sh (.int (i % 2147483629))) := fun i => opMod_int (by decide)
  have g3 : ∀ i, opMod (.int i) (.int 2147483647) = some (.sh (.int (i % 2147483647))) := fun i => opMod_int (by decide)
  have g4 : ∀ i, opMod (.int i) (.int 2147483587) = some (.sh (.int (i % 2147483587))) := fun i => opMod_int (by decide)
  have g5 : opDiv (.int cell) (.int limit) = some (.sh (.int (cell / limit))) := opDiv_int ⟨h1, h2⟩
  have g6 : ∀ i, opMul (.int i) (.int 48271) = some (.sh (.int (i * 48271))) := fun i => opMul_int (.inr (by decide))
  have g7 : ∀ i, opMul (.int i) (.int 69621) = some (.sh (.int (i * 69621))) := fun i => opMul_int (.inr (by decide))
  have g8 : opMul (.int turn) (.int turn) = some (.sh (.int (turn * turn))) := opMul_int (.inr (by omega))
  have g9 : ∀ i, opMul (.int (i % 2147483647)) (.int (i % 2147483647)) = some (.sh (.int (i % 2147483647 * (i % 2147483647)))) := fun i => opMul_int (.inr (by omega))
  have g10 : ∀ i, opMul (.int (i % 2147483629)) (.int (i % 2147483629)) = some (.sh (.int (i % 2147483629 * (i % 2147483629)))) := fun i => opMul_int (.inr (by omega))
  have ga : ∀ i j : Int, opAdd (.int i) (.int j) = some (.sh (.int (i + j))) := fun _ _ => rfl
  have gg : opGe (.int cell) (.int 1000000000000000000) = some (.sh (.bl (decide ((1000000000000000000 : Int) ≤ cell)))) := rfl
  have gi : ∀ i : Int, opInt [.int i] = some (.sh (.int i)) := fun _ => rfl
  have gx : ixN cells.length (place : Int) = some place := ixN_nat hp
  by_cases hc : (1000000000000000000 : Int) ≤ cell
  · rw [if_pos hc]
    simp [denDraw, envDraw, sSeq, sIf, onR, onBS, d2, fin2, dVar, dC, opd, give, e18, gg, hc, sPut, putS, g5, gx, mk1, dN, dCons, dNil, finN, opds, gi, g1, sRet, Out.bind, List.map_set]
  · rw [if_neg hc]
    simp [denDraw, envDraw, sSeq, sIf, onR, onBS, d2, fin2, dVar, dC, opd, give, e18, gg, hc, sAsg, asgn, setSl, sNil, mk1, dN, dCons, dNil, finN, opds, gi, g1, g2, g3, g4, g6, g7, g8, g9, g10, ga, sRet, Out.bind, mixD]

/-! ### the draw's def -/
section
variable {K : PySem.W.Frag} {P : Program} {w : World} {mg : Str → Option Value} {base : Heap} {f : Addr} {fd : FuncData} {params : Arguments} {scope : Scope} {X : Cx}
theorem ints_rep {M : Addr → Prop} {H : Hp} : ∀ cells : List Int, RepL K M H (cells.map V.int) (cells.map D.int)
  | [] => .nil
  | c :: cs => .cons .int (ints_rep cs)
theorem rep_ints {M : Addr → Prop} {H : Hp} : ∀ {cells : List Int} {vs : List V}, RepL K M H vs (cells.map D.int) → vs = cells.map V.int
  | [], _, .nil => rfl
  | c :: cs, _, .cons r t => by cases r; rw [rep_ints t]; rfl
def sDrA (a1 a2 a3 a4 a5 : Pos) (k : Nat) : Stmt := .Assign [.Tuple [.Name "cells" a1, .Name "turn" a2] k a3] (.Name "source" a4) a5
def sDrB (b1 b2 b3 b4 b5 b6 b7 b8 : Pos) : Stmt := .Assign [.Name "place" b1] (.BinOp (.Call (.Name "int" b2) [.Name "turn" b3] [] b4) .Mod (.Call (.Name "len" b5) [.Name "cells" b6] [] b7) b8) b8
theorem pe_lv {s : Sx} {T : Tab} {i : Nat} {x : Str} {pos : Pos} (c : CtxOk s T X) (hN : s.N[i]? = some x) (hv : visB s.sc x = true) (hd : (x == ("__debug__" : Str)) = false := by decide) (hcd : (x == ("__classdict__" : Str)) = false := by decide) : PE X (.Name x pos) (tVar i) :=
  pe_var (by rw [c.N]; exact hN) (by rw [c.sc]; exact vis_of hv) hd hcd
def rInt1 : List V → Hp → VK → Prop := fun xs H Q => (∃ i, xs = [.int i] ∧ Q (.int i) H) ∨ ∃ k, xs = [.bl k] ∧ Q (.int (if k then 1 else 0)) H
def rLenV (K : PySem.W.Frag) : List V → Hp → VK → Prop := fun xs H Q => ∃ x n, xs = [x] ∧ LenV K x H n ∧ Q (.int n) H
noncomputable def tDraw (K : PySem.W.Frag) (rest : TS) : TS :=
  tSeq (tAsg (tVar 0) (gLst K 2 (gCons (gName 2) (gCons (gName 3) gNil))))
  (tSeq (tAsg (tOp (rI (fun _ j => 0 < j) fun i j => .int (i % j)) (tCB rInt1 (tCons (tVar 3) tNil)) (tCB (rLenV K) (tCons (tVar 2) tNil))) (gName 4))
  (tSeq (tAsg (tOp (rIx K) (tVar 2) (tVar 4)) (gName 5))
  (tSeq (tAsg (tOp (rI0 fun i j => .int (i + j)) (tVar 3) (tC (.int 1))) (gSub (tVar 0) (tC (.int 1)) rSetL)) rest)))
theorem emod_at {n : Nat} {t : Int} (h : 0 < n) : (t % (n : Int)).toNat < n ∧ (((t % (n : Int)).toNat : Nat) : Int) = t % (n : Int) := by
  have h1 := Int.emod_nonneg t (show (n : Int) ≠ 0 by omega)
  have h2 := Int.emod_lt_of_pos t (show (0 : Int) < n by omega)
  omega
theorem draw_cases (args : List Sl) (src : List Int × Int) : (∃ limit, args = [.src, .sh (.int limit)] ∧ (0 < limit ∧ limit < 1073741824 ∧ srcOk src) ∧ semDraw args src = .ok false (.int (drawN limit src)) [.src, .sh (.int limit)] (drawS limit src)) ∨ semDraw args src = .bad := by
  unfold semDraw
  split
  · rename_i limit
    by_cases hc : 0 < limit ∧ limit < 1073741824 ∧ srcOk src
    · exact .inl ⟨limit, rfl, hc, if_pos (sb_iff.mpr hc)⟩
    · exact .inr (if_neg fun z => hc (sb_iff.mp z))
  · exact .inr rfl
theorem draw_run {cl : Nat → Addr} {W : WX} {vs : List V} {H : Hp} {Q : VK} {E : XK} (hs : spF K cl 2 semDraw vs H Q E) : tDraw K (tS K cl W denDraw) { nx := fun _ H' => Q .non H', rt := Q } (L2.start drawSl vs) H := by
  obtain ⟨hl, G, args, src, c, hs⟩ := hs
  rcases draw_cases args src with ⟨limit, rfl, ⟨hl1, hl2, hc1, hc2, hc3, hc4⟩, e⟩ | e
  · rw [e] at hs
    obtain ⟨v1, v2, rfl⟩ : ∃ v1 v2, vs = [v1, v2] := match vs, hl with | [v1, v2], _ => ⟨v1, v2, rfl⟩
    have har := c.ar
    cases har with
    | cons r1 t1 =>
      cases t1 with
      | cons r2 t2 =>
        obtain ⟨q, hq, rfl⟩ := r1
        have r2 : Rep K _ H v2 (.int limit) := r2
        cases r2
        obtain ⟨hne, g1, g2, g3, g4⟩ := c.ga q hq
        obtain ⟨cells, turn⟩ := src
        simp only at hc1 hc2 hc3 hc4 g1 g2
        obtain ⟨p1, p2⟩ := emod_at (t := turn) hc1
        generalize hplace : (turn % (cells.length : Int)).toNat = place at p1 p2
        have hcell : cells[place]? = some (cells.getD place 0) := by
          rw [List.getD_eq_getElem?_getD, List.getElem?_eq_getElem p1]; rfl
        -- the turn's writing
        have hH : ∀ a o, H a = some o → a ≠ q.1 → (upd H q.1 (.lst [.ref q.2, .int (turn + 1)])) a = some o := fun a o e n => by rw [upd_ne n]; exact e
        generalize hH1 : upd H q.1 (.lst [.ref q.2, .int (turn + 1)]) = H1 at hH
        have k1 : H1 q.1 = some (.lst [.ref q.2, .int (turn + 1)]) := by rw [← hH1]; exact upd_same
        have k2 : H1 q.2 = some (.lst (cells.map V.int)) := hH _ _ g2 (Ne.symm hne)
        have dm : ∀ a, H1 a = none → H a = none := fun a e => by
          by_cases z : a = q.1
          · rw [z, k1] at e; cases e
          · rw [← hH1, upd_ne z] at e; exact e
        let G1 : Gh := ⟨fun a => G.mx a ∨ a = q.1, none⟩
        have ok : Ok K G1 [some (.ref q.1), some (.int limit), some (.ref q.2), some (.int turn), some (.int place), some (.int (cells.getD place 0)), none] H1 ⟨envDraw limit turn place (cells.getD place 0) cells .no, ([], 0)⟩ := by
          refine ⟨rfl, fun i d h => ?_, fun i l z d h => ?_, fun i j l z d l' z' d' a h1 h2 _ _ => ?_, fun i h => ?_, fun a h => ?_, fun _ h => by cases h⟩
          · rcases i with _ | _ | _ | _ | _ | _ | _ | i <;> simp [envDraw] at h <;> subst h <;> exact ⟨_, rfl, .int⟩
          · rcases i with _ | _ | _ | _ | _ | _ | _ | i <;> simp [envDraw] at h
            obtain ⟨_, _, rfl⟩ := h
            exact ⟨q.2, rfl, ⟨_, k2, ints_rep _⟩, fun z => z.elim g4 fun e => hne e.symm, fun ⟨_, e, _⟩ => by cases e⟩
          · have : ∀ (i : Nat) l z d, (envDraw limit turn place (cells.getD place 0) cells .no)[i]? = some (.own l z d) → i = 2 := fun i l z d h => by
              rcases i with _ | _ | _ | _ | _ | _ | _ | i <;> simp [envDraw] at h
              rfl
            rw [this i _ _ _ h1, this j _ _ _ h2]
          · rcases i with _ | _ | _ | _ | _ | _ | _ | i <;> simp [envDraw] at h
          · rcases h with h | rfl
            · intro e
              exact c.mx a h (dm a e)
            · rw [k1]; simp
        refine ⟨_, rfl, q.1, _, rfl, .inl (.inl g1), rfl, _, _, rfl, _, _, rfl, rfl, ?_⟩
        refine ⟨_, rfl, .inl ⟨_, rfl, _, rfl, _, _, rfl, .inl ⟨_, .inl (.inl g2), rfl⟩, _, _, rfl, rfl, ?_, ?_⟩⟩
        · rw [List.length_map]; omega
        rw [List.length_map]
        show gName 4 (V.int (turn % (cells.length : Int))) _ H _
        rw [← p2]
        refine ⟨_, rfl, _, rfl, .inl ⟨q.2, _, _, _, rfl, rfl, .inl (.inl g2), (?_ : atI (cells.map V.int) (place : Int) = some (.int (cells.getD place 0))), ?_⟩⟩
        · unfold atI
          rw [List.length_map, ixN_nat p1]
          show (cells.map V.int)[place]? = _
          rw [List.getElem?_map, hcell]; rfl
        refine ⟨_, rfl, _, _, rfl, rfl, _, rfl, q.1, _, _, 1, rfl, rfl, g1, rfl, ?_⟩
        show tS K cl W denDraw _ _ (upd H q.1 (.lst [.ref q.2, .int (turn + 1)]))
        rw [hH1]
        refine ⟨G1, _, ok, ?_⟩
        rw [den_draw hl1 hl2 hc3 hc4 p1]
        have fin : ∀ (cells' : List Int) (r : Int) (n : Sl) (σ' : L2.St) (u : V) (H' : Hp), Stp K G1 [some (.ref q.1), some (.int limit), some (.ref q.2), some (.int turn), some (.int place), some (.int (cells.getD place 0)), none] ⟨envDraw limit turn place (cells.getD place 0) cells .no, ([], 0)⟩ H1 σ' ⟨envDraw limit turn place (cells.getD place 0) cells' n, ([], 0)⟩ H' →
            drawN limit (cells, turn) = r → drawS limit (cells, turn) = (cells', turn + 1) → Rep K (Mu G1 σ' (envDraw limit turn place (cells.getD place 0) cells' n)) H' u (.int r) → Q u H' := fun cells' r n σ' u H' s e1 e2 ru => by
          cases ru
          rw [e1, e2] at hs
          obtain ⟨_, _, _, e4⟩ := s.lent 2 false (.lst (cells.map D.int)) rfl
          obtain ⟨b, e5, ⟨xs, e6, e7⟩, _⟩ := s.ok.ow 2 true false (.lst (cells'.map D.int)) rfl
          rw [e4] at e5
          have eb : b = q.2 := by
            have : (some (some (V.ref q.2)) : Option (Option V)) = some (some (.ref b)) := e5
            injection this with this; injection this with this; injection this with this; exact this.symm
          subst eb
          rw [rep_ints e7] at e6
          have nl1 : ¬ Lm G1 [some (.ref q.1), some (.int limit), some (.ref q.2), some (.int turn), some (.int place), some (.int (cells.getD place 0)), none] (envDraw limit turn place (cells.getD place 0) cells .no) q.1 := nL (show G1.mx q.1 from .inr rfl) ok
          have lmq : ∀ a, Lm G1 [some (.ref q.1), some (.int limit), some (.ref q.2), some (.int turn), some (.int place), some (.int (cells.getD place 0)), none] (envDraw limit turn place (cells.getD place 0) cells .no) a → a = q.2 := fun a z => by
            rcases z with ⟨_, e, _⟩ | ⟨i, l, d, h1, h2⟩
            · cases e
            · rcases i with _ | _ | _ | _ | _ | _ | _ | i <;> simp [envDraw] at h1
              simp at h2; exact h2.symm
          have k1' := s.fr _ _ k1 nl1
          refine hs _ H' ⟨fun a o e n => ?_, fun a e => dm a (s.dom a e), .refl _, fun i l z d a e _ => ?_, fun q' e => ?_⟩ .int
          · have na1 : a ≠ q.1 := fun z => n (.inl ⟨q, hq, .inl z⟩)
            have na2 : a ≠ q.2 := fun z => n (.inl ⟨q, hq, .inr z⟩)
            exact s.fr a o (hH a o e na1) fun z => na2 (lmq a z)
          · rcases i with _ | _ | i <;> simp at e
          · rw [hq] at e; cases e
            exact ⟨k1', e6⟩
        split
        · rename_i hb
          refine fun σ' u H' s r => fin _ _ _ σ' u H' s ?_ ?_ r
          · unfold drawN; simp only [hplace]; rw [if_pos hb]
          · unfold drawS; simp only [hplace]; rw [if_pos hb]
        · rename_i hb
          refine fun σ' u H' s r => fin _ _ _ σ' u H' s ?_ ?_ r
          · unfold drawN; simp only [hplace]; rw [if_neg hb]
          · unfold drawS; simp only [hplace]; rw [if_neg hb]
  · rw [e] at hs
    exact hs.elim
end
end Py
set_option maxRecDepth 100000
namespace Py
open PySem PySem.Spec PyProof.Rows L2
section
variable {K : PySem.W.Frag} {P : Program} {w : World} {mg : Str → Option Value} {base : Heap} {f : Addr} {fd : FuncData} {params : Arguments} {body : List Stmt} {scope : Scope} {qual : Str} {x : Str}
def glB (sc : Scope) (x : Str) : Bool := match sc.names.lookup x with
  | some .globalImplicit => true
  | _ => false
theorem gl_of {sc : Scope} {x : Str} (h : glB sc x = true) : sc.names.lookup x = some .globalImplicit := by
  unfold glB at h
  split at h
  · assumption
  · cases h
theorem gl_cx {s : Sx} {T : Tab} {X : Cx} {x : Str} (c : CtxOk s T X) (h : glB s.sc x = true) : Gl X x := by
  show X.env.scope.names.lookup x = _
  rw [c.sc]; exact gl_of h
/-- the head of the draw's body -/
theorem pss_draw {s : Sx} {T : Tab} {X : Cx} {rest : List Stmt} {t : TS} {a1 a2 a3 a4 a5 b1 b2 b3 b4 b5 b6 b7 b8 b9 c1 c2 c3 c4 c5 d1 d2 d3 d4 d5 d6 d7 : Pos} {k1 k2 k3 : Nat} (c : CtxOk s T X) (hN : s.N = drawSl) (hv : drawSl.all (visB s.sc) = true) (hl : (["cells", "turn", "place", "cell"] : List Str).all (locB s) = true)
    (hg : glB s.sc "int" = true) (hg2 : glB s.sc "len" = true) (hf : T.free "int" = true) (hf2 : T.free "len" = true) (hr : PSs X rest t) :
    PSs X (.Assign [.Tuple [.Name "cells" a1, .Name "turn" a2] k1 a3] (.Name "source" a4) a5 :: .Assign [.Name "place" b1] (.BinOp (.Call (.Name "int" b2) [.Name "turn" b3] [] b4) .Mod (.Call (.Name "len" b5) [.Name "cells" b6] [] b7) b8) b9 ::
      .Assign [.Name "cell" c1] (.Subscript (.Name "cells" c2) (.Name "place" c3) c4) c5 :: .Assign [.Subscript (.Name "source" d1) (.Constant (.int 1) k2 d2) d3] (.BinOp (.Name "turn" d4) .Add (.Constant (.int 1) k3 d5) d6) d7 :: rest) (tDraw X.K t) := by
  have nd : X.N.Nodup := by rw [c.N]; exact c.nd
  have hNX : X.N = drawSl := by rw [c.N, hN]
  rw [List.all_eq_true] at hv hl
  have vv : ∀ (i : Nat) (x : Str) (pos : Pos), drawSl[i]? = some x → PE X (.Name x pos) (tVar i) := fun i x pos h => by
    have hm : x ∈ drawSl := List.mem_of_getElem? h
    refine pe_var (by rw [hNX]; exact h) (by rw [c.sc]; exact vis_of (hv x hm)) ?_ ?_
    · simp [drawSl] at hm; rcases hm with rfl | rfl | rfl | rfl | rfl | rfl | rfl <;> decide
    · simp [drawSl] at hm; rcases hm with rfl | rfl | rfl | rfl | rfl | rfl | rfl <;> decide
  have ln : ∀ (i : Nat) (x : Str) (pos : Pos), drawSl[i]? = some x → x ∈ (["cells", "turn", "place", "cell"] : List Str) → Loc X.env.scope x ∧ (X.fn x = true ∨ X.env.scope.names.lookup x = some .local) := fun i x pos h hm => loc_of c (hl x hm)
  obtain ⟨l1, l2⟩ := ln 2 "cells" a1 rfl (by simp)
  obtain ⟨l3, l4⟩ := ln 3 "turn" a1 rfl (by simp)
  obtain ⟨l5, l6⟩ := ln 4 "place" a1 rfl (by simp)
  obtain ⟨l7, l8⟩ := ln 5 "cell" a1 rfl (by simp)
  refine pss_cons (ps_asg (vv 0 _ _ rfl) (pg_lst c.calm (pgs_cons (pg_name nd (i := 2) (by rw [hNX]; rfl) l1 l2) (pgs_cons (pg_name nd (i := 3) (by rw [hNX]; rfl) l3 l4) pgs_nil)))) ?_
  refine pss_cons (ps_set nd (i := 4) (by rw [hNX]; rfl) l5 (pe_op op_mod (pe_callTy call_int1 (gl_cx c hg) (c.fac.free _ hf) (by decide +kernel) (pa_cons (vv 3 _ _ rfl) pa_nil)) (pe_callB call_len (gl_cx c hg2) (c.fac.free _ hf2) (by decide +kernel) (pa_cons (vv 2 _ _ rfl) pa_nil))) (hf := l6)) ?_
  refine pss_cons (ps_set nd (i := 5) (by rw [hNX]; rfl) l7 (pe_ix ix_seq (vv 2 _ _ rfl) (vv 4 _ _ rfl) (fun _ _ => rfl)) (hf := l8)) ?_
  exact pss_cons (ps_asg (pe_op op_add (vv 3 _ _ rfl) pe_int) (pg_sub (vv 0 _ _ rfl) pe_int set_list (fun _ => rfl))) hr
end
end Py
set_option maxRecDepth 100000
namespace Py
open PySem PySem.Spec PyProof.Rows L2
section
variable {K : PySem.W.Frag} {P : Program} {w : World} {mg : Str → Option Value} {base : Heap} {f : Addr} {fd : FuncData} {params : Arguments} {body : List Stmt} {scope : Scope} {qual : Str} {x : Str}
/-- the draw keeps its meaning -/
theorem draw_ok {T : Tab} (F : FunD K x qual params body scope [] [] f fd) (S : FnScope drawSl ["source", "limit"] scope) (fac : Facts T P w K mg base)
    (h : ∀ X W, CtxS ⟨drawSl, scope, fun _ => true⟩ T X → Takes X W → PSs X body (tDraw X.K (tS X.K (clK X.K) W denDraw))) : FnOk P w K mg base (L2.CX P w) (T.k + 1) f fd ["source", "limit"] (spF K (clK K) 2 semDraw) := by
  refine F.ok S (fun vs H Q E hs => hs.1) (fun cdv A outer st H vs Q E hr hs => ?_)
  have cx : CtxS ⟨drawSl, scope, fun _ => true⟩ T (cxOf (L2.CX P w) P w K mg base drawSl qual scope f cdv A outer st H E) := ⟨⟨rfl, rfl, S.nd, rfl, hr, fun _ _ => rfl, fac⟩, passes_of rfl, rfl, rfl, rfl⟩
  exact ⟨_, h _ (fun cls d _ H => E cls d H) cx (takes_of rfl rfl rfl rfl), draw_run hs⟩

/-! ### the source -/
def bigL : Int := (10 ^ 60) ^ 20
def cellD (c : Int) : Int := if 1000000000000000000 ≤ (if c < 0 then -c else c) then c % bigL else c
def srcCells (ns : List Int) : List Int := match (ns.take 63).map cellD with
  | [] => [0]
  | c :: cs => c :: cs
def spSource (K : PySem.W.Frag) : Sp := fun vs H Q _ => ∃ (a : Addr) (ns : List Int), vs = [.ref a] ∧ SqL K H a (ns.map V.int) ∧ ∀ q1 q2 H', q1 ≠ q2 → H q1 = none → H q2 = none → Same H H' → H' q1 = some (.lst [.ref q2, .int 0]) → H' q2 = some (.lst ((srcCells ns).map V.int)) → Q (.ref q1) H'
def srcSl : List Str := ["script", "cells", "k"]
noncomputable def denSrc1 : SDn := sFor (dRg1 (dN opLen (dCons (dVar 1) dNil))) (gN 2)
  (sIf (d2 opGe (dN opAbs (dCons (d2 opIx (dVar 1) (dVar 2)) dNil)) (d2 opPow (dC (.int 10)) (dC (.int 18)))) (sPut 1 (dVar 2) (d2 opMod (mk1 (d2 opIx (dVar 1) (dVar 2))) (d2 opPow (d2 opPow (dC (.int 10)) (dC (.int 60))) (dC (.int 20))))) sNil)
noncomputable def denSrc2 : SDn := sIf (d2 opEq (dVar 1) (dLst dNil)) (sAsg 1 (dLst (dCons (dC (.int 0)) dNil))) sNil
noncomputable def tSrc (K : PySem.W.Frag) (cl : Nat → Addr) (W : WX) (r : V → Option Int → Option Int → Hp → VK → Prop) (tl th : TO) : TS :=
  tSeq (tAsg (tSl r (tVar 0) tl th) (gName 1)) (tSeq (tS K cl W denSrc1) (tSeq (tS K cl W denSrc2) (tRet (tLst (tCons (tVar 1) (tCons (tC (.int 0)) tNil))))))
theorem bits60 : (Builtin.Int.intBits ((10 : Int) ^ 60) : Int) * 20 ≤ 2 ^ 27 := by decide +kernel
theorem bits6 : (Builtin.Int.intBits 10 : Int) * 60 ≤ 2 ^ 27 := by decide +kernel
theorem big_pos : 0 < bigL := by decide +kernel
theorem pow_big : ((10 : Int) ^ 60) ^ (20 : Int).toNat = bigL := rfl
theorem src_turn {cells : List Int} {k : Nat} (hk : k < cells.length) : (sIf (d2 opGe (dN opAbs (dCons (d2 opIx (dVar 1) (dVar 2)) dNil)) (d2 opPow (dC (.int 10)) (dC (.int 18)))) (sPut 1 (dVar 2) (d2 opMod (mk1 (d2 opIx (dVar 1) (dVar 2))) (d2 opPow (d2 opPow (dC (.int 10)) (dC (.int 60))) (dC (.int 20))))) sNil)
    ⟨[.no, .own false false (.lst (cells.map D.int)), .sh (.int (k : Nat))], ([], 0)⟩ = .nx ⟨[.no, .own false false (.lst ((cells.set k (cellD cells[k])).map D.int)), .sh (.int (k : Nat))], ([], 0)⟩ := by
  have e18 : opPow (.int 10) (.int 18) = some (.sh (.int 1000000000000000000)) := opPow_int ⟨by decide, bits10⟩
  have e60 : opPow (.int 10) (.int 60) = some (.sh (.int (10 ^ 60))) := opPow_int ⟨by decide, bits6⟩
  have e20 : opPow (.int (10 ^ 60)) (.int 20) = some (.sh (.int bigL)) := opPow_int ⟨by decide, bits60⟩
  generalize hp : (10 : Int) ^ 60 = p60 at e60 e20
  have hx : opIx (.lst (cells.map D.int)) (.int (k : Nat)) = some (.sh (.int cells[k])) := by
    simp only [opIx]
    unfold atI
    rw [List.length_map, ixN_nat hk]
    show Option.map Rv.sh ((cells.map D.int)[k]?) = _
    rw [List.getElem?_map, List.getElem?_eq_getElem hk]; rfl
  have ha : ∀ i, opAbs [.int i] = some (.sh (.int (if i < 0 then -i else i))) := fun _ => rfl
  have gg : ∀ i, opGe (.int i) (.int 1000000000000000000) = some (.sh (.bl (decide ((1000000000000000000 : Int) ≤ i)))) := fun _ => rfl
  have gi : ∀ i : Int, opInt [.int i] = some (.sh (.int i)) := fun _ => rfl
  have gm : ∀ i, opMod (.int i) (.int bigL) = some (.sh (.int (i % bigL))) := fun i => opMod_int big_pos
  have gx : ixN cells.length (k : Int) = some k := ixN_nat hk
  by_cases hc : (1000000000000000000 : Int) ≤ (if cells[k] < 0 then -cells[k] else cells[k])
  · have ec : cellD cells[k] = cells[k] % bigL := if_pos hc
    rw [ec]
    simp [sIf, onR, onBS, d2, fin2, dVar, dC, opd, give, e18, e60, e20, gg, hc, sPut, putS, gx, mk1, dN, dCons, dNil, finN, opds, gi, gm, hx, ha, Out.bind, List.map_set]
  · have ec : cellD cells[k] = cells[k] := if_neg hc
    rw [ec]
    simp [sIf, onR, onBS, d2, fin2, dVar, dC, opd, give, e18, e60, e20, gg, hc, sNil, gx, mk1, dN, dCons, dNil, finN, opds, gi, gm, hx, ha, Out.bind]
theorem src_loop : ∀ (n : Nat) (done todo : List Int) (x : Sl), todo.length = n → (∀ l z d, x ≠ .own l z d) → ∃ y, forL (gN 2) (sIf (d2 opGe (dN opAbs (dCons (d2 opIx (dVar 1) (dVar 2)) dNil)) (d2 opPow (dC (.int 10)) (dC (.int 18)))) (sPut 1 (dVar 2) (d2 opMod (mk1 (d2 opIx (dVar 1) (dVar 2))) (d2 opPow (d2 opPow (dC (.int 10)) (dC (.int 60))) (dC (.int 20))))) sNil)
    ((List.range' done.length n).map fun i => .int (i : Nat)) ⟨[.no, .own false false (.lst ((done ++ todo).map D.int)), x], ([], 0)⟩ = .nx ⟨[.no, .own false false (.lst ((done ++ todo.map cellD).map D.int)), y], ([], 0)⟩
  | 0, done, todo, x, h, _ => by
    cases todo with
    | nil => exact ⟨x, rfl⟩
    | cons _ _ => cases h
  | n + 1, done, todo, x, h, hx => by
    cases todo with
    | nil => cases h
    | cons c todo =>
      have hs : setSl 2 (.sh (.int (done.length : Nat))) [.no, .own false false (.lst ((done ++ c :: todo).map D.int)), x] = some [.no, .own false false (.lst ((done ++ c :: todo).map D.int)), .sh (.int (done.length : Nat))] := by
        cases x with
        | own l z d => exact absurd rfl (hx l z d)
        | _ => rfl
      obtain ⟨y, ih⟩ := src_loop n (done ++ [cellD c]) todo (.sh (.int (done.length : Nat))) (by simpa using h) (fun _ _ _ e => by cases e)
      refine ⟨y, ?_⟩
      rw [List.range'_succ, List.map_cons]
      unfold forL
      show (match setSl 2 (.sh (.int (done.length : Nat))) [.no, .own false false (.lst ((done ++ c :: todo).map D.int)), x] with | none => _ | some env' => _) = _
      rw [hs]
      have hk : done.length < (done ++ c :: todo).length := by simp
      have st := src_turn hk
      have e1 : (done ++ c :: todo)[done.length] = c := by simp
      have e2 : (done ++ c :: todo).set done.length (cellD c) = (done ++ [cellD c]) ++ todo := by simp
      rw [e1, e2] at st
      simp only [st]
      have e3 : (done ++ [cellD c]).length = done.length + 1 := by simp
      rw [e3] at ih
      rw [ih]
      simp
theorem sFor_eval {di : PS → R Iv} {tg : Tgd} {body : SDn} {p p1 : PS} {iv : Iv} (h : di p = .ok iv p1) (hl : lockOk iv.z p1.env = true) : sFor di tg body p = unlockO iv.z (forL tg body iv.items ⟨lockE iv.z p1.env, p1.src⟩) := by
  unfold sFor
  rw [h, onR_ok, if_pos hl]
theorem rng_0 {n : Nat} (h : n ≤ 63) : rngO (.int 0) (.int (n : Nat)) = some ((List.range' 0 n).map fun i => .int (i : Nat)) := by
  have hc : -(2 ^ 62) ≤ (0 : Int) ∧ (0 : Int) < 2 ^ 62 ∧ -(2 ^ 62) ≤ (n : Int) ∧ (n : Int) < 2 ^ 62 := by omega
  have e : rngO (.int 0) (.int (n : Nat)) = some (rngL 0 ((n : Int) - 0).toNat) := by
    simp only [rngO]
    rw [if_pos (sb_iff.mpr hc)]
  rw [e]
  unfold rngL
  rw [show ((n : Int) - 0).toNat = n by omega, List.range_eq_range']
  simp
theorem den_src1 {ns : List Int} (h : ns.length ≤ 63) : ∃ y, denSrc1 ⟨[.no, .own false false (.lst (ns.map D.int)), .no], ([], 0)⟩ = .nx ⟨[.no, .own false false (.lst ((ns.map cellD).map D.int)), y], ([], 0)⟩ := by
  obtain ⟨y, h1⟩ := src_loop ns.length [] ns .no rfl (fun _ _ _ e => by cases e)
  refine ⟨y, ?_⟩
  have hlen : opLen [.lst (ns.map D.int)] = some (.sh (.int ns.length)) := by simp [opLen]
  have hr := rng_0 h
  have e0 : dRg1 (dN opLen (dCons (dVar 1) dNil)) ⟨[.no, .own false false (.lst (ns.map D.int)), .no], ([], 0)⟩ = .ok ⟨none, (List.range' 0 ns.length).map fun i => .int (i : Nat)⟩ ⟨[.no, .own false false (.lst (ns.map D.int)), .no], ([], 0)⟩ := by
    simp only [dRg1, dN, dCons, dNil, dVar, List.getElem?_cons_succ, List.getElem?_cons_zero, R.bind_ok, finN, opds, soft_bo, opd, hlen, give_some, fin1I, hr]
  unfold denSrc1
  rw [sFor_eval e0 rfl]
  simp only [List.nil_append, List.length_nil] at h1
  show unlockO none (forL _ _ _ ⟨[.no, .own false false (.lst (ns.map D.int)), .no], ([], 0)⟩) = _
  rw [h1]
  rfl
theorem den_src2 {cs : List Int} {y : Sl} : denSrc2 ⟨[.no, .own false false (.lst (cs.map D.int)), y], ([], 0)⟩ = .nx ⟨[.no, .own false false (.lst ((match cs with | [] => [0] | c :: cs => c :: cs).map D.int)), y], ([], 0)⟩ := by
  cases cs with
  | nil => simp [denSrc2, sIf, onR, onBS, d2, fin2, dVar, dC, opd, give, dLst, dNil, dCons, finR, reps, mkLst, opEq, okq, okD, deq, deqL, sAsg, asgn, setSl]
  | cons c cs => simp [denSrc2, sIf, onR, onBS, d2, fin2, dVar, dC, opd, give, dLst, dNil, dCons, finR, reps, mkLst, opEq, deq, deqL, sNil, okq, okD]
theorem src_run {cl : Nat → Addr} {W : WX} {vs : List V} {H : Hp} {Q : VK} {E : XK} {r : V → Option Int → Option Int → Hp → VK → Prop} {tl th : TO} (hs : spSource K vs H Q E)
    (hsl : ∀ (a : Addr) (xs : List V) (H : Hp) (Q : VK), SqL K H a xs → (∀ p, H p = none → Q (.ref p) (upd H p (.lst (xs.take 63)))) → tl [some (V.ref a), none, none] H fun l H2 => th [some (V.ref a), none, none] H2 fun u H3 => r (.ref a) l u H3 Q) :
    tSrc K cl W r tl th { nx := fun _ H' => Q .non H', rt := Q } (L2.start srcSl vs) H := by
  obtain ⟨a, ns, rfl, hq, k⟩ := hs
  refine ⟨_, rfl, hsl a _ H _ hq fun q hn => ?_⟩
  rw [← List.map_take]
  have hl : (ns.take 63).length ≤ 63 := by rw [List.length_take]; omega
  have hH : Same H (upd H q (.lst ((ns.take 63).map V.int))) := same_upd hn
  generalize hH1 : upd H q (.lst ((ns.take 63).map V.int)) = H1 at hH
  have k2 : H1 q = some (.lst ((ns.take 63).map V.int)) := by rw [← hH1]; exact upd_same
  let G0 : Gh := ⟨fun _ => False, none⟩
  let e0 : List Sl := [.no, .own false false (.lst ((ns.take 63).map D.int)), .no]
  have ok : Ok K G0 [some (.ref a), some (.ref q), none] H1 ⟨e0, ([], 0)⟩ := by
    refine ⟨rfl, fun i d h => ?_, fun i l z d h => ?_, fun i j l z d l' z' d' a h1 h2 _ _ => ?_, fun i h => ?_, fun a h => h.elim, fun _ h => by cases h⟩
    · rcases i with _ | _ | _ | i <;> simp [e0] at h
    · rcases i with _ | _ | _ | i <;> simp [e0] at h
      obtain ⟨_, _, rfl⟩ := h
      exact ⟨q, rfl, ⟨_, k2, by rw [← List.map_take]; exact ints_rep _⟩, fun z => z, fun ⟨_, e, _⟩ => by cases e⟩
    · have : ∀ (i : Nat) l z d, e0[i]? = some (.own l z d) → i = 1 := fun i l z d h => by
        rcases i with _ | _ | _ | i <;> simp [e0] at h
        rfl
      rw [this i _ _ _ h1, this j _ _ _ h2]
    · rcases i with _ | _ | _ | i <;> simp [e0] at h
  obtain ⟨y, d1⟩ := den_src1 hl
  have d2 := den_src2 (cs := (ns.take 63).map cellD) (y := y)
  refine ⟨G0, _, ok, ?_⟩
  rw [d1]
  intro σ1 H2 s1
  refine ⟨G0, _, s1.ok, ?_⟩
  rw [d2]
  intro σ2 H3 s2
  have s := s1.trans s2
  obtain ⟨b, e5, ⟨xs, e6, e7⟩, _⟩ := s2.ok.ow 1 false false _ rfl
  rw [rep_ints e7] at e6
  have mq : ∀ c, Mu G0 [some (.ref a), some (.ref q), none] e0 c → c = q := fun c z => by
    rcases z with z | ⟨_, e, _⟩ | ⟨i, l, z, d, h1, h2⟩
    · exact z.elim
    · cases e
    · rcases i with _ | _ | _ | i <;> simp [e0] at h1
      simp at h2; exact h2.symm
  have hb : H b = none := by
    rcases s.mu b (.inr (.inr ⟨1, false, false, _, rfl, e5⟩)) with z | z
    · rw [mq b z]; exact hn
    · exact hH.free z
  have hsame : Same H H3 := fun c o e => s.fr c o (hH c o e) fun z => by
    rw [mq c z.mu, hn] at e; cases e
  refine ⟨_, e5, ?_⟩
  refine ⟨by rw [sizeLine_eq]; exact (by decide : 2 ≤ 16777216), fun p hp => ?_⟩
  refine k p b _ (fun e => by rw [e, e6] at hp; cases hp) (hsame.free hp) hb (fun c o e => ?_) upd_same ?_
  · rw [upd_ne (fun z => by rw [z, hsame.free hp] at e; cases e)]
    exact hsame c o e
  · rw [upd_ne (fun z => by rw [z, hp] at e6; cases e6), e6]
    rfl
/-- the source keeps its promise -/
theorem source_ok {T : Tab} {a1 a2 a3 a4 a5 a6 r1 r2 r3 r4 : Pos} {k1 k2 : Nat} {s1 s2 : Stmt} (F : FunD K x qual params body scope [] [] f fd) (S : FnScope srcSl ["script"] scope) (fac : Facts T P w K mg base)
    (hb : body = [.Assign [.Name "cells" a1] (.Subscript (.Name "script" a2) (.Slice none (some (.Constant (.int 63) k1 a3)) none a4) a5) a6, s1, s2, .Return (some (.List [.Name "cells" r1, .Constant (.int 0) k2 r2] r3)) r4])
    (hv : srcSl.all (visB scope) = true) (hl : locB ⟨srcSl, scope, fun _ => true⟩ "cells" = true) (h1 : VS ⟨srcSl, scope, fun _ => true⟩ T s1 denSrc1) (h2 : VS ⟨srcSl, scope, fun _ => true⟩ T s2 denSrc2) :
    FnOk P w K mg base (L2.CX P w) (T.k + 1) f fd ["script"] (spSource K) := by
  refine F.ok S (fun vs H Q E hs => by obtain ⟨a, ns, rfl, _⟩ := hs; rfl) (fun cdv A outer st H vs Q E hr hs => ?_)
  have cx : CtxS ⟨srcSl, scope, fun _ => true⟩ T (cxOf (L2.CX P w) P w K mg base srcSl qual scope f cdv A outer st H E) := ⟨⟨rfl, rfl, S.nd, rfl, hr, fun _ _ => rfl, fac⟩, passes_of rfl, rfl, rfl, rfl⟩
  rw [List.all_eq_true] at hv
  obtain ⟨l1, l2⟩ := loc_of cx.1 hl
  have tk : Takes (cxOf (L2.CX P w) P w K mg base srcSl qual scope f cdv A outer st H E) (fun cls d _ H => E cls d H) := takes_of rfl rfl rfl rfl
  refine ⟨tSrc K (clK K) (fun cls d _ H => E cls d H) (rSlL K) tNoPart (tPart (tC (.int 63))), ?_, src_run hs fun a xs H Q hq k => ⟨63, rfl, a, xs, rfl, hq, fun p hp => ?_⟩⟩
  · rw [hb]
    refine pss_cons (ps_set S.nd (i := 1) rfl l1 (pe_slice sl_list (pe_var (i := 0) rfl (vis_of (hv _ (by simp [srcSl])))) po_none (po_some pe_int)) (hf := l2)) (pss_cons (h1 _ _ cx tk) (pss_cons (h2 _ _ cx tk) (pss_one (ps_ret (pe_lst (pa_cons (pe_var (i := 1) rfl (vis_of (hv _ (by simp [srcSl])))) (pa_cons pe_int pa_nil)))))))
  · have e : cutV xs none (some 63) = xs.take 63 := by
      unfold cutV
      have e1 : HT.sIx xs.length xs.length (some 63) = min 63 xs.length := HT.sIx_nat xs.length xs.length 63
      rw [e1, HT.sIx_none, List.drop_zero, Nat.sub_zero]
      rcases Nat.le_total 63 xs.length with z | z
      · rw [Nat.min_eq_left z]
      · rw [Nat.min_eq_right z, List.take_of_length_le (Nat.le_refl _), List.take_of_length_le z]
    rw [e]; exact k p hp
end
end Py
set_option maxRecDepth 100000
namespace Py
open PySem PySem.Spec PyProof.Rows L2
section
variable {K : PySem.W.Frag} {P : Program} {w : World} {mg : Str → Option Value} {base : Heap} {f : Addr} {fd : FuncData} {params : Arguments} {body : List Stmt} {scope : Scope} {qual : Str} {x : Str}
/-- the law's own promise -/
def spLaw (K : PySem.W.Frag) : Sp := fun vs H Q _ => ∃ (a : Addr) (ns : List Int), vs = [.ref a] ∧ ns.length ≤ 63 ∧ SqL K H a (ns.map V.int) ∧ ∀ H', Q (.bl true) H'
theorem law_ok {T : Tab} {N : List Str} {den : SDn} {rest : List Stmt} {a1 a2 a3 a4 a5 : Pos} {fS : Addr} {fdS : FuncData} (F : FunD K x qual params body scope [] [] f fd) (S : FnScope ("script" :: "source" :: N) ["script"] scope) (fac : Facts T P w K mg base)
    (hb : body = .Assign [.Name "source" a1] (.Call (.Name "_law_source" a2) [.Name "script" a3] [] a4) a5 :: rest) (hv : visB scope "script" = true) (hl : locB ⟨"script" :: "source" :: N, scope, fun _ => true⟩ "source" = true) (hg : glB scope "_law_source" = true)
    (hm : mg "_law_source" = some (.ref fS)) (hk : PySem.W.keepIn K (.ref fS) = true) (hbS : Binds K fdS ["script"] []) (FS : FnOk P w K mg base (L2.CX P w) T.k fS fdS ["script"] (spSource K))
    (hrest : VB ⟨"script" :: "source" :: N, scope, fun _ => true⟩ T rest den)
    (hden : ∀ ns : List Int, ns.length ≤ 63 → ∃ p', den ⟨.no :: .src :: List.replicate N.length .no, (srcCells ns, 0)⟩ = .rt (.sh (.bl true)) p') :
    FnOk P w K mg base (L2.CX P w) (T.k + 1) f fd ["script"] (spLaw K) := by
  refine F.ok S (fun vs H Q E hs => by obtain ⟨a, ns, rfl, _⟩ := hs; rfl) (fun cdv A outer st H vs Q E hr hs => ?_)
  have cx : CtxS ⟨"script" :: "source" :: N, scope, fun _ => true⟩ T (cxOf (L2.CX P w) P w K mg base ("script" :: "source" :: N) qual scope f cdv A outer st H E) := ⟨⟨rfl, rfl, S.nd, rfl, hr, fun _ _ => rfl, fac⟩, passes_of rfl, rfl, rfl, rfl⟩
  obtain ⟨l1, l2⟩ := loc_of cx.1 hl
  have tk : Takes (cxOf (L2.CX P w) P w K mg base ("script" :: "source" :: N) qual scope f cdv A outer st H E) (fun cls d _ H => E cls d H) := takes_of rfl rfl rfl rfl
  obtain ⟨a, ns, rfl, hlen, hq, k⟩ := hs
  have h1 := pss_cons (ps_set (pos := a5) (pos' := a1) S.nd (i := 1) rfl l1 (pe_callS (p := a2) (pos := a4) FS hr (gl_cx cx.1 hg) hm hk hbS (fun σ => passAt tk σ) (pa_cons (pe_var (pos := a3) (i := 0) rfl (vis_of hv)) pa_nil)) (hf := l2)) (hrest _ _ cx tk)
  refine ⟨_, by rw [hb]; exact h1, ?_⟩
  refine ⟨_, rfl, a, ns, rfl, hq, fun q1 q2 H' hne n1 n2 sm e1 e2 => ?_⟩
  let G : Gh := ⟨fun _ => False, some (q1, q2)⟩
  let env : List Sl := .no :: .src :: List.replicate N.length .no
  have ok : Ok K G ((L2.start ("script" :: "source" :: N) [V.ref a]).set 1 (some (.ref q1))) H' ⟨env, (srcCells ns, 0)⟩ := by
    have hE : ∀ (i : Nat) (x : Sl), env[i]? = some x → x = .no ∨ (i = 1 ∧ x = .src) := fun i x h => by
      rcases i with _ | _ | i
      · left; simpa [env] using h.symm
      · right; exact ⟨rfl, by simpa [env] using h.symm⟩
      · left
        simp only [env, List.getElem?_cons_succ] at h
        rw [List.getElem?_replicate] at h
        split at h
        · cases h; rfl
        · cases h
    refine ⟨?_, fun i d h => ?_, fun i l z d h => ?_, fun i j l z d l' z' d' a h1 h2 _ _ => ?_, fun i h => ?_, fun a h => h.elim, fun q e => ?_⟩
    · rw [List.length_set]
      simp [env, L2.start]
    · rcases hE i _ h with e | ⟨_, e⟩ <;> cases e
    · rcases hE i _ h with e | ⟨_, e⟩ <;> cases e
    · rcases hE i _ h1 with e | ⟨_, e⟩ <;> cases e
    · rcases hE i _ h with e | ⟨rfl, _⟩
      · cases e
      · exact ⟨(q1, q2), rfl, by simp [L2.start]⟩
    · cases e
      exact ⟨hne, e1, e2, fun z => z, fun z => z⟩
  obtain ⟨p', hd⟩ := hden ns hlen
  refine ⟨G, _, ok, ?_⟩
  rw [hd]
  intro σ' u H2 _ r
  cases r
  exact k H2
end
end Py
set_option maxRecDepth 100000
namespace Py
open PySem PySem.Spec PyProof.Rows L2
section
variable {s : Sx} {T : Tab} {pos : Pos}
theorem v_chain {a b c : Expr} {op op' : CmpOp} {f g : D → D → Option Rv} {r r' : PySem.W.Frag → R2} {da db dc : Dn} (ho : ∀ X, CtxOk s T X → OpR X (compareOp op) (r X.K)) (h2 : ∀ K, Op2 K f (r K)) (hb1 : ∀ a b v, f a b = some v → ∃ k, v = .sh (.bl k))
    (ho' : ∀ X, CtxOk s T X → OpR X (compareOp op') (r' X.K)) (h3 : ∀ K, Op2 K g (r' K)) (ha : VE s T a da) (hb : VE s T b db) (hc : VE s T c dc) (hm : lastMarks [op, op'] [b, c] = false) : VE s T (.Compare a [op, op'] [b, c] pos) (dChain f g da db dc) :=
  fun X W cx tk => PE.of (pe_chain (ho X cx) (ho' X cx) (ha X W cx tk) (hb X W cx tk) (hc X W cx tk) hm) fun σ H Q h => chain_imp (h2 X.K) (h3 X.K) hb1 h
theorem t_chain {a b c : Expr} {op op' : CmpOp} {f g : D → D → Option Rv} {r r' : PySem.W.Frag → R2} {da db dc : Dn} (ho : ∀ X, CtxOk s T X → OpR X (compareOp op) (r X.K)) (h2 : ∀ K, Op2 K f (r K)) (hb1 : ∀ a b v, f a b = some v → ∃ k, v = .sh (.bl k))
    (ho' : ∀ X, CtxOk s T X → OpR X (compareOp op') (r' X.K)) (h3 : ∀ K, Op2 K g (r' K)) (ha : VE s T a da) (hb : VE s T b db) (hc : VE s T c dc) (hm : lastMarks [op, op'] [b, c] = false) : VT s T (.Compare a [op, op'] [b, c] pos) (dChain f g da db dc) :=
  fun X W cx tk => PT.of (pt_chain (ho X cx) (ho' X cx) (ha X W cx tk) (hb X W cx tk) (hc X W cx tk) hm) fun σ H Q h => chain_imp (h2 X.K) (h3 X.K) hb1 h
theorem le_bl : ∀ a b v, opLe a b = some v → ∃ k, v = .sh (.bl k) := fun a b v h => by
  cases a <;> cases b <;> simp only [opLe] at h <;> (try cases h) <;> exact ⟨_, rfl⟩
theorem lt_bl : ∀ a b v, opLt a b = some v → ∃ k, v = .sh (.bl k) := fun a b v h => by
  cases a <;> cases b <;> simp only [opLt] at h <;> (try cases h) <;> exact ⟨_, rfl⟩
end

/-! ### tables of defs -/
structure TabB where
  errs : List Nat
  names : List (Option Str)
  mts : List (Option (Nat × Str))
  obs : List Nat
  ars : List Nat
  sems : List (List Sl → List Int × Int → FR)
  free : List Str
  con : List (Str × D)
def tab (B : TabB) (m : Nat) : Tab := ⟨m, fun n => B.errs.contains n, fun i => if i < m then (B.names[i]?).join else none, fun i => if i < m then (B.mts[i]?).join else none, fun c => B.obs.contains c, fun i => B.ars.getD i 0, fun i => B.sems.getD i (fun _ _ => .bad), fun x => B.free.contains x, fun x => B.con.lookup x⟩
section
variable {B : TabB} {P : Program} {w : World} {K : PySem.W.Frag} {mg : Str → Option Value} {base : Heap}
structure FnAt (T : Tab) (P : Program) (w : World) (K : PySem.W.Frag) (mg : Str → Option Value) (base : Heap) (k n : Nat) (x : Str) : Prop where
  dbg : (x == ("__debug__" : Str)) = false
  ex : ∃ (f : Addr) (fd : FuncData) (ps : List Str), mg x = some (.ref f) ∧ PySem.W.keepIn K (.ref f) = true ∧ Binds K fd ps [] ∧ ps.length = T.ar n ∧ FnOk P w K mg base (L2.CX P w) k f fd ps (spF K (clK K) (T.ar n) (T.sem n))
theorem xr_none (h : (B.errs.any fun n => n == 6 || n == 13) = false) : ∀ n ∈ B.errs, (n == 6 || n == 13) = true → XrC P w K mg base n := fun n hn e => by
  rw [List.any_eq_false] at h
  exact absurd e (h n hn)
theorem facts_zero (ho : ∀ c ∈ B.obs, ClsC K mg c) (he : ∀ n ∈ B.errs, ErrC K mg n) (hs : ∀ n ∈ B.errs, ∀ m ∈ B.errs, PySem.W.exmOne K (.ref (clK K n)) (.ref (clK K m)) = some (subN n m)) (hf : ∀ x ∈ B.free, mg x = none) (hc : ∀ p ∈ B.con, (p.1 == ("__debug__" : Str)) = false ∧ ∃ (v : V) (u : Value), mg p.1 = some u ∧ RelV v u ∧ ∀ M H, Rep K M H v p.2) (hx : ∀ n ∈ B.errs, (n == 6 || n == 13) = true → XrC P w K mg base n) : Facts (tab B 0) P w K mg base where
  fn := fun n x h => by
    have h : (if n < 0 then (B.names[n]?).join else none) = some x := h
    rw [if_neg (Nat.not_lt_zero n)] at h; cases h
  mt := fun n c x h => by
    have h : (if n < 0 then (B.mts[n]?).join else none) = some (c, x) := h
    rw [if_neg (Nat.not_lt_zero n)] at h; cases h
  ob := fun c h => ho c (List.contains_iff_mem.mp h)
  er := fun n h => he n (List.contains_iff_mem.mp h)
  xr := fun n h => hx n (List.contains_iff_mem.mp h)
  sub := fun n m h k => hs n (List.contains_iff_mem.mp h) m (List.contains_iff_mem.mp k)
  free := fun x h => hf x (List.contains_iff_mem.mp h)
  con := fun x d h => by
    have h : B.con.lookup x = some d := h
    have key : ∀ l : List (Str × D), (∀ p ∈ l, (p.1 == ("__debug__" : Str)) = false ∧ ∃ (v : V) (u : Value), mg p.1 = some u ∧ RelV v u ∧ ∀ M H, Rep K M H v p.2) → l.lookup x = some d → (x == ("__debug__" : Str)) = false ∧ ∃ (v : V) (u : Value), mg x = some u ∧ RelV v u ∧ ∀ M H, Rep K M H v d := fun l => by
      induction l with
      | nil => intro _ h; cases h
      | cons p l ih =>
        intro hl h
        rw [List.lookup_cons] at h
        cases e : x == p.1 with
        | true =>
          rw [e] at h
          have ex : x = p.1 := eq_of_beq e
          cases h
          rw [ex]
          exact hl p List.mem_cons_self
        | false =>
          rw [e] at h
          exact ih (fun q hq => hl q (List.mem_cons_of_mem _ hq)) h
    exact key _ hc h
theorem facts_succ {m : Nat} {x : Str} (h : Facts (tab B m) P w K mg base) (hx : B.names[m]? = some (some x)) (hmt : B.mts[m]? = some none) (n : FnAt (tab B m) P w K mg base (m + 1) m x) : Facts (tab B (m + 1)) P w K mg base where
  fn := fun i y hy => by
    have hy : (if i < m + 1 then (B.names[i]?).join else none) = some y := hy
    by_cases hi : i < m
    · rw [if_pos (by omega)] at hy
      obtain ⟨h1, f, fd, ps, h2, h3, h4, h5, h6⟩ := h.fn i y (show (if i < m then (B.names[i]?).join else none) = some y by rw [if_pos hi]; exact hy)
      exact ⟨h1, f, fd, ps, h2, h3, h4, h5, h6.mono (Nat.le_succ m)⟩
    · by_cases e : i = m
      · subst e
        rw [if_pos (Nat.lt_succ_self i), hx] at hy
        cases hy
        obtain ⟨f, fd, ps, h2, h3, h4, h5, h6⟩ := n.ex
        exact ⟨n.dbg, f, fd, ps, h2, h3, h4, h5, h6⟩
      · rw [if_neg (by omega)] at hy; cases hy
  mt := fun i c y hy => by
    have hy : (if i < m + 1 then (B.mts[i]?).join else none) = some (c, y) := hy
    by_cases hi : i < m
    · rw [if_pos (by omega)] at hy
      obtain ⟨_, q⟩ := h.mt i c y (show (if i < m then (B.mts[i]?).join else none) = some (c, y) by rw [if_pos hi]; exact hy)
      exact ⟨show i + 1 ≤ m + 1 by omega, q⟩
    · by_cases e : i = m
      · subst e
        rw [if_pos (Nat.lt_succ_self i), hmt] at hy
        cases hy
      · rw [if_neg (by omega)] at hy; cases hy
  ob := h.ob
  free := h.free
  con := h.con
  er := h.er
  xr := h.xr
  sub := h.sub
/-- a method -/
theorem facts_succM {m c : Nat} {x : Str} (h : Facts (tab B m) P w K mg base) (hx : B.names[m]? = some none) (hmt : B.mts[m]? = some (some (c, x)))
    (n : ∃ (f : Addr) (fd : FuncData) (ps : List Str), MK K (clA K c) x f ∧ Binds K fd ps [] ∧ ps.length = (tab B m).ar m ∧ FnOk P w K mg base (L2.CX P w) (m + 1) f fd ps (spF K (clK K) ((tab B m).ar m) ((tab B m).sem m))) : Facts (tab B (m + 1)) P w K mg base where
  fn := fun i y hy => by
    have hy : (if i < m + 1 then (B.names[i]?).join else none) = some y := hy
    by_cases hi : i < m
    · rw [if_pos (by omega)] at hy
      obtain ⟨h1, f, fd, ps, h2, h3, h4, h5, h6⟩ := h.fn i y (show (if i < m then (B.names[i]?).join else none) = some y by rw [if_pos hi]; exact hy)
      exact ⟨h1, f, fd, ps, h2, h3, h4, h5, h6.mono (Nat.le_succ m)⟩
    · by_cases e : i = m
      · subst e
        rw [if_pos (Nat.lt_succ_self i), hx] at hy
        cases hy
      · rw [if_neg (by omega)] at hy; cases hy
  mt := fun i c' y hy => by
    have hy : (if i < m + 1 then (B.mts[i]?).join else none) = some (c', y) := hy
    by_cases hi : i < m
    · rw [if_pos (by omega)] at hy
      obtain ⟨_, q⟩ := h.mt i c' y (show (if i < m then (B.mts[i]?).join else none) = some (c', y) by rw [if_pos hi]; exact hy)
      exact ⟨show i + 1 ≤ m + 1 by omega, q⟩
    · by_cases e : i = m
      · subst e
        rw [if_pos (Nat.lt_succ_self i), hmt] at hy
        cases hy
        exact ⟨Nat.le_refl _, n⟩
      · rw [if_neg (by omega)] at hy; cases hy
  ob := h.ob
  free := h.free
  con := h.con
  er := h.er
  xr := h.xr
  sub := h.sub
end
end Py
namespace Py
open PySem PySem.Spec PyProof.Rows L2
theorem fnil {α : Type} {p : α → Prop} : ∀ x ∈ ([] : List α), p x := fun x h => by cases h
theorem fcons {α : Type} {p : α → Prop} {a : α} {l : List α} (h : p a) (t : ∀ x ∈ l, p x) : ∀ x ∈ a :: l, p x := fun x hx => by
  rcases List.mem_cons.mp hx with rfl | hx
  · exact h
  · exact t x hx
theorem con_int {K : PySem.W.Frag} {mg : Str → Option Value} {x : Str} {i : Int} (h : ∃ t, mg x = some (.int i t)) : ∃ (v : V) (u : Value), mg x = some u ∧ RelV v u ∧ ∀ M H, Rep K M H v (.int i) := by
  obtain ⟨t, h⟩ := h
  exact ⟨.int i, _, h, ⟨t, rfl⟩, fun _ _ => .int⟩
theorem con_str {K : PySem.W.Frag} {mg : Str → Option Value} {x z : Str} {l : List Nat} (h : ∃ t, mg x = some (.str z t)) (hz : z.cps.toList = l) : ∃ (v : V) (u : Value), mg x = some u ∧ RelV v u ∧ ∀ M H, Rep K M H v (.str l) := by
  obtain ⟨t, h⟩ := h
  exact ⟨.str z, _, h, ⟨t, rfl⟩, fun _ _ => by rw [S_of hz]; exact Rep.str⟩
theorem law_cx0 {P : Program} {w : World} {K : PySem.W.Frag} {mg : Str → Option Value} {base : Heap} {k : Nat} {f : Addr} {fd : FuncData} {ps : List Str} (F : FnOk P w K mg base (L2.CX P w) k f fd ps (spLaw K)) : FnOk P w K mg base L2.CX0 k f fd ps (spLaw K) :=
  ⟨F.len, fun A outer s H args us vs Q E hr he hb hv hs => codeAny_mono (F.run A outer s H args us vs Q (fun _ _ _ => False) hr he hb hv hs) fun r s' h => by
    cases r with
    | ok r => cases r <;> exact h
    | error e =>
      obtain ⟨_, _, _, _, _, _, _, _, _, _, _, _, h⟩ := (show L2.CX P w outer H s (fun _ _ _ => False) e s' from h)
      exact h⟩
end Py
set_option maxRecDepth 100000
set_option maxHeartbeats 2000000
namespace Py
open PySem PySem.Spec PyProof.Rows L2

/-! ### errors: raise, try, isinstance -/
section
variable {X : Cx} {pins : List (Addr × Obj)} {σ : L2.St} {H : Hp} {s : Shared}
theorem pmk_own0 {C : Addr} {bmB : List Value} {B newId initId : String} {x : Str} {p pos : Pos} (F : ExcBaseFacts B newId initId bmB) (q : PySem.W.excIn X.K C bmB newId = true) (gC : X.mg x = some (.ref C)) (kC : PySem.W.keepIn X.K (.ref C) = true) (r : Raises X (.ref C)) (hg : Gl X x)
    (hdb : (x == ("__debug__" : Str)) = false) : PMk X (.Call (.Name x p) [] [] pos) (fun _ H Q => Q (.ref C) none H) := by
  intro pins s σ H Q I h
  refine wpAny_Call_Name_kw (ld_glob I hg gC ?_ hdb)
  refine PySem.W.callWith_K0 I.kIn kC ?_
  show wpAny _ _ (call (.ref C) []) _ _ _
  obtain ⟨bm, N, nm, qn, bs, hdct, sn, sub, ab, col, dd, k0, k1, k2, k3, k5, mN, hC, hN, hni, T⟩ := exc_obj I.kIn q
  refine wpAny_call_exc_subT F T hC hN hni (fun h' e hm => ?_) (Nat.zero_le _)
  exact mk_of I hm r h (I.hok.gone hm.new)
/-- an exception that is held is tracked from here on -/
theorem Inv_track (I : Inv X pins σ H s) {a C : Addr} {d : Option Addr} {oe : Obj} {vs : Array Value} (ha : s.heap.get? a = some oe) (hz : Zc (.ref C) d oe) (hd : oe.data = .fields vs) (n0 : X.s_0.heap.get? a = none) (na : H a = none) (nL : a ≠ X.env.locals)
    (hp : ∀ p ∈ X.pn ++ pins, p.1 ≠ a) : Inv X pins σ (upd H a (ErD C a d)) s := by
  have ne0 : ∀ b o, X.s_0.heap.get? b = some o → b ≠ a := fun b o e z => by rw [z, n0] at e; cases e
  refine ⟨I.ok, I.os, I.bare, ⟨I.base.keep, I.base.slot, fun b o e n hx => ?_, I.base.there, fun b xs e => ?_, fun b o u e => ?_, fun b ps e => ?_⟩, I.loc, I.cell, ?_, fun x c e => ?_, fun p h => ?_, ?_, I.len⟩
  · rw [upd_ne (ne0 b o e)]
    exact I.base.free b o e n hx
  · have q := I.base.tups b xs e
    rw [upd_ne (ne_of_none q na)]; exact q
  · have q := I.base.frzs b o u e
    rw [upd_ne (ne_of_none q na)]; exact q
  · obtain ⟨m, q⟩ := I.base.tbls b ps e
    exact ⟨m, by rw [upd_ne (ne_of_none q na)]; exact q⟩
  · rw [upd_ne (Ne.symm nL)]; exact I.free
  · have hc : c ≠ a := fun z => by
      obtain ⟨v, o, ho, hv⟩ := I.cell x c e
      rw [z, ha] at ho; cases ho
      rw [hd] at hv; cases hv
    rw [upd_ne hc]; exact I.freeC x c e
  · obtain ⟨e, n, ne, nf, d⟩ := I.pin p h
    exact ⟨e, by rw [upd_ne (hp p h)]; exact n, ne, nf, d⟩
  · refine HOk.laidN I.hok (fun _ _ q => q) na ?_
    exact ⟨⟨oe, vs, ha, hz, hd⟩, ⟨oe, ha⟩, fun _ _ ⟨o, v, q, r⟩ k => ⟨o, v, k o q, r⟩⟩
end
/-- what the clause 'except x as n: y = n' wishes of an exception of the body -/
def wKeep (K : PySem.W.Frag) (c : Value) (i j : Nat) (Wout : WX) (D : Ends) : WX := fun cls d σ H =>
  ∃ b, PySem.W.exmOne K cls c = some b ∧ (b = true → ∃ C, cls = .ref C ∧ i < σ.length ∧ ∀ a, H a = none → D.nx (((σ.set i (some (.ref a))).set j (some (.ref a))).set i none) (upd H a (ErD C a d))) ∧ (b = false → Wout cls d σ H)
section
variable {X : Cx} {x n y : Str} {c : Value} {i j : Nat} {body : List Stmt} {np pos pos' p1 p2 p3 : Pos} {tb : WX → TS} {Wout : WX}
theorem ps_try_keep (hs : X.stack = X.env :: X.outer) (hf : X.env.frame = some X.env.locals) (hex : X.ex = []) (hN : X.N.Nodup) (hi : X.N[i]? = some n) (hln : X.env.kindOf n = some .local) (hj : X.N[j]? = some y) (hlj : X.env.scope.names.lookup y = some .local) (hc : Names X x c) (tk : Takes X Wout)
    (hdn : (n == ("__debug__" : Str)) = false) (hdc : (n == ("__classdict__" : Str)) = false) (hsw : swapsWith (.Name n p2) (some (.Name y p3)) p1.line X.env = pure false)
    (hb : ∀ (W : WX) (pn : List (Addr × Obj)) (xe : Value → Shared → Prop), Takes (X.tr pn xe) W → PassesOwn (model X.prog X.w) X.A X.env xe → PSs (X.tr pn xe) body (tb W)) :
    L2.PS X (.Try body [.ExceptHandler (some (.Name x np)) (some n) [.Assign [.Name y p3] (.Name n p2) p1] pos'] [] [] pos) (fun D σ H => tb (wKeep X.K c i j Wout D) D σ H) := by
  refine ⟨fun pins s σ H D I h => ?_⟩
  have ok := I.ok
  have hfr : X.A.frames = some (X.env :: X.outer) := by rw [ok.frames, hs]
  have hloc : Loc X.env.scope n := .inl hln
  refine wpAny_Try_except ?_
  refine wpAny_mono ((hb (wKeep X.K c i j Wout D) (X.pn ++ pins) (fun e s₁ => wpAny (model X.prog X.w) X.A (noteFrame e X.env) (fun _ s₂ => wpAny (model X.prog X.w) X.A (setFlight e none) (fun _ s₃ =>
    wpAny (model X.prog X.w) X.A (handleBy e X.env [.ExceptHandler (some (.Name x np)) (some n) [.Assign [.Name y p3] (.Name n p2) p1] pos']) (SP X pins D) X.xe s₃) X.xe s₂) X.xe s₁) (fun u s' xx => ?_) PassesOwn.looking).run [] s σ H D (I.toTry _) h) (fun f s1 hsp => ?_) (fun e s1 he => he)
  · obtain ⟨a, B, sI, pins', σ', H', cls, d, rfl, J', nb, up, sky, na, os, ag, b, hb1, hyes, hno⟩ := xx
    have J : Inv X pins σ' H' sI := J'.ofTry ok
    have sky' : Sky B (X.env :: X.outer) a (Zc cls d) X.env.locals s'.heap := by rw [← hs]; exact sky
    show wpAny (model X.prog X.w) X.A (noteFrame (.ref a) X.env) _ _ _
    refine Sky.land Zc.steady hfr hf sky' fun h3 fl3 up3 => ?_
    have J3 : Inv X pins σ' H' { s' with heap := h3 } := J.landed nb fl3.1 (up.trans up3) os ag
    obtain ⟨oe3, vs3, he3, hz3, hd3⟩ := fl3.there
    have notFr : ∀ {h : Heap} {o : Obj} {vs : Array Value}, h.FunFrames B (X.env :: X.outer) → h.get? a = some o → o.data = .fields vs → a ∉ frs (X.env :: X.outer) := fun {h o vs} ff e dd hm => by
      obtain ⟨_, o', e', hnf⟩ := ff.mem hm
      rw [e] at e'; cases e'
      exact hnf _ dd
    have nfr := notFr fl3.2.2.1 he3 hd3
    have nL : a ≠ X.env.locals := fun z => nfr (List.mem_filterMap.mpr ⟨X.env, List.mem_cons_self, by rw [hf, z]⟩)
    have nF : a ∉ X.fs := fun hm => by
      obtain ⟨e, he, q⟩ := List.mem_filterMap.mp hm
      exact nfr (List.mem_filterMap.mpr ⟨e, List.mem_cons_of_mem _ he, q⟩)
    have nI : sI.heap.get? a = none := by
      cases e : sI.heap.get? a with
      | none => rfl
      | some o =>
        have q := nb a o e (by rw [hs]; exact nfr)
        rw [fl3.2.1] at q; cases q
    have n0 : X.s_0.heap.get? a = none := by
      cases e : X.s_0.heap.get? a with
      | none => rfl
      | some o =>
        obtain ⟨o', q⟩ := J.base.there a o e (by rw [hex]; exact fun z => nomatch z)
        rw [nI] at q; cases q
    have npin : ∀ p ∈ X.pn ++ pins, p.1 ≠ a := fun p hp z => by
      have q := (J.pin p hp).1
      rw [z, nI] at q; cases q
    have S3 := J3.suite he3 hd3 na nL nF
    refine wpAny_handleBy_cons (codeAny_handlers_test ?_) (by intro q; cases q)
    have LT : PySem.W.Looks (model X.prog X.w) h3 (typeOf (.ref a)) cls := fun A Q E s k q => wpAny_typeOf_ref (k _ _ he3) (by rw [hz3.1]; exact q)
    have LM := PySem.W.exm_one (M := model X.prog X.w) (J3.kIn) LT hb1
    have test : ∀ {Q : Value → Shared → Prop} {E : Value → Shared → Prop}, Q c { s' with heap := h3 } → wpAny (model X.prog X.w) (X.A.mark (some (.ref a))) (eval (.Name x np) X.env) Q E { s' with heap := h3 } := fun {Q E} q => by
      obtain ⟨hg, hdbg, hm | ⟨hm, hv, hnn⟩⟩ := hc
      · exact ld_glob (X := X.suite a ((a, oe3) :: (X.pn ++ pins))) S3 hg hm q hdbg
      · exact ld_blt (X := X.suite a ((a, oe3) :: (X.pn ++ pins))) S3 hg hm hv q hnn hdbg
    refine test (LM.here ?_)
    cases b with
    | true =>
      obtain ⟨C, rfl, hil, hyes⟩ := hyes rfl
      refine codeAny_handlers_suite_as ?_
      refine HandSPX.lands_againZ fl3 fun h4 fl4 up4 => ?_
      have J4 : Inv X pins σ' H' { s' with heap := h4 } := J.landed nb fl4.1 ((up.trans up3).trans up4) os ag
      obtain ⟨oe4, vs4, he4, hz4, hd4⟩ := fl4.there
      have S4 := J4.suite he4 hd4 na nL nF
      refine store_ok (X := X.suite a ((a, oe4) :: (X.pn ++ pins))) (v := .ref a) S4 hN hi hloc rfl (fun s5 S5 => ?_) (.inr hln)
      have hsu : PSs (X.suite a ((a, oe4) :: (X.pn ++ pins))) [.Assign [.Name y p3] (.Name n p2) p1] (tAsg (tVar i) (gName j)) :=
        pss_one (ps_set (X := X.suite a ((a, oe4) :: (X.pn ++ pins))) (i := j) hN hj (.inl hlj) (pe_var (X := X.suite a ((a, oe4) :: (X.pn ++ pins))) (i := i) hi (vis_of (by
          unfold visB
          have : X.env.scope.names.lookup n = some .local := hln
          rw [this])) hdn hdc) hsw (.inr hlj))
      refine wpAny_mono (hsu.run [] s5 _ H' { nx := fun σ6 H6 => σ6 = (σ'.set i (some (.ref a))).set j (some (.ref a)) ∧ H6 = H', rt := fun _ _ => False, bk := fun _ _ => False, ct := fun _ _ => False } S5 ⟨.ref a, by rw [List.getElem?_set_self hil], rfl, rfl⟩) (fun f s6 hsp => ?_) (fun _ _ z => False.elim z)
      cases f with
      | next =>
        obtain ⟨σ6, H6, S6, rfl, rfl⟩ := hsp
        obtain ⟨ha6, _⟩ := S6.pin (a, oe4) (List.mem_append.mpr (.inl List.mem_cons_self))
        exact gone_ok (Inv_track (S6.unsuite ok) ha6 hz4 hd4 n0 na nL npin) hN hi hln fun s7 J7 => ⟨_, _, J7, hyes a na⟩
      | brk =>
        obtain ⟨σ6, H6, S6, q6⟩ := hsp
        exact q6.elim
      | cont =>
        obtain ⟨σ6, H6, S6, q6⟩ := hsp
        exact q6.elim
      | ret u =>
        obtain ⟨v6, σ6, H6, S6, r6, q6⟩ := hsp
        exact q6.elim
    | false =>
      show wpAny _ X.A (handleBy (.ref a) X.env []) _ _ _
      refine wpAny_handleBy_nil ?_
      obtain ⟨k1, k2, k3, oe, vs, T, oT, ts', he, hz, hd, h1, hr⟩ := id fl3
      unfold PySem.passOn
      refine wpAny_bind (wpAny_field he hd h1 ?_)
      rw [if_neg (show ¬ ((Value.ref T == Value.none) = true) from by simp)]
      have fin : wpAny (model X.prog X.w) X.A (setFlight (.ref a) X.env.frame) (fun _ s4 => wpAny (model X.prog X.w) X.A (throw (.ref a) : Sem Flow) (SP X pins D) X.xe s4) X.xe { s' with heap := h3 } := by
        rw [hf]
        refine HandSPX.setFlight_upZ fl3 fun h4 hh4 up4 => wpAny_throw (tk _ _ ?_)
        exact ⟨a, B, sI, pins, σ', H', cls, d, rfl, J, nb, (up.trans up3).trans up4, .inr (.inr (by rw [hs]; exact hh4)), na, os, ag, hno rfl⟩
      first
        | exact wpAny_bind (wpAny_pure (wpAny_bind fin))
        | exact wpAny_bind fin
  · cases f with
    | next =>
      obtain ⟨σ', H', J', q⟩ := hsp
      exact wpAny_execs_nil ⟨σ', H', J'.ofTry ok, q⟩
    | brk =>
      obtain ⟨σ', H', J', q⟩ := hsp
      exact ⟨σ', H', J'.ofTry ok, q⟩
    | cont =>
      obtain ⟨σ', H', J', q⟩ := hsp
      exact ⟨σ', H', J'.ofTry ok, q⟩
    | ret u =>
      obtain ⟨v, σ', H', J', r, q⟩ := hsp
      exact ⟨v, σ', H', J'.ofTry ok, r, q⟩
end
end Py
set_option maxRecDepth 100000
set_option maxHeartbeats 2000000
namespace Py
open PySem PySem.Spec PyProof.Rows L2

/-! ### the statements -/
section
variable {s : Sx} {T : Tab} {pos : Pos}
def sRaise (n : Nat) : SDn := fun p => .exc n p
theorem vs_raise (n : Nat) {x : Str} {q p : Pos} (hx : nameN n = x) (he : T.er n = true) (hg : s.sc.names.lookup x = some .globalImplicit) (hdb : (x == ("__debug__" : Str)) = false := by decide) (hlt : n < 100 := by decide) (hno : (n == 6 || n == 13) = false := by decide) : VS s T (.Raise (some (.Call (.Name x q) [] [] p)) none pos) (sRaise n) := fun X W c tk => by
  have e := c.1.fac.er n he
  have gl : Gl X x := by show X.env.scope.names.lookup x = _; rw [c.1.sc]; exact hg
  refine PSt.of (ps_raise c.1.calm tk (pmk_own0 (x := x) PySem.F.excBase_ValueError (e.ei hno) (hx ▸ e.glo) e.kp (raises_own e.sb e.ty) gl hdb)) fun D σ H h => ?_
  obtain ⟨G, p, o, h⟩ := h
  have h := h σ H (.refl o)
  unfold FlyX at h
  rw [if_pos hlt] at h
  exact h
theorem Ok.clear {K : PySem.W.Frag} {G : Gh} {σ : L2.St} {H : Hp} {p : PS} {i : Nat} (o : Ok K G σ H p) (h : p.env[i]? = some .no) : Stp K G σ p H (σ.set i none) p H := by
  have ne : ∀ (j : Nat) (x : Sl), p.env[j]? = some x → x ≠ .no → (σ.set i none)[j]? = σ[j]? := fun j x e hx => by
    refine List.getElem?_set_ne fun e' => ?_
    subst e'; rw [h] at e; cases e; exact hx rfl
  have own : ∀ a, ownA (σ.set i none) p.env a → ownA σ p.env a := fun a ⟨j, l, z, d, h1, h2⟩ => ⟨j, l, z, d, h1, by rw [← ne j _ h1 (by simp)]; exact h2⟩
  have own' : ∀ a, ownA σ p.env a → ownA (σ.set i none) p.env a := fun a ⟨j, l, z, d, h1, h2⟩ => ⟨j, l, z, d, h1, by rw [ne j _ h1 (by simp)]; exact h2⟩
  have mu : Mu G (σ.set i none) p.env = Mu G σ p.env := by
    funext a; apply propext; unfold Mu
    exact ⟨fun z => z.imp id (fun z => z.imp id (own a)), fun z => z.imp id (fun z => z.imp id (own' a))⟩
  refine ⟨fun _ _ e _ => e, fun _ e => e, fun a z => ?_, fun a z => .inl (by rw [← mu]; exact z), fun j z d e => ⟨z, d, e, ne j _ e (by simp)⟩, fun j l d e => ⟨d, e, ne j _ e (by simp)⟩, ⟨by rw [List.length_set]; exact o.len, fun j d e => ?_, fun j l z d e => ?_, fun j j' l z d l' z' d' a h1 h2 h3 h4 => ?_, fun j e => ?_, o.mx, o.ga⟩⟩
  · rcases z with z | ⟨j, l, d, h1, h2⟩
    · exact .inl (.inl z)
    · exact .inl (.inr ⟨j, l, d, h1, by rw [← ne j _ h1 (by simp)]; exact h2⟩)
  · rw [ne j _ e (by simp), mu]; exact o.sh j d e
  · rw [ne j _ e (by simp), mu]; exact o.ow j l z d e
  · rw [ne j _ h1 (by simp)] at h3
    rw [ne j' _ h2 (by simp)] at h4
    exact o.inj _ _ _ _ _ _ _ _ _ h1 h2 h3 h4
  · rw [ne j _ e (by simp)]; exact o.sr j e
theorem bc_bc (k : Nat) : bc (bc k) = bc k := by
  unfold bc
  by_cases h : k < 100
  · rw [if_pos h, if_pos h]
  · rw [if_neg h]
    by_cases h2 : k % 2 = 0
    · rw [if_pos h2]; rfl
    · rw [if_neg h2]; rfl
theorem bc_lt {k : Nat} (h : k < 100) : bc k = k := if_pos h
theorem clK_bc (K : PySem.W.Frag) (k : Nat) : clK K k = clK K (bc k) := by
  unfold clK nameN
  rw [bc_bc]
/-- no object of one's own is opaque -/
def noBx (env : List Sl) : Bool := env.all fun
  | .own _ _ .bx => false
  | _ => true
theorem noBx_at {env : List Sl} {i : Nat} {l z : Bool} (h : noBx env = true) : env[i]? ≠ some (.own l z .bx) := fun e => by
  have q := List.all_eq_true.mp h _ (List.mem_of_getElem? e)
  cases q
/-- a new error's fields are nobody's -/
theorem xd_nobody {K : PySem.W.Frag} {G : Gh} {σ σ' : L2.St} {H H' : Hp} {p p' : PS} {d : Addr} {fs : List (Str × V)} (o : Ok K G σ H p) (o' : Ok K G σ' H' p') (nd : H d = none) (ed : H' d = some (.xd fs)) (nb : noBx p'.env = true) : ¬ Mu G σ' p'.env d := by
  rintro (z | ⟨q, e, z⟩ | ⟨i, l, z, e, h1, h2⟩)
  · exact o.mx d z nd
  · obtain ⟨_, h1, h2, _⟩ := o.ga q e
    rcases z with rfl | rfl
    · rw [nd] at h1; cases h1
    · rw [nd] at h2; cases h2
  · obtain ⟨b, h3, h4, _⟩ := o'.ow i l z e h1
    rw [h2] at h3; cases h3
    cases e with
    | lst ds => obtain ⟨xs, h4, _⟩ := h4; rw [ed] at h4; cases h4
    | dic ds => obtain ⟨xs, h4, _⟩ := h4; rw [ed] at h4; cases h4
    | obj c ds => obtain ⟨dx, fs, h4, _⟩ := h4; rw [ed] at h4; cases h4
    | bx => exact noBx_at nb h1
    | _ => exact h4.elim
/-- try: b / except C as n: y = n -/
def sTry (er : Nat → Bool) (c i j : Nat) (b : SDn) : SDn := fun p => match b p with
  | .exc k p1 => if (er (bc k) && (decide (k < 100) || noBx p1.env)) = true then (if subN (bc k) c = true then (match p1.env[i]?, setSl j (.sh (.err k)) p1.env with
      | some .no, some e => .nx ⟨e, p1.src⟩
      | _, _ => .bad) else .exc k p1) else .bad
  | r => r
theorem vs_try (er : Nat → Bool) (c i j : Nat) {x n y : Str} {body : List Stmt} {db : SDn} {np pos' p1 p2 p3 : Pos} (her : T.er = er) (hcr : er c = true) (hx : nameN c = x) (hg : s.sc.names.lookup x = some .globalImplicit) (hi : s.N[i]? = some n) (hln : s.sc.names.lookup n = some .local) (hj : s.N[j]? = some y) (hlj : s.sc.names.lookup y = some .local) (hij : i ≠ j)
    (hb : VB s T body db) (hk : ∀ env : Env, env.scope = s.sc → env.kindOf n = some .local := by intro env h; first | (show env.scope.names.lookup _ = _; rw [h]; decide +kernel) | (show env.scope.names.lookup _ = _; rw [h]; rfl))
    (hdx : (x == ("__debug__" : Str)) = false := by decide) (hdn : (n == ("__debug__" : Str)) = false := by decide) (hdc : (n == ("__classdict__" : Str)) = false := by decide) (hsw : ∀ env, swapsWith (.Name n p2) (some (.Name y p3)) p1.line env = pure false := by intro _; rfl) :
    VS s T (.Try body [.ExceptHandler (some (.Name x np)) (some n) [.Assign [.Name y p3] (.Name n p2) p1] pos'] [] [] pos) (sTry er c i j db) := fun X W cx tk => by
  subst her
  have e := cx.1.fac.er c hcr
  have gl : Gl X x := by show X.env.scope.names.lookup x = _; rw [cx.1.sc]; exact hg
  refine PSt.of (ps_try_keep (X := X) (x := x) (c := .ref (clK X.K c)) (i := i) (j := j) (tb := fun W => tS X.K (clK X.K) W db) (Wout := W) cx.2.2.1 cx.2.2.2.1 cx.2.2.2.2 (by rw [cx.1.N]; exact cx.1.nd) (by rw [cx.1.N]; exact hi) (hk _ cx.1.sc) (by rw [cx.1.N]; exact hj) (by rw [cx.1.sc]; exact hlj) ⟨gl, hdx, .inl (hx ▸ e.glo)⟩ tk hdn hdc (hsw _)
    (fun W' pn xe tk' po => hb (X.tr pn xe) W' ⟨⟨cx.1.N, cx.1.sc, cx.1.nd, cx.1.calm, cx.1.room, cx.1.fn, cx.1.fac⟩, po, cx.2.2.1, cx.2.2.2.1, cx.2.2.2.2⟩ tk')) fun D σ H h => ?_
  obtain ⟨G, p, o, h⟩ := h
  refine ⟨G, p, o, ?_⟩
  unfold sTry at h
  cases hd : db p with
  | nx p1 => rw [hd] at h; exact h
  | bk p1 => rw [hd] at h; exact h
  | ct p1 => rw [hd] at h; exact h
  | rt v p1 => rw [hd] at h; exact h
  | bad => rw [hd] at h; exact h.elim
  | exc k p1 =>
    rw [hd] at h
    simp only at h
    by_cases hk : (T.er (bc k) && (decide (k < 100) || noBx p1.env)) = true
    · rw [if_pos hk] at h
      rw [Bool.and_eq_true] at hk
      obtain ⟨hk, hb⟩ := hk
      have sb : PySem.W.exmOne X.K (.ref (clK X.K k)) (.ref (clK X.K c)) = some (subN (bc k) c) := by
        rw [clK_bc X.K k]; exact cx.1.fac.sub (bc k) c hk hcr
      have go : ∀ (d : Option Addr) (σ' : L2.St) (H' : Hp), Stp X.K G σ p H σ' p1 H' → subN (bc k) c = true → (∀ a, H' a = none → Rep X.K (Mu G σ' p1.env) (upd H' a (ErD (clK X.K k) a d)) (.ref a) (.err k)) → i < σ'.length ∧ ∀ a, H' a = none → D.nx (((σ'.set i (some (.ref a))).set j (some (.ref a))).set i none) (upd H' a (ErD (clK X.K k) a d)) := fun d σ' H' st hs hr => by
        rw [if_pos hs] at h
        cases h1 : p1.env[i]? with
        | none => rw [h1] at h; exact h.elim
        | some x1 =>
          cases x1 with
          | no =>
            cases h2 : setSl j (.sh (.err k)) p1.env with
            | none => rw [h1, h2] at h; exact h.elim
            | some env' =>
              rw [h1, h2] at h
              have il : i < σ'.length := by rw [← st.ok.len]; exact (List.getElem?_eq_some_iff.mp h1).1
              refine ⟨il, fun a ha => ?_⟩
              have sm : Same H' (upd H' a (ErD (clK X.K k) a d)) := same_upd ha
              have g1 := StpE.grow st.ok sm
              have s2 := g1.ok.put h2 (v := .ref a) (hr a ha)
              have h1' : env'[i]? = some .no := by
                obtain ⟨rfl, _, _⟩ := setSl_ok h2
                rw [List.getElem?_set_ne (Ne.symm hij)]; exact h1
              have s3 := s2.ok.clear (i := i) h1'
              have es : ((σ'.set i (some (V.ref a))).set j (some (.ref a))).set i none = (σ'.set j (some (.ref a))).set i none := by
                rw [List.set_comm _ _ hij, List.set_set]
              rw [es]
              exact h _ _ (((st.trans g1.1).trans s2).trans s3)
          | sh d => rw [h1] at h; exact h.elim
          | own l z d => rw [h1] at h; exact h.elim
          | src => rw [h1] at h; exact h.elim
      intro σ' H' st
      unfold FlyX
      by_cases hlt : k < 100
      · rw [if_pos hlt]
        refine ⟨subN (bc k) c, sb, fun hs => ?_, fun hs => ?_⟩
        · obtain ⟨il, hh⟩ := go none σ' H' st hs fun a ha => .err hlt upd_same fun z => st.ok.dom z ha
          exact ⟨clK X.K k, rfl, il, hh⟩
        · rw [if_neg (by rw [hs]; exact Bool.false_ne_true)] at h
          have h := h σ' H' st
          unfold FlyX at h
          rw [if_pos hlt] at h
          exact h
      · rw [if_neg hlt]
        intro d nd ed
        have nb : noBx p1.env = true := by
          rw [decide_eq_false hlt] at hb
          exact hb
        refine ⟨subN (bc k) c, sb, fun hs => ?_, fun hs => ?_⟩
        · obtain ⟨il, hh⟩ := go (some d) σ' H' st hs fun a ha => .erf (by omega) upd_same (by rw [upd_ne (ne_of_none ed ha)]; exact ed) (fun z => st.ok.dom z ha) (xd_nobody o st.ok nd ed nb)
          exact ⟨clK X.K k, rfl, il, hh⟩
        · rw [if_neg (by rw [hs]; exact Bool.false_ne_true)] at h
          have h := h σ' H' st
          unfold FlyX at h
          rw [if_neg hlt] at h
          exact h d nd ed
    · rw [if_neg hk] at h; exact h.elim
end

/-! ### isinstance of an error -/
section
variable {X : Cx}
def rIsX (K : PySem.W.Frag) : List V → Hp → VK → Prop := fun xs H Q => ∃ (a D : Addr) (d : Option Addr) (c : V) (cv : Value) (b : Bool), xs = [.ref a, c] ∧ H a = some (ErD D a d) ∧ (∀ e, d = some e → ∃ fs, H e = some (.xd fs)) ∧ ExcC K D ∧ (∀ u, RelV c u → u = cv) ∧ PySem.W.kitOne K (.ref D) cv = some b ∧ Q (.bl b) H
theorem call_isX : CallR X (.builtin "isinstance") (rIsX X.K) := by
  intro pins s σ H xs us Q I r h
  obtain ⟨a, D, dd, c, cv, b, rfl, ha, hdd, C, hcv, e, q⟩ := h
  cases r with
  | cons rx rr =>
    cases rr with
    | cons rt rr =>
      cases rr
      cases rx
      have ec := hcv _ rt
      subst ec
      obtain ⟨⟨oe, vs, hget, hz, hv⟩, _, _⟩ := I.hok a _ ha
      obtain ⟨od, J⟩ : ∃ od, PySem.W.InstAt s.heap a oe D od := by
        obtain ⟨oc, od, oda, osl⟩ := oe
        obtain ⟨h1, h2⟩ := hz
        dsimp only at h1 h2 hv
        subst h1 h2 hv
        cases od with
        | none => exact ⟨none, hget, rfl, rfl, trivial⟩
        | some e =>
          obtain ⟨fs, he⟩ := hdd e rfl
          have hx : ObjOk X.prog X.w H s.heap e (.xd fs) := I.hok e _ he
          obtain ⟨mA, ⟨o, es, ep, ho, _⟩, _⟩ := hx
          exact ⟨some o, hget, rfl, rfl, ho⟩
      exact PySem.W.kia_one (PySem.W.kitx_exc (by obtain ⟨cd, hc, _⟩ := PySem.W.any_some C.hd; rw [hc]; rfl) C.hg C.hk C.hs C.ha C.hn C.ht C.hm) I.kIn J e (fun z => nomatch z) fun tk => ⟨.bl b, H, I.kept (t' := tk) fun _ _ z => z, rfl, q⟩
end
section
variable {s : Sx} {T : Tab} {pos : Pos}
def opIsE (er : Nat → Bool) (c : Nat) : D → Option Rv
  | .err k => if er (bc k) = true ∧ er c = true then some (.sh (.bl (subN (bc k) c))) else none
  | _ => none
def opIsV (er : Nat → Bool) : D → Option Rv
  | .err k => if er (bc k) = true then some (.sh (.bl true)) else none
  | _ => none
theorem err_rdb {K : PySem.W.Frag} {M : Addr → Prop} {H : Hp} {v : V} {k : Nat} (r : Rdb K M H v (.err k)) : ∃ a d, v = .ref a ∧ H a = some (ErD (clK K k) a d) ∧ ∀ e, d = some e → ∃ fs, H e = some (.xd fs) := by
  rcases r with r | ⟨a, rfl, r⟩
  · cases r with
    | err _ h _ => exact ⟨_, none, rfl, h, fun e z => by cases z⟩
    | erf _ h h2 _ _ => exact ⟨_, some _, rfl, h, fun e z => by cases z; exact ⟨_, h2⟩⟩
  · exact r.elim
theorem kit_sub {K : PySem.W.Frag} {mg : Str → Option Value} {P : Program} {w : World} {base : Heap} (f : Facts T P w K mg base) {k c : Nat} (hk : T.er (bc k) = true) (hc : T.er c = true) : PySem.W.kitOne K (.ref (clK K k)) (.ref (clK K c)) = some (subN (bc k) c) := by
  rw [clK_bc K k]
  have e := f.sub (bc k) c hk hc
  unfold PySem.W.kitOne
  by_cases h : ((Value.ref (clK K (bc k))) == (Value.ref (clK K c))) = true
  · rw [if_pos h]
    have h' : clK K (bc k) = clK K c := Value.ref.inj (eq_of_beq h)
    have e2 := f.sub (bc k) (bc k) hk hk
    rw [← h', e2] at e
    have : subN (bc k) (bc k) = true := by unfold subN; simp
    rw [← e, this]
  · rw [if_neg h]
    unfold PySem.W.exmOne at e
    split at e
    · exact e
    · cases e
theorem v_ise (er : Nat → Bool) (n : Nat) {x : Str} {e : Expr} {da : Dn} {q q2 : Pos} (her : T.er = er) (hcr : er n = true) (hx : nameN n = x) (ha : VE s T e da) (hg : s.sc.names.lookup ("isinstance" : Str) = some .globalImplicit) (hf : T.free "isinstance" = true) (hgc : s.sc.names.lookup x = some .globalImplicit) (hd : (x == ("__debug__" : Str)) = false := by decide)
    (hs : ∀ env, starEach [e, .Name x q2] env = (false, eval e env) :: starEach [.Name x q2] env := by intro _; rfl) (hs2 : ∀ env, starEach [.Name x q2] env = (false, eval (.Name x q2) env) :: starEach [] env := by intro _; rfl) (hpl : ∀ env, (backTo pos (starEach [.Name x q2] env)).any (·.1) = false := by intro _; rfl) :
    VE s T (.Call (.Name "isinstance" q) [e, .Name x q2] [] pos) (d1 (opIsE er n) da) := fun X W cx tk => by
  subst her
  have gl : ∀ x, s.sc.names.lookup x = some .globalImplicit → Gl X x := fun x h => by show X.env.scope.names.lookup x = _; rw [cx.sc]; exact h
  have ec := cx.fac.er n hcr
  refine PE.of (pe_callB (id := "isinstance") call_isX (gl _ hg) (cx.fac.free _ hf) (by decide +kernel) (pa_cons (ha X W cx tk) (pa_cons (pe_glob (v := .ref (clK X.K n)) (u := .ref (clK X.K n)) (gl _ hgc) (hx ▸ ec.glo) rfl hd) pa_nil (hs2 _)) (hs _)) (he := hs _) (hpl := hpl _)) fun σ H Q h => ?_
  obtain ⟨G, p, o, h⟩ := h
  refine te_bind o h fun v p1 u H1 s1 r1 h => ?_
  show rIsX X.K [u, .ref (clK X.K n)] H1 Q
  unfold fin1 at h
  cases e1 : opd v p1 with
  | none => rw [e1] at h; exact h.elim
  | some a =>
    rw [e1] at h
    cases a with
    | err k =>
      by_cases hk : T.er (bc k) = true
      · obtain ⟨b, dd, rfl, hb, hdd⟩ := err_rdb (r1.rdb s1.ok e1)
        have h : Post X.K (clK X.K) W G σ H1 p1 Q (give (if T.er (bc k) = true ∧ T.er n = true then some (.sh (.bl (subN (bc k) n))) else none) p1) := h
        rw [if_pos ⟨hk, hcr⟩] at h
        exact ⟨b, clK X.K k, dd, _, .ref (clK X.K n), _, rfl, hb, hdd, (clK_bc X.K k).symm ▸ (cx.fac.er (bc k) hk).ec, fun u z => z, kit_sub cx.fac hk hcr, h _ H1 (.refl s1.ok) .bl⟩
      · have h : Post X.K (clK X.K) W G σ H1 p1 Q (give (if T.er (bc k) = true ∧ T.er n = true then some (.sh (.bl (subN (bc k) n))) else none) p1) := h
        rw [if_neg (fun z => hk z.1)] at h
        exact h.elim
    | _ => exact h.elim
theorem v_isv (er : Nat → Bool) {e : Expr} {da : Dn} {q q2 : Pos} (her : T.er = er) (ha : VE s T e da) (hg : s.sc.names.lookup ("isinstance" : Str) = some .globalImplicit) (hf : T.free "isinstance" = true) (hgc : s.sc.names.lookup ("ValueError" : Str) = some .globalImplicit) (hfc : T.free "ValueError" = true)
    (hs : ∀ env, starEach [e, .Name "ValueError" q2] env = (false, eval e env) :: starEach [.Name "ValueError" q2] env := by intro _; rfl) (hs2 : ∀ env, starEach [.Name "ValueError" q2] env = (false, eval (.Name "ValueError" q2) env) :: starEach [] env := by intro _; rfl) (hpl : ∀ env, (backTo pos (starEach [.Name "ValueError" q2] env)).any (·.1) = false := by intro _; rfl) :
    VE s T (.Call (.Name "isinstance" q) [e, .Name "ValueError" q2] [] pos) (d1 (opIsV er) da) := fun X W cx tk => by
  subst her
  have gl : ∀ x, s.sc.names.lookup x = some .globalImplicit → Gl X x := fun x h => by show X.env.scope.names.lookup x = _; rw [cx.sc]; exact h
  refine PE.of (pe_callB (id := "isinstance") call_isX (gl _ hg) (cx.fac.free _ hf) (by decide +kernel) (pa_cons (ha X W cx tk) (pa_cons (pe_bltn (v := .ty "ValueError") (gl _ hgc) (cx.fac.free _ hfc) (by decide +kernel) rfl) pa_nil (hs2 _)) (hs _)) (he := hs _) (hpl := hpl _)) fun σ H Q h => ?_
  obtain ⟨G, p, o, h⟩ := h
  refine te_bind o h fun v p1 u H1 s1 r1 h => ?_
  show rIsX X.K [u, .ty "ValueError"] H1 Q
  unfold fin1 at h
  cases e1 : opd v p1 with
  | none => rw [e1] at h; exact h.elim
  | some a =>
    rw [e1] at h
    cases a with
    | err k =>
      by_cases hk : T.er (bc k) = true
      · obtain ⟨b, dd, rfl, hb, hdd⟩ := err_rdb (r1.rdb s1.ok e1)
        have h : Post X.K (clK X.K) W G σ H1 p1 Q (give (if T.er (bc k) = true then some (.sh (.bl true)) else none) p1) := h
        rw [if_pos hk] at h
        exact ⟨b, clK X.K k, dd, _, .type "ValueError", _, rfl, hb, hdd, (clK_bc X.K k).symm ▸ (cx.fac.er (bc k) hk).ec, fun u z => z, (clK_bc X.K k).symm ▸ (cx.fac.er (bc k) hk).sv, h _ H1 (.refl s1.ok) .bl⟩
      · have h : Post X.K (clK X.K) W G σ H1 p1 Q (give (if T.er (bc k) = true then some (.sh (.bl true)) else none) p1) := h
        rw [if_neg hk] at h
        exact h.elim
    | _ => exact h.elim
end
end Py
set_option maxRecDepth 100000
set_option maxHeartbeats 2000000
namespace Py
open PySem PySem.Spec PyProof.Rows L2

/-! ### l.count(x), l.index(x) -/
section
variable {X : Cx}
def rCountD (K : PySem.W.Frag) : V → List V → Hp → VK → Prop := fun x xs H Q => ∃ (a : Addr) (y : V) (d : PyData) (ds : List PyData), x = V.ref a ∧ xs = [y] ∧ Dp K H (V.ref a) (.list ds) ∧ Dp K H y d ∧
  SeqAt.shaped (.list ds) = true ∧ SeqAt.shaped d = true ∧ Q (.int (ds.countP fun z => PyData.eqv z d : Nat)) H
theorem mt_countD (hu : X.A.units + 65 < cLine) : MtR X "list.count" (rCountD X.K) := by
  intro pins s σ H x xs v us Q I rx rxs h
  obtain ⟨a, y, d, ds, rfl, rfl, hl, hy, sl, sd, q⟩ := h
  cases rx
  cases rxs with
  | cons ry rt =>
    rename_i uy ut
    cases rt
    obtain ⟨bs, r1⟩ := Dp.reads I d y uy hy ry
    have hxs : PyData.canLayAll0 ds = true := SeqAt.canLay_of_shaped sl
    have hroom : X.A.units + 1 + min (PyData.depthAll ds) d.depth < cLine := room_in_shaped sd hu
    cases hl with
    | lst hs ha =>
      obtain ⟨its, rv, ⟨⟨cls, dd, data, sls⟩, n, ho, hc, hdn, hdt⟩, hlen⟩ := I.list hs
      simp only at hc hdt
      subst hc hdt
      obtain ⟨as, h4⟩ := Dp.readsAll I ds _ its ha rv
      have hmap : its.map (SeqAt.readOf s.heap) = ds := SeqAt.readsAll_map ds its as hxs h4
      refine call_meets PySem.F.slot_list_count ⟨_, ho, rfl⟩ PySem.F.entry_list_count (PySem.F.args_list_count_2 _ _)
        (SeqAt.list_countAt a its.toArray n dd sls uy (fun u => PyData.eqv (SeqAt.readOf s.heap u) d)) ⟨ho, SeqAt.items_eqAt (vs := its.toArray) (show ReadsAll s.heap its.toArray.toList ds as from h4) r1 hxs (SeqAt.canLay_of_shaped sd) hroom, ?_⟩
      have ec : its.toArray.toList.countP (fun u => PyData.eqv (SeqAt.readOf s.heap u) d) = ds.countP fun z => PyData.eqv z d := by
        rw [← hmap, List.countP_map]
        rfl
      rw [ec]
      exact ⟨.int _, H, I.tok _, ⟨_, rfl⟩, q⟩
end
theorem eqv_mix {z a : D} (h1 : okD 20 a = true) (h2 : okD 19 z = true) : PyData.eqv (pyD 19 z) (pyD 20 a) = deq z a := by
  have h := any_deq (ds := [z]) h1 (by show [z].all (okD 19) = true; simp [h2])
  simpa using h
def opCount : D → D → Option Rv
  | .lst ds, a => if okq a && okq (.lst ds) then some (.sh (.int (ds.countP fun z => deq z a : Nat))) else none
  | _, _ => none
def idxD (a : D) : List D → Option Nat
  | [] => none
  | z :: zs => if deq z a then some 0 else (idxD a zs).map (· + 1)
def opIndex : D → D → Option Rv
  | .lst ds, a => if okq a && okq (.lst ds) then (idxD a ds).map fun j => .sh (.int (j : Nat)) else none
  | _, _ => none
theorem idxD_spec {a : D} : ∀ {ds : List D} {j : Nat}, idxD a ds = some j → (∃ z, ds[j]? = some z ∧ deq z a = true) ∧ ∀ m z, m < j → ds[m]? = some z → deq z a = false
  | [], j, h => by cases h
  | z :: zs, j, h => by
    unfold idxD at h
    split at h
    · rename_i hz
      cases h
      exact ⟨⟨z, rfl, hz⟩, fun m z hm => by omega⟩
    · rename_i hz
      cases e : idxD a zs with
      | none => rw [e] at h; cases h
      | some k =>
        rw [e] at h; cases h
        obtain ⟨⟨w, h1, h2⟩, h3⟩ := idxD_spec e
        refine ⟨⟨w, h1, h2⟩, fun m y hm hy => ?_⟩
        cases m with
        | zero => cases hy; simpa using hz
        | succ m => exact h3 m y (by have hm : m + 1 < k + 1 := hm; omega) hy
/-- a list's method of one argument -/
def dM2 (f : D → D → Option Rv) (do_ de : Dn) : Dn := fun p => (do_ p).bind fun x p1 => match opd x p1 with
  | some (.lst _) => (de p1).bind fun y p2 => fin2 f x.soft y p2
  | _ => .bad
section
variable {s : Sx} {T : Tab} {pos : Pos}
theorem rdb_tyV {K : PySem.W.Frag} {M : Addr → Prop} {H : Hp} {v : V} {ds : List D} (r : Rdb K M H v (.lst ds)) : tyV K "list" v H := by
  rcases r with r | ⟨a, rfl, xs, h, _⟩
  · cases r with
    | lst h _ _ => exact .inl ⟨rfl, _, .inl (.inl h)⟩
  · exact .inl ⟨rfl, _, .inl (.inl h)⟩
theorem v_m2 {o e : Expr} {name : Str} {id : String} {f : D → D → Option Rv} {r : PySem.W.Frag → V → List V → Hp → VK → Prop} {do_ de : Dn} {apos : Pos} (slot : Slot "list" name id) (hty : typeOf (.builtin id) = pure (.type "method_descriptor")) (hm : ∀ X, CtxOk s T X → MtR X id (r X.K))
    (h2 : ∀ K, Op2 K f (fun x y H Q => r K x [y] H Q)) (ho : VE s T o (do_)) (he : VE s T e de)
    (hbase : ∀ env, attributeBase o name env (eval o env) = eval o env := by intro _; rfl)
    (hfew : ∀ env, ((backTo pos (starEach [e] env)).all (fun x => !x.1) && (backToKw pos (keywordEach [] env)).all (fun x => x.1.isSome)
      && decide ([e].length + ([] : List Keyword).length + (if ([] : List Keyword).isEmpty then 0 else 1) < 30)) = true := by intro _; rfl)
    (hline : (apos.endLine == pos.line) = true := by rfl) (hs : ∀ env, starEach [e] env = (false, eval e env) :: starEach [] env := by intro _; rfl) (hplain : ∀ env, (backTo pos (starEach [] env)).any (·.1) = false := by intro _; rfl) :
    VE s T (.Call (.Attribute o name apos) [e] [] pos) (dM2 f do_ de) := fun X W c tk => by
  refine PE.of (pe_bm PySem.F.plainAttrs_list slot hty (hm X c) (ho X W c tk) (pa_cons (he X W c tk) pa_nil (hs _)) (hbase _) (hfew _) hline (hs _) (hplain _)) fun σ H Q h => ?_
  obtain ⟨G, p, o, h⟩ := h
  refine te_bind o h fun v p1 u H1 s1 r1 h => ?_
  split at h
  · rename_i ds e1
    refine ⟨rdb_tyV (r1.rdb s1.ok e1), ?_⟩
    refine te_bind s1.ok h fun v2 p2 u2 H2 s2 r2 h => ?_
    exact fin2_run (h2 X.K) s2.ok (r1.soft.step s2) r2 h
  · exact h.elim
theorem lst_dp {K : PySem.W.Frag} {M : Addr → Prop} {H : Hp} {v : V} {ds : List D} (r : Rdb K M H v (.lst ds)) (h : okq (.lst ds) = true) : ∃ a, v = .ref a ∧ Dp K H (.ref a) (.list (ds.map (pyD 19))) := by
  have e := rdb_dp r h
  rcases r with r | ⟨a, rfl, xs, h1, h2⟩
  · cases r with
    | lst h _ _ => exact ⟨_, rfl, e⟩
  · exact ⟨a, rfl, e⟩
theorem v_count {o e : Expr} {do_ de : Dn} {apos : Pos} (ho : VE s T o (do_)) (he : VE s T e de) (hbase : ∀ env, attributeBase o "count" env (eval o env) = eval o env := by intro _; rfl)
    (hfew : ∀ env, ((backTo pos (starEach [e] env)).all (fun x => !x.1) && (backToKw pos (keywordEach [] env)).all (fun x => x.1.isSome)
      && decide ([e].length + ([] : List Keyword).length + (if ([] : List Keyword).isEmpty then 0 else 1) < 30)) = true := by intro _; rfl)
    (hline : (apos.endLine == pos.line) = true := by rfl) (hs : ∀ env, starEach [e] env = (false, eval e env) :: starEach [] env := by intro _; rfl) (hplain : ∀ env, (backTo pos (starEach [] env)).any (·.1) = false := by intro _; rfl) :
    VE s T (.Call (.Attribute o "count" apos) [e] [] pos) (dM2 opCount do_ de) :=
  v_m2 (r := rCountD) PySem.F.slot_list_count PySem.F.type_list_count (fun X c => mt_countD (by have := c.room.un; omega)) (fun K M H x y a b v Q dom ra rb h => by
    unfold opCount at h
    split at h
    · rename_i ds
      split at h
      · rename_i hk
        rw [Bool.and_eq_true] at hk
        cases h
        obtain ⟨ad, rfl, h1⟩ := lst_dp ra hk.2
        refine ⟨rfl, fun q => ⟨ad, y, pyD 20 b, ds.map (pyD 19), rfl, rfl, h1, rdb_dp rb hk.1, pyD_shaped (n := 20) (d := .lst ds) (by omega) hk.2, pyD_shaped (by omega) hk.1, ?_⟩⟩
        have e : (ds.map (pyD 19)).countP (fun z => PyData.eqv z (pyD 20 b)) = ds.countP fun z => deq z b := by
          rw [List.countP_map]
          refine List.countP_congr fun z hz => ?_
          have := eqv_mix hk.1 (okL.mp (show ds.all (okD 19) = true from hk.2) z hz)
          show (PyData.eqv (pyD 19 z) (pyD 20 b) = true) ↔ _
          rw [this]
        rw [e]
        exact res_int q
      · cases h
    · cases h) ho he hbase hfew hline hs hplain
theorem v_index {o e : Expr} {do_ de : Dn} {apos : Pos} (ho : VE s T o (do_)) (he : VE s T e de) (hbase : ∀ env, attributeBase o "index" env (eval o env) = eval o env := by intro _; rfl)
    (hfew : ∀ env, ((backTo pos (starEach [e] env)).all (fun x => !x.1) && (backToKw pos (keywordEach [] env)).all (fun x => x.1.isSome)
      && decide ([e].length + ([] : List Keyword).length + (if ([] : List Keyword).isEmpty then 0 else 1) < 30)) = true := by intro _; rfl)
    (hline : (apos.endLine == pos.line) = true := by rfl) (hs : ∀ env, starEach [e] env = (false, eval e env) :: starEach [] env := by intro _; rfl) (hplain : ∀ env, (backTo pos (starEach [] env)).any (·.1) = false := by intro _; rfl) :
    VE s T (.Call (.Attribute o "index" apos) [e] [] pos) (dM2 opIndex do_ de) :=
  v_m2 (r := rIndexD) PySem.F.slot_list_index PySem.F.type_list_index (fun X c => mt_indexD (by have := c.room.un; omega)) (fun K M H x y a b v Q dom ra rb h => by
    unfold opIndex at h
    split at h
    · rename_i ds
      split at h
      · rename_i hk
        rw [Bool.and_eq_true] at hk
        have ok19 := okL.mp (show ds.all (okD 19) = true from hk.2)
        cases e : idxD b ds with
        | none => rw [e] at h; cases h
        | some j =>
          rw [e] at h; cases h
          obtain ⟨⟨z, g1, g2⟩, g3⟩ := idxD_spec e
          obtain ⟨ad, rfl, h1⟩ := lst_dp ra hk.2
          refine ⟨rfl, fun q => ⟨ad, y, pyD 20 b, ds.map (pyD 19), j, pyD 19 z, rfl, rfl, h1, rdb_dp rb hk.1, pyD_shaped (n := 20) (d := .lst ds) (by omega) hk.2, pyD_shaped (by omega) hk.1, by rw [List.getElem?_map, g1]; rfl, ?_, fun m z' hm hz' => ?_, res_int q⟩⟩
          · rw [eqv_mix hk.1 (ok19 z (List.mem_of_getElem? g1))]; exact g2
          · rw [List.getElem?_map] at hz'
            cases e2 : ds[m]? with
            | none => rw [e2] at hz'; cases hz'
            | some w =>
              rw [e2] at hz'; cases hz'
              rw [eqv_mix hk.1 (ok19 w (List.mem_of_getElem? e2))]; exact g3 m w hm e2
      · cases h
    · cases h) ho he hbase hfew hline hs hplain
end
end Py
set_option maxRecDepth 100000
set_option maxHeartbeats 2000000
namespace Py
open PySem PySem.Spec PyProof.Rows L2

/-! ### [f, g][i](e, ..) -/
section
variable {X : Cx} {CX : CXT} {E : L2.St → XK} {pos : Pos} {fe e : Expr} {es : List Expr} {tf : TE} {t : TA}
def tCallF (X : Cx) (CX : CXT) (E : L2.St → XK) (tf : TE) (t : TA) : TE := fun σ H Q => tf σ H fun y H1 => ∃ (f : Addr) (k : Nat) (fd : FuncData) (ps : List Str) (sp : Sp), y = V.ref f ∧ FnOk X.prog X.w X.K X.mg X.base CX k f fd ps sp ∧ Room k X.A ∧ PySem.W.keepIn X.K (.ref f) = true ∧ Binds X.K fd ps [] ∧ t σ H1 fun vs H2 => sp vs H2 Q (E σ)
theorem pe_callF (hf : PE X fe tf) (hx : ∀ σ, PassesAt CX X σ (E σ)) (ha : PA X (e :: es) t)
    (ht : eval (.Call fe (e :: es) [] pos) X.env = (do callWith pos (← eval fe X.env) [] (backTo pos (starEach (e :: es) X.env)) (backToKw pos (keywordEach [] X.env))) := by rfl)
    (he : starEach (e :: es) X.env = (false, eval e X.env) :: starEach es X.env := by rfl) (hpl : (backTo pos (starEach es X.env)).any (·.1) = false := by rfl) : PE X (.Call fe (e :: es) [] pos) (tCallF X CX E tf t) := by
  refine ⟨fun pins s σ H Q I h => ?_⟩
  refine Call_ (thn (hf.run pins s σ H _ I h) fun u s1 ⟨y, H1, I1, ry, f, k, fd, ps, sp, ey, F, hr, hk, hb, q⟩ => ?_) ht
  subst ey
  obtain rfl : u = Value.ref f := ry
  exact PySem.W.callWith_K (h₀ := X.base) I1.ok.mod.kin hk (thn (ha.run pos pins s1 σ H1 _ I1 q) fun us s2 ⟨vs, H2, I2, r, q2⟩ => ⟨I2.kIn, run_fnS F hr hb (hx σ) I2 r q2⟩) he hpl
end
/-- names of own defs -/
inductive FnL (s : Sx) (T : Tab) : List Expr → List Nat → Prop where
  | nil : FnL s T [] []
  | cons {n : Nat} {x : Str} {q : Pos} {es : List Expr} {ns : List Nat} : T.name n = some x → s.sc.names.lookup x = some .globalImplicit → FnL s T es ns → FnL s T (.Name x q :: es) (n :: ns)
theorem fnL_run {s : Sx} {T : Tab} {X : Cx} (c : CtxOk s T X) : ∀ {es : List Expr} {ns : List Nat}, FnL s T es ns → ∃ vs : List V, PA X es (fun σ H Q => Q vs H) ∧ vs.length = ns.length ∧ ∀ (i n : Nat), ns[i]? = some n → ∃ f : Addr, vs[i]? = some (.ref f) ∧
    ∃ (fd : FuncData) (ps : List Str), PySem.W.keepIn X.K (.ref f) = true ∧ Binds X.K fd ps [] ∧ FnOk X.prog X.w X.K X.mg X.base (L2.CX X.prog X.w) T.k f fd ps (spF X.K (clK X.K) (T.ar n) (T.sem n))
  | _, _, .nil => ⟨[], pa_nil, rfl, fun i n h => by simp at h⟩
  | _, _, .cons (n := n) (x := x) (q := q) (es := es) hn hg t => by
    obtain ⟨vs, h1, h2, h3⟩ := fnL_run c t
    obtain ⟨hdb, f, fd, ps, hm, hk, hb, hl, F⟩ := c.fac.fn n x hn
    have pn : PE X (.Name x q) (tC (.ref f)) := pe_glob (v := .ref f) (u := .ref f) (by show X.env.scope.names.lookup x = _; rw [c.sc]; exact hg) hm rfl hdb
    refine ⟨.ref f :: vs, PA.of (pa_cons pn h1 (by rfl)) (fun σ H Q h => h), by simp [h2], fun i m h => ?_⟩
    cases i with
    | zero =>
      simp at h; subst h
      exact ⟨f, rfl, fd, ps, hk, hb, F⟩
    | succ i =>
      obtain ⟨g, g1, g2⟩ := h3 i m (by simpa using h)
      exact ⟨g, by simpa using g1, g2⟩
def dCallL (fs : List (Nat × (List Sl → List Int × Int → FR))) (di : Dn) (da : DnL) : Dn := fun p => (di p).bind fun v p1 => match opd v p1 with
  | some (.int i) => match atI fs i with
    | some f => (da p1).bind fun xs p2 => finC f.1 f.2 xs p2
    | none => .bad
  | _ => .bad
section
variable {s : Sx} {T : Tab} {pos : Pos}
theorem v_callL {fn : List Expr} {ns : List Nat} {i e : Expr} {es : List Expr} {di : Dn} {da : DnL} {q1 q2 : Pos} (hf : FnL s T fn ns) (hlen : ns.length ≤ 100) (hi : VE s T i di) (hpi : PlainIx i) (ha : VL s T (e :: es) da)
    (ht : ∀ env, eval (.Call (.Subscript (.List fn q1) i q2) (e :: es) [] pos) env = (do callWith pos (← eval (.Subscript (.List fn q1) i q2) env) [] (backTo pos (starEach (e :: es) env)) (backToKw pos (keywordEach [] env))) := by intro _; rfl)
    (he : ∀ env, starEach (e :: es) env = (false, eval e env) :: starEach es env := by intro _; rfl) (hpl : ∀ env, (backTo pos (starEach es env)).any (·.1) = false := by intro _; rfl) :
    VE s T (.Call (.Subscript (.List fn q1) i q2) (e :: es) [] pos) (dCallL (ns.map fun n => (T.ar n, T.sem n)) di da) := fun X W c tk => by
  obtain ⟨vs, h1, h2, h3⟩ := fnL_run c hf
  refine PE.of (pe_callF (pe_ix ix_seq (pe_lst h1) (hi X W c tk) hpi) (fun σ => passAt tk σ) (ha X W c tk) (ht _) (he _) (hpl _)) fun σ H Q h => ?_
  obtain ⟨G, p, o, h⟩ := h
  refine ⟨by rw [h2]; exact Nat.le_trans hlen (szl (by omega)), fun a ha => ?_⟩
  have sm : Same H (upd H a (.lst vs)) := same_upd ha
  have g1 := StpE.grow o sm
  have h := Post.from g1 h
  refine te_bind g1.ok h fun v p1 u H1 s1 r1 h => ?_
  split at h
  · rename_i k e1
    cases e2 : atI (ns.map fun n => (T.ar n, T.sem n)) k with
    | none => rw [e2] at h; exact h.elim
    | some f =>
      rw [e2] at h
      have hk : u = .int k := (r1.rdb s1.ok e1).int_
      subst hk
      have hl : H1 a = some (.lst vs) := s1.1.fr a _ upd_same fun z => o.dom (z.mu) ha
      unfold atI at e2
      rw [List.length_map] at e2
      cases e3 : ixN ns.length k with
      | none => rw [e3] at e2; cases e2
      | some j =>
        rw [e3] at e2
        have e2 : (ns.map fun n => (T.ar n, T.sem n))[j]? = some f := e2
        rw [List.getElem?_map] at e2
        cases e4 : ns[j]? with
        | none => rw [e4] at e2; cases e2
        | some n =>
          rw [e4] at e2; cases e2
          obtain ⟨f, k1, fd, ps, k2, k3, k4⟩ := h3 j n e4
          have hat : atI vs k = some (.ref f) := by
            unfold atI
            rw [h2, e3]
            exact k1
          refine .inl ⟨a, vs, k, .ref f, rfl, rfl, .inl (.inl hl), hat, f, T.k, fd, ps, _, rfl, k4, c.room, k2, k3, ?_⟩
          exact tl_bind s1.ok h fun v2 p2 u2 H2 s2 r2 h => finC_run s2.ok r2 h
  · exact h.elim
end
end Py
set_option maxRecDepth 100000
set_option maxHeartbeats 2000000
namespace Py
open PySem PySem.Spec PyProof.Rows L2

/-! ### the head's facts, with the errors' classes -/
def errB (K : PySem.W.Frag) (n : Nat) : Bool := He.eqO (PySem.W.nsIn K mainGlobals (nameN n)) (some (some (.ref (clK K n)))) && (((n == 6 || n == 13) || PySem.W.excIn K (clK K n) He.veBase "ValueError.__new__") && (PySem.W.keepIn K (.ref (clK K n)) &&
  (decide (PySem.W.subIn K (.ref (clK K n)) (.type "BaseException") = some true) && (decide (PySem.W.typeIn K (.ref (clK K n)) = some (.type "type")) && (decide (PySem.W.kitOne K (.ref (clK K n)) (.type "ValueError") = some true) &&
  (He.eqO (PySem.W.findIn K (.ref (clK K n)) "__getattribute__") (some (some (.builtin "BaseException.__getattribute__"))) && (He.eqO (PySem.W.findIn K (.ref (clK K n)) "__getattr__") (some none) && (PySem.W.hasDictIn K (clK K n) &&
  (He.eqO (PySem.W.findIn K (.ref (clK K n)) "__class__") (some (some (.builtin "object.__class__"))) && (He.eqO (PySem.W.specialIn K (.builtin "object.__class__") "__get__") (some (some (.builtin "getset_descriptor.__get__"))) &&
  (decide (PySem.W.takesIn K (.builtin "object.__class__") = some true) && decide (PySem.W.mroIn K (clK K n) (.type "object") = some true))))))))))))
def errsB (K : PySem.W.Frag) (es : List Nat) : Bool := es.all (errB K) && es.all fun n => es.all fun m => decide (PySem.W.exmOne K (.ref (clK K n)) (.ref (clK K m)) = some (subN n m))
theorem errB_ok {K : PySem.W.Frag} {h : Heap} {mg : Str → Option Value} (X : K.In h) (G : h.Ns mainGlobals mg) {n : Nat} (e : errB K n = true) : ErrC K mg n := by
  unfold errB at e
  simp only [Bool.and_eq_true, decide_eq_true_eq] at e
  obtain ⟨e1, e2, e3, e4, e5, e6, e7, e8, e9, e10, e11, e12, e13⟩ := e
  exact ⟨PySem.W.mg_of X G (He.eqO_ok e1), fun hn => by rw [hn] at e2; exact e2, e3, e4, e5, e6, ⟨He.eqO_ok e7, He.eqO_ok e8, e4, e9, He.eqO_ok e10, He.eqO_ok e11, e12, e13⟩⟩
/-- a property's getter -/
def pgA (K : PySem.W.Frag) (p : Str × Str) : Addr := match PySem.W.recIn K (He.ma K (He.ga K p.1) p.2) "property" with
  | some (.ref g :: _) => g
  | _ => 0
/-- a def by its address -/
def fnA (K : PySem.W.Frag) (a : Addr) : He.FnW := match K.lookup a with
  | some ⟨_, _, .func fd, _⟩ => some (fd.name, fd.qualname, fd.params, fd.body, fd.scope, fd.globals, fd.closure, fd.builtins)
  | _ => none
/-- a property: the class, the name, the getter -/
structure PrD where
  at_ : Str × Str
  d : He.DefD
def PrD.ok (K : PySem.W.Frag) (p : PrD) : Bool := He.eqO (PySem.W.findIn K (.ref (He.ga K p.at_.1)) p.at_.2) (some (some (.ref (He.ma K (He.ga K p.at_.1) p.at_.2)))) && (He.eqO (PySem.W.specialIn K (.ref (He.ma K (He.ga K p.at_.1) p.at_.2)) "__get__") (some (some (.builtin "property.__get__"))) &&
  (decide (PySem.W.takesIn K (.ref (He.ma K (He.ga K p.at_.1) p.at_.2)) = some true) && (decide ((PySem.W.recIn K (He.ma K (He.ga K p.at_.1) p.at_.2) "property").bind List.head? = some (.ref (pgA K p.at_))) && (PySem.W.keepIn K (.ref (pgA K p.at_)) && (match K.lookup (pgA K p.at_) with
  | some ⟨_, _, .func fd, _⟩ => PySem.W.codeIn K fd.code p.d.qual && (He.dflB K fd.defaults [] && He.kwdB K fd.kwdefaults [])
  | _ => false)))))
theorem PrD.prop {K : PySem.W.Frag} {p : PrD} (c : p.ok K = true) : L2.PropOf K (He.ga K p.at_.1) p.at_.2 (He.ma K (He.ga K p.at_.1) p.at_.2) (pgA K p.at_) := by
  unfold PrD.ok at c
  obtain ⟨c1, c⟩ := He.ba c
  obtain ⟨c2, c⟩ := He.ba c
  obtain ⟨c3, c⟩ := He.ba c
  obtain ⟨c4, c⟩ := He.ba c
  refine ⟨He.eqO_ok c1, He.eqO_ok c2, of_decide_eq_true c3, ?_⟩
  have c4 := of_decide_eq_true c4
  cases q : PySem.W.recIn K (He.ma K (He.ga K p.at_.1) p.at_.2) "property" with
  | none => rw [q] at c4; cases c4
  | some l =>
    rw [q] at c4
    cases l with
    | nil => cases c4
    | cons x l =>
      have c4 : some x = some (Value.ref (pgA K p.at_)) := c4
      cases c4
      exact ⟨l, rfl⟩
theorem PrD.funD {K : PySem.W.Frag} {p : PrD} (e : fnA K (pgA K p.at_) = p.d.val) (c : p.ok K = true) : ∃ fd, FunD K p.d.name p.d.qual p.d.params p.d.body p.d.scope [] [] (pgA K p.at_) fd := by
  unfold PrD.ok at c
  obtain ⟨c1, c⟩ := He.ba c
  obtain ⟨c2, c⟩ := He.ba c
  obtain ⟨c3, c⟩ := He.ba c
  obtain ⟨c4, c⟩ := He.ba c
  obtain ⟨kp, c2⟩ := He.ba c
  unfold fnA at e
  cases q : K.lookup (pgA K p.at_) with
  | none =>
    rw [q] at c2
    cases c2
  | some o =>
    obtain ⟨oc, od, dt, osl⟩ := o
    rw [q] at c2 e
    cases dt with
    | func fd =>
      obtain ⟨y1, y2, y3, y4, y5, y6, y7, y8, y9, ya, yb, yc, yd, ye, yf⟩ := fd
      have ee : (some (y1, y2, y3, y4, y5, y6, y7, yf) : He.FnW) = some (p.d.name, p.d.qual, p.d.params, .stmts p.d.body, p.d.scope, mainGlobals, [], builtinsNs) := e
      simp only [Prod.mk.injEq, Option.some.injEq] at ee
      obtain ⟨z1, z2, z3, z4, z5, z6, z7, z8⟩ := ee
      subst z1 z2 z3 z4 z5 z6 z7 z8
      have c3 : (PySem.W.codeIn K yd p.d.qual && (He.dflB K y8 [] && He.kwdB K y9 [])) = true := c2
      obtain ⟨k1, k2⟩ := He.ba c3
      obtain ⟨k3, k4⟩ := He.ba k2
      exact ⟨_, ⟨oc, od, y8, y9, ya, yb, yc, yd, ye, osl, rfl, q, k1, He.dflB_ok k3, He.kwdB_ok k4⟩, kp⟩
    | _ => cases c2
def valP (fn : List He.DefD) (ps : List PrD) : He.AlD := (true, fn.map He.DefD.val ++ ps.map fun p => p.d.val)
def obsP (fa : List He.Fa) (fn : List He.DefD) (es : List Nat) (ps : List PrD) (K : PySem.W.Frag) : He.AlD := (((fa.all fun f => f.ok K) && fn.all fun d => d.ok K) && (errsB K es && ps.all fun p => p.ok K), fn.map (fun d => He.fnW K d.at_) ++ ps.map fun p => fnA K (pgA K p.at_))
def SaysP (fa : List He.Fa) (fn : List He.DefD) (es : List Nat) (ps : List PrD) (K : PySem.W.Frag) : Prop := obsP fa fn es ps K = valP fn ps
def obsPG (n : Nat) (fa : List He.Fa) (fn : List He.DefD) (es : List Nat) (ps : List PrD) (g : Addr → Option Obj) : He.AlD := obsP fa fn es ps (He.frG g (He.asD g n))
def hookP (n : Nat) (fa : List He.Fa) (fn : List He.DefD) (es : List Nat) (ps : List PrD) : PySem.W.Hook where
  α := He.AlD
  obs := fun s => obsPG n fa fn es ps s.heap.get?
  val := fun _ => valP fn ps
  says := fun _ h => ∃ K : PySem.W.Frag, K.In h ∧ SaysP fa fn es ps K
  of := fun _ _ e => ⟨_, He.frG_in, e⟩
  keeps := fun _ _ _ ⟨K, hK, c⟩ k => ⟨K, PySem.W.Frag.In.keeps hK k, c⟩
theorem obsPG_eq {n : Nat} {fa : List He.Fa} {fn : List He.DefD} {es : List Nat} {ps : List PrD} {g : Addr → Option Obj} {s : Shared} (h : ∀ a, g a = s.heap.get? a) : obsPG n fa fn es ps g = (hookP n fa fn es ps).obs s := by
  have e : g = s.heap.get? := funext h
  rw [e] <;> rfl
section
variable {fa : List He.Fa} {fn : List He.DefD} {es : List Nat} {ps : List PrD} {K : PySem.W.Frag}
theorem SaysP.all (c : SaysP fa fn es ps K) : He.SaysD fa fn K ∧ errsB K es = true ∧ (∀ p ∈ ps, p.ok K = true) ∧ ps.map (fun p => fnA K (pgA K p.at_)) = ps.map fun p => p.d.val := by
  have c1 : (((fa.all fun f => f.ok K) && fn.all fun d => d.ok K) && (errsB K es && ps.all fun p => p.ok K)) = true := congrArg (fun z : He.AlD => z.1) c
  have c2 : fn.map (fun d => He.fnW K d.at_) ++ ps.map (fun p => fnA K (pgA K p.at_)) = fn.map He.DefD.val ++ ps.map fun p => p.d.val := congrArg (fun z : He.AlD => z.2) c
  obtain ⟨e1, e2⟩ := List.append_inj c2 (by rw [List.length_map, List.length_map])
  rw [Bool.and_eq_true, Bool.and_eq_true (errsB K es)] at c1
  exact ⟨Prod.ext c1.1 e1, c1.2.1, List.all_eq_true.mp c1.2.2, e2⟩
theorem SaysP.d (c : SaysP fa fn es ps K) : He.SaysD fa fn K ∧ errsB K es = true := ⟨c.all.1, c.all.2.1⟩
theorem SaysP.pr (c : SaysP fa fn es ps K) (i : Nat) {p : PrD} (h : ps[i]? = some p) : L2.PropOf K (He.ga K p.at_.1) p.at_.2 (He.ma K (He.ga K p.at_.1) p.at_.2) (pgA K p.at_) ∧ ∃ fd, FunD K p.d.name p.d.qual p.d.params p.d.body p.d.scope [] [] (pgA K p.at_) fd := by
  obtain ⟨_, _, c3, c4⟩ := c.all
  have hm := List.mem_of_getElem? h
  have e2 : (ps.map fun p => fnA K (pgA K p.at_))[i]? = (ps.map fun p => p.d.val)[i]? := by rw [c4]
  rw [List.getElem?_map, List.getElem?_map, h] at e2
  exact ⟨PrD.prop (c3 p hm), PrD.funD (Option.some.inj e2) (c3 p hm)⟩
theorem SaysP.er {h : Heap} {mg : Str → Option Value} (X : K.In h) (G : h.Ns mainGlobals mg) (c : SaysP fa fn es ps K) : ∀ n ∈ es, ErrC K mg n := fun n hn => by
  have e := c.d.2
  unfold errsB at e
  rw [Bool.and_eq_true, List.all_eq_true] at e
  exact errB_ok X G (e.1 n hn)
theorem SaysP.sub (c : SaysP fa fn es ps K) : ∀ n ∈ es, ∀ m ∈ es, PySem.W.exmOne K (.ref (clK K n)) (.ref (clK K m)) = some (subN n m) := fun n hn m hm => by
  have e := c.d.2
  unfold errsB at e
  rw [Bool.and_eq_true, List.all_eq_true, List.all_eq_true] at e
  have e2 := e.2 n hn
  rw [List.all_eq_true] at e2
  exact of_decide_eq_true (e2 m hm)
end
end Py
namespace Py
open PySem PySem.Spec PyProof.Rows L2
def loB (sc : Scope) (x : Str) : Bool := match sc.names.lookup x with
  | some .local => true
  | _ => false
theorem lo_of {sc : Scope} {x : Str} (h : loB sc x = true) : sc.names.lookup x = some .local := by
  unfold loB at h
  split at h
  · assumption
  · cases h
section
variable {s : Sx} {T : Tab} {pos : Pos}
theorem v_disp0 : VE s T (.Dict [] [] pos) (fun p => .ok (.ow (.dic [])) p) := fun X W c tk => by
  refine PE.of pe_dnewK fun σ H Q q => ?_
  obtain ⟨G, p, o, q⟩ := q
  intro a ha
  have q : ∀ u H', StpE X.K G σ p H p H' → RvOk X.K G σ p H H' u (.ow (.dic [])) → Q u H' := q
  exact q (.ref a) _ (.grow o (same_upd ha)) ⟨rfl, a, rfl, ha, fun z => o.dom z ha, ⟨[], upd_same, .nil⟩, o.more (same_upd ha) ha (by rw [upd_same]; simp)⟩
end
end Py
set_option maxRecDepth 100000
set_option maxHeartbeats 2000000
namespace Py
open PySem PySem.Spec PyProof.Rows L2

/-! ### objects of the program's own classes -/
theorem rdb_obj {K : PySem.W.Frag} {M : Addr → Prop} {H : Hp} {v : V} {c : Nat} {ds : List D} (r : Rdb K M H v (.obj c ds)) : ∃ a dx fs, v = .ref a ∧ H a = some (.ins (clA K c) dx fs) ∧ fs.map (·.1) = (flds c).take ds.length ∧ RepL K M H (fs.map (·.2)) ds := by
  rcases r with r | ⟨a, rfl, dx, fs, h1, h2, h3⟩
  · cases r
  · exact ⟨a, dx, fs, rfl, h1, h2, h3⟩
theorem look_at : ∀ {fs : List (Str × V)} {l : List Str} {k : Nat} {f : Str}, fs.map (·.1) = l.take fs.length → l.Nodup → l[k]? = some f → k < fs.length → fs.lookup f = (fs.map (·.2))[k]?
  | [], _, _, _, _, _, _, h => absurd h (Nat.not_lt_zero _)
  | (g, v) :: fs, [], _, _, h, _, _, _ => by simp at h
  | (g, v) :: fs, x :: l, k, f, h, nd, hk, hl => by
    simp only [List.map_cons, List.length_cons, List.take_succ_cons, List.cons.injEq] at h
    obtain ⟨rfl, h⟩ := h
    rw [List.nodup_cons] at nd
    cases k with
    | zero =>
      simp at hk; subst hk
      rw [List.lookup_cons_self]; rfl
    | succ k =>
      have hk' : l[k]? = some f := by simpa using hk
      have hne : (f == g) = false := by
        rw [beq_eq_false_iff_ne]
        intro e; subst e
        exact nd.1 (List.mem_of_getElem? hk')
      rw [List.lookup_cons, hne]
      simp only [List.map_cons, List.getElem?_cons_succ]
      exact look_at h nd.2 hk' (by simpa using hl)
theorem look_no {fs : List (Str × V)} {f : Str} (h : f ∉ fs.map (·.1)) : fs.lookup f = none := by
  induction fs with
  | nil => rfl
  | cons p fs ih =>
    obtain ⟨g, v⟩ := p
    simp only [List.map_cons, List.mem_cons, not_or] at h
    rw [List.lookup_cons, beq_eq_false_iff_ne.mpr h.1]
    exact ih h.2
def opFld (c k : Nat) : D → Option Rv
  | .obj c' ds => if c' = c then ds[k]?.map Rv.sh else none
  | _ => none
section
variable {s : Sx} {T : Tab} {pos : Pos}
theorem v_fld (c k : Nat) {e : Expr} {f : Str} {de : Dn} (he : VE s T e de) (hf : (flds c)[k]? = some f) (hob : T.ob c = true) (hnd : (flds c).Nodup := by decide) (hb : ∀ env, attributeBase e f env (eval e env) = eval e env := by intro _; rfl) : VE s T (.Attribute e f pos) (d1 (opFld c k) de) := fun X W cx tk => by
  have oc := cx.fac.ob c hob
  refine PE.of (pe_fld (he X W cx tk) (hb _)) fun σ H Q h => ?_
  obtain ⟨G, p, o, h⟩ := h
  refine te_bind o h fun v p1 u H1 s1 r1 h => ?_
  unfold fin1 at h
  cases e1 : opd v p1 with
  | none => rw [e1] at h; exact h.elim
  | some a =>
    rw [e1] at h
    cases a with
    | obj c' ds =>
      by_cases hc : c' = c
      · subst hc
        have h : Post X.K (clK X.K) W G σ H1 p1 Q (give (if c' = c' then ds[k]?.map Rv.sh else none) p1) := h
        rw [if_pos rfl] at h
        cases e2 : ds[k]? with
        | none => rw [e2] at h; exact h.elim
        | some d =>
          rw [e2] at h
          obtain ⟨b, dx, fs, rfl, h1, h2, h3⟩ := rdb_obj (r1.rdb s1.ok e1)
          obtain ⟨w, g1, g2⟩ := h3.get e2
          have hlen : fs.length = ds.length := by have := h3.length; rw [List.length_map] at this; exact this
          have hk : k < fs.length := by rw [hlen]; exact (List.getElem?_eq_some_iff.mp e2).1
          exact ⟨b, clA X.K c', dx, fs, w, rfl, h1, oc.cls, oc.noat f (List.mem_of_getElem? hf), by rw [look_at (by rw [h2, hlen]) hnd hf hk]; exact g1, h w H1 (.refl s1.ok) g2⟩
      · have h : Post X.K (clK X.K) W G σ H1 p1 Q (give (if c' = c then ds[k]?.map Rv.sh else none) p1) := h
        rw [if_neg hc] at h
        exact h.elim
    | _ => exact h.elim
/-- the field k gets d -/
def putD (k : Nat) (d : D) (ds : List D) : List D := if k < ds.length then ds.set k d else ds ++ [d]
def fldS (i c k : Nat) (v : Rv) (p : PS) : Out := match v.soft with
  | .sh d => match p.env[i]? with
    | some (.own l false (.obj c' ds)) => if c' = c ∧ k ≤ ds.length ∧ ds.length ≤ (flds c).length then .nx ⟨p.env.set i (.own l false (.obj c (putD k d ds))), p.src⟩ else .bad
    | _ => .bad
  | _ => .bad
def sFldP (i c k : Nat) (de : Dn) : SDn := fun p => onR (de p) fun v p1 => fldS i c k v p1
theorem putF_at {y : V} : ∀ {fs : List (Str × V)} {l : List Str} {k : Nat} {f : Str}, fs.map (·.1) = l.take fs.length → l.Nodup → l[k]? = some f → k ≤ fs.length → (putF f y fs).map (·.1) = l.take (putF f y fs).length ∧ (putF f y fs).map (·.2) = (if k < fs.length then (fs.map (·.2)).set k y else fs.map (·.2) ++ [y]) ∧ (putF f y fs).length = (if k < fs.length then fs.length else fs.length + 1)
  | [], l, k, f, _, _, hk, hl => by
    have : k = 0 := by simpa using hl
    subst this
    cases l with
    | nil => simp at hk
    | cons x l => simp at hk; subst hk; simp [putF]
  | (g, v) :: fs, [], _, _, h, _, _, _ => by simp at h
  | (g, v) :: fs, x :: l, k, f, h, nd, hk, hl => by
    simp only [List.map_cons, List.length_cons, List.take_succ_cons, List.cons.injEq] at h
    obtain ⟨rfl, h⟩ := h
    rw [List.nodup_cons] at nd
    cases k with
    | zero =>
      simp at hk; subst hk
      unfold putF
      rw [if_pos rfl]
      simp [h]
    | succ k =>
      have hk' : l[k]? = some f := by simpa using hk
      have hne : ¬ g = f := by
        intro e; subst e
        exact nd.1 (List.mem_of_getElem? hk')
      obtain ⟨i1, i2, i3⟩ := putF_at (y := y) h nd.2 hk' (by simpa using hl)
      unfold putF
      rw [if_neg hne]
      refine ⟨by simp [i1], ?_, ?_⟩
      · simp only [List.map_cons, i2, List.length_cons]
        by_cases q : k < fs.length
        · rw [if_pos q, if_pos (by omega)]; rfl
        · rw [if_neg q, if_neg (by omega)]; rfl
      · simp only [List.length_cons, i3]
        by_cases q : k < fs.length
        · rw [if_pos q, if_pos (by omega)]
        · rw [if_neg q, if_neg (by omega)]
theorem flds_len (c : Nat) : (flds c).length ≤ 3 := by
  unfold flds
  split <;> simp
theorem fldS_run {K : PySem.W.Frag} {cl : Nat → Addr} {W : WX} {G : Gh} {σ : L2.St} {H : Hp} {p : PS} {D' : Ends} {i c k : Nat} {f : Str} {v : Rv} {u : V} (hf : (flds c)[k]? = some f) (hnd : (flds c).Nodup) (o : Ok K G σ H p) (r : RvOk K G σ p H H u v.soft) (h : PostS K cl W G σ H p D' (fldS i c k v p)) :
    ∃ (a dx : Addr) (fs : List (Str × V)), σ[i]? = some (some (.ref a)) ∧ H a = some (.ins (clA K c) dx fs) ∧ fs.length < 1000 ∧ D'.nx σ (upd H a (.ins (clA K c) dx (putF f u fs))) := by
  unfold fldS at h
  cases es : v.soft with
  | sh d =>
    rw [es] at h r
    simp only at h
    split at h
    · rename_i l c' ds e1
      split at h
      · rename_i hc
        obtain ⟨rfl, hc1, hc2⟩ := hc
        obtain ⟨a, ha, ⟨dx, fs, g1, g2, g3⟩, _⟩ := o.ow i l false _ e1
        have hlen : fs.length = ds.length := by have := g3.length; rw [List.length_map] at this; exact this
        have fl := flds_len c'
        refine ⟨a, dx, fs, ha, g1, by omega, ?_⟩
        obtain ⟨q1, q2, q3⟩ := putF_at (y := u) (by rw [g2, hlen]) hnd hf (show k ≤ fs.length by omega)
        have hmu : Mu G σ p.env a := .inr (.inr ⟨i, l, false, _, e1, ha⟩)
        have keep : ∀ b ob', H b = some ob' → ¬ Mu G σ p.env b → (upd H a (.ins (clA K c') dx (putF f u fs))) b = some ob' := fun b ob' e n => by rw [upd_ne (fun z : b = a => n (by rw [z]; exact hmu))]; exact e
        have rl : RepL K (Mu G σ p.env) (upd H a (.ins (clA K c') dx (putF f u fs))) ((putF f u fs).map (·.2)) (putD k d ds) := by
          rw [q2]
          have g3' := RepL.mono K keep (fun _ z => .inl z) g3
          have r' := Rep.mono K keep (fun _ z => .inl z) (show Rep K (Mu G σ p.env) H u d from r)
          unfold putD
          rw [hlen]
          by_cases q : k < ds.length
          · rw [if_pos q, if_pos q]; exact g3'.set r' k
          · rw [if_neg q, if_neg q]; exact g3'.snoc r'
        have hl2 : (putD k d ds).length = (putF f u fs).length := by rw [← rl.length, List.length_map]
        have st := o.wr (d' := .obj c' (putD k d ds)) (ob := .ins (clA K c') dx (putF f u fs)) e1 ha ⟨dx, putF f u fs, upd_same, by rw [hl2]; exact q1, rl⟩
        exact h _ _ st.1
      · exact h.elim
    · exact h.elim
  | ow d => rw [es] at h; exact h.elim
  | bo j => rw [es] at h; exact h.elim
  | sr => rw [es] at h; exact h.elim
/-- x.f = e -/
theorem vs_fld (i c k : Nat) {x f : Str} {e : Expr} {de : Dn} {q q2 : Pos} (hN : s.N[i]? = some x) (hv : visB s.sc x = true) (hf : (flds c)[k]? = some f) (hob : T.ob c = true) (he : VE s T e de) (hd : (x == ("__debug__" : Str)) = false := by decide) (hcd : (x == ("__classdict__" : Str)) = false := by decide) (hnd : (flds c).Nodup := by decide)
    (hs : ∀ env, swapsWith e (some (.Attribute (.Name x q) f q2)) pos.line env = pure false := by intro _; rfl) : VS s T (.Assign [.Attribute (.Name x q) f q2] e pos) (sFldP i c k de) := fun X W cx tk => by
  have oc := cx.1.fac.ob c hob
  refine PSt.of (ps_fld (pe_var (i := i) (by rw [cx.1.N]; exact hN) (by rw [cx.1.sc]; exact vis_of hv) hd hcd) (he X W cx.1 tk) (hs _)) fun D σ H h => ?_
  obtain ⟨G, p, o, h⟩ := h
  refine ts_bind o h fun v p1 u H1 s1 r1 h => ?_
  obtain ⟨a, dx, fs, h1, h2, h3, h4⟩ := fldS_run hf hnd s1.ok r1.soft h
  exact ⟨.ref a, h1, a, clA X.K c, dx, fs, rfl, h2, oc.cls, oc.noat f (List.mem_of_getElem? hf), h3, h4⟩
/-- x.f += e, whole numbers -/
def sFldA (i c k : Nat) (de : Dn) : SDn := fun p => match p.env[i]? with
  | some (.own _ false (.obj c' ds)) => if c' = c then match ds[k]? with
    | some (.int m) => onR (de p) fun v p1 => match opd v p1 with
      | some (.int n) => fldS i c k (.sh (.int (m + n))) p1
      | _ => .bad
    | _ => .bad else .bad
  | _ => .bad
theorem vs_flda (i c k : Nat) {x f : Str} {e : Expr} {de : Dn} {q q2 : Pos} (hN : s.N[i]? = some x) (hv : visB s.sc x = true) (hf : (flds c)[k]? = some f) (hob : T.ob c = true) (he : VE s T e de) (hd : (x == ("__debug__" : Str)) = false := by decide) (hcd : (x == ("__classdict__" : Str)) = false := by decide) (hnd : (flds c).Nodup := by decide) :
    VS s T (.AugAssign (.Attribute (.Name x q) f q2) .Add e pos) (sFldA i c k de) := fun X W cx tk => by
  have oc := cx.1.fac.ob c hob
  refine PSt.of (ps_fldaug (pe_var (i := i) (by rw [cx.1.N]; exact hN) (by rw [cx.1.sc]; exact vis_of hv) hd hcd) (he X W cx.1 tk) in_add) fun D σ H h => ?_
  obtain ⟨G, p, o, h⟩ := h
  unfold sFldA at h
  split at h
  · rename_i l c' ds e1
    split at h
    · rename_i hc
      subst hc
      split at h
      · rename_i m e2
        obtain ⟨a, ha, ⟨dx, fs, g1, g2, g3⟩, _⟩ := o.ow i l false _ e1
        obtain ⟨w, k1, k2⟩ := g3.get e2
        have hlen : fs.length = ds.length := by have := g3.length; rw [List.length_map] at this; exact this
        have hk : k < fs.length := by rw [hlen]; exact (List.getElem?_eq_some_iff.mp e2).1
        refine ⟨.ref a, ha, a, clA X.K c', dx, fs, w, rfl, g1, oc.cls, oc.noat f (List.mem_of_getElem? hf), by rw [look_at (by rw [g2, hlen]) hnd hf hk]; exact k1, ?_⟩
        refine ts_bind o h fun v p1 u H1 s1 r1 h => ?_
        split at h
        · rename_i n e3
          cases k2
          have hu : u = .int n := (r1.rdb s1.ok e3).int_
          subst hu
          obtain ⟨a', dx', fs', h1, h2, h3, h4⟩ := fldS_run (v := .sh (.int (m + n))) (u := .int (m + n)) hf hnd s1.ok .int h
          rw [ha] at h1; cases h1
          exact ⟨m, n, rfl, rfl, dx', fs', h2, h3, h4⟩
        · exact h.elim
      · exact h.elim
    · exact h.elim
  · exact h.elim
end
end Py
set_option maxRecDepth 100000
set_option maxHeartbeats 2000000
namespace Py
open PySem PySem.Spec PyProof.Rows L2

/-! ### methods -/
section
variable {X : Cx} {CX : CXT} {k : Nat} {f C : Addr} {fd : FuncData} {ps : List Str} {sp : Sp} {E : L2.St → XK} {m : Str} {pos apos : Pos} {e o : Expr} {es : List Expr} {ta : TE} {t : TA}
def tMethE (C : Addr) (m : Str) (sp : Sp) (E : L2.St → XK) (ta : TE) (t : TA) : TE := fun σ H Q => ta σ H fun x H1 => ∃ a dx fs, x = V.ref a ∧ H1 a = some (.ins C dx fs) ∧ fs.lookup m = none ∧ t σ H1 fun vs H2 => sp (V.ref a :: vs) H2 Q (E σ)
theorem pe_methE {pl : Sem Bool} (he : PE X o ta) (c : Cls X.K C) (hm : Meth X.K C m f) (F : FnOk X.prog X.w X.K X.mg X.base CX k f fd ps sp) (hr : Room k X.A) (hb : Binds X.K fd ps []) (hx : ∀ σ, PassesAt CX X σ (E σ)) (ha : PA X (e :: es) t)
    (hst : starEach (e :: es) X.env = (false, eval e X.env) :: starEach es X.env) (hpl : (backTo pos (starEach es X.env)).any (·.1) = false)
    (ht : eval (.Call (.Attribute o m apos) (e :: es) [] pos) X.env = (do
      let ov ← eval o X.env
      standAt apos.atName
      let (f, first) ← holding [ov] (getMethod ov m pl)
      callWith pos f first (backTo pos (starEach (e :: es) X.env)) (backToKw pos (keywordEach [] X.env)))) :
    PE X (.Call (.Attribute o m apos) (e :: es) [] pos) (tMethE C m sp E ta t) := by
  refine ⟨fun pins s σ H Q I h => ?_⟩
  refine PySem.W.methodCall_KW (pl := pl) (thn (he.run pins s σ H _ I h) fun u s1 ⟨x, H1, I1, rx, a, dx, fs, ex, ea, l, q⟩ => ?_) ht
  subst ex
  obtain rfl : u = Value.ref a := rx
  refine getmeth_ok I1 ea c hm l ?_
  refine PySem.W.callWith_K (first := [.ref a]) (h₀ := X.base) I.ok.mod.kin hm.kp (thn (ha.run pos pins s1 σ H1 _ I1 q) fun us s2 ⟨vs, H2, I2, r, q2⟩ => ⟨I2.kIn, ?_⟩) hst hpl
  exact run_fnS (us := .ref a :: us) (vs := .ref a :: vs) F hr hb (hx σ) I2 (.cons rfl r) q2
theorem pe_methE0 {pl : Sem Bool} (he : PE X o ta) (c : Cls X.K C) (hm : Meth X.K C m f) (F : FnOk X.prog X.w X.K X.mg X.base CX k f fd ps sp) (hr : Room k X.A) (hb : Binds X.K fd ps []) (hx : ∀ σ, PassesAt CX X σ (E σ))
    (ht : eval (.Call (.Attribute o m apos) [] [] pos) X.env = (do
      let ov ← eval o X.env
      standAt apos.atName
      let (f, first) ← holding [ov] (getMethod ov m pl)
      callWith pos f first (backTo pos (starEach [] X.env)) (backToKw pos (keywordEach [] X.env)))) :
    PE X (.Call (.Attribute o m apos) [] [] pos) (tMethE C m sp E ta tNil) := by
  refine ⟨fun pins s σ H Q I h => ?_⟩
  refine PySem.W.methodCall_KW (pl := pl) (thn (he.run pins s σ H _ I h) fun u s1 ⟨x, H1, I1, rx, a, dx, fs, ex, ea, l, q⟩ => ?_) ht
  subst ex
  obtain rfl : u = Value.ref a := rx
  refine getmeth_ok I1 ea c hm l ?_
  exact PySem.W.callWith_K0 (first := [.ref a]) I1.kIn hm.kp (run_fnS (us := [.ref a]) (vs := [.ref a]) F hr hb (hx σ) I1 (.cons rfl .nil) q)
end
def dMeth (c i k : Nat) (sem : List Sl → List Int × Int → FR) (da : DnL) : Dn := fun p => match p.env[i]? with
  | some (.own _ _ (.obj c' _)) => if c' = c then (da p).bind fun xs p2 => finC k sem (.bo i :: xs) p2 else .bad
  | _ => .bad
theorem no_field {K : PySem.W.Frag} {c : Nat} {ds : List D} {fs : List (Str × V)} {m : Str} (h : fs.map (·.1) = (flds c).take ds.length) (hm : (flds c).contains m = false) : fs.lookup m = none := by
  refine look_no fun z => ?_
  rw [h] at z
  have := List.contains_iff_mem.mpr (List.mem_of_mem_take z)
  rw [hm] at this
  cases this
section
variable {s : Sx} {T : Tab} {pos : Pos}
theorem v_meth (n c i : Nat) {x m : Str} {e : Expr} {es : List Expr} {da : DnL} {q apos : Pos} {pl : Env → Sem Bool} (hN : s.N[i]? = some x) (hv : visB s.sc x = true) (hob : T.ob c = true) (hmt : T.mt n = some (c, m)) (hnf : (flds c).contains m = false) (ha : VL s T (e :: es) da)
    (hd : (x == ("__debug__" : Str)) = false := by decide) (hcd : (x == ("__classdict__" : Str)) = false := by decide) (hprop : propN m = false := by decide)
    (hst : ∀ env, starEach (e :: es) env = (false, eval e env) :: starEach es env := by intro _; rfl) (hpl : ∀ env, (backTo pos (starEach es env)).any (·.1) = false := by intro _; rfl)
    (ht : ∀ env, eval (.Call (.Attribute (.Name x q) m apos) (e :: es) [] pos) env = (do
      let ov ← eval (.Name x q) env
      standAt apos.atName
      let (f, first) ← holding [ov] (getMethod ov m (pl env))
      callWith pos f first (backTo pos (starEach (e :: es) env)) (backToKw pos (keywordEach [] env))) := by intro _; rfl) :
    VE s T (.Call (.Attribute (.Name x q) m apos) (e :: es) [] pos) (dMeth c i (T.ar n) (T.sem n) da) := fun X W cx tk => by
  have oc := cx.fac.ob c hob
  obtain ⟨hk1, f, fd, ps, hm, hb, hl, F1⟩ := cx.fac.mt n c m hmt
  have hm := mk_meth hprop hm
  have F := F1.mono hk1
  refine PE.of (pe_methE (pe_var (i := i) (by rw [cx.N]; exact hN) (by rw [cx.sc]; exact vis_of hv) hd hcd) oc.cls hm F cx.room hb (fun σ => passAt tk σ) (ha X W cx tk) (hst _) (hpl _) (ht _)) fun σ H Q h => ?_
  obtain ⟨G, p, o, h⟩ := h
  unfold dMeth at h
  split at h
  · rename_i l z c' ds e1
    split at h
    · rename_i hc
      subst hc
      obtain ⟨a, h1, ⟨dx, fs, g1, g2, g3⟩, _⟩ := o.ow i l z _ e1
      refine ⟨.ref a, h1, a, dx, fs, rfl, g1, no_field (K := X.K) g2 hnf, ?_⟩
      refine tl_bind o h fun v2 p2 u2 H2 s2 r2 h => ?_
      obtain ⟨d', e2⟩ := s2.2.own e1
      exact finC_run (us := .ref a :: u2) (xs := .bo i :: v2) s2.ok (.cons (show RvOk X.K G σ p2 H2 H2 (.ref a) (.bo i) from ⟨⟨l, z, d', e2⟩, h1⟩) r2) h
    · exact h.elim
  · exact h.elim
theorem v_meth0 (n c i : Nat) {x m : Str} {q apos : Pos} {pl : Env → Sem Bool} (hN : s.N[i]? = some x) (hv : visB s.sc x = true) (hob : T.ob c = true) (hmt : T.mt n = some (c, m)) (hnf : (flds c).contains m = false)
    (hd : (x == ("__debug__" : Str)) = false := by decide) (hcd : (x == ("__classdict__" : Str)) = false := by decide) (hprop : propN m = false := by decide)
    (ht : ∀ env, eval (.Call (.Attribute (.Name x q) m apos) [] [] pos) env = (do
      let ov ← eval (.Name x q) env
      standAt apos.atName
      let (f, first) ← holding [ov] (getMethod ov m (pl env))
      callWith pos f first (backTo pos (starEach [] env)) (backToKw pos (keywordEach [] env))) := by intro _; rfl) :
    VE s T (.Call (.Attribute (.Name x q) m apos) [] [] pos) (dMeth c i (T.ar n) (T.sem n) dNil) := fun X W cx tk => by
  have oc := cx.fac.ob c hob
  obtain ⟨hk1, f, fd, ps, hm, hb, hl, F1⟩ := cx.fac.mt n c m hmt
  have hm := mk_meth hprop hm
  have F := F1.mono hk1
  refine PE.of (pe_methE0 (pe_var (i := i) (by rw [cx.N]; exact hN) (by rw [cx.sc]; exact vis_of hv) hd hcd) oc.cls hm F cx.room hb (fun σ => passAt tk σ) (ht _)) fun σ H Q h => ?_
  obtain ⟨G, p, o, h⟩ := h
  unfold dMeth at h
  split at h
  · rename_i l z c' ds e1
    split at h
    · rename_i hc
      subst hc
      obtain ⟨a, h1, ⟨dx, fs, g1, g2, g3⟩, _⟩ := o.ow i l z _ e1
      exact ⟨.ref a, h1, a, dx, fs, rfl, g1, no_field (K := X.K) g2 hnf, finC_run (us := [.ref a]) (xs := [.bo i]) o (.cons (show RvOk X.K G σ p H H (.ref a) (.bo i) from ⟨⟨l, z, _, e1⟩, h1⟩) .nil) h⟩
    · exact h.elim
  · exact h.elim
end

/-! ### a new object in a slot of its own -/
section
variable {K : PySem.W.Frag} {G : Gh} {σ : L2.St} {H : Hp} {p : PS}
theorem get_snoc {α : Type} {l : List α} {x y : α} {i : Nat} (h : (l ++ [x])[i]? = some y) : l[i]? = some y ∨ (i = l.length ∧ y = x) := by
  by_cases hi : i < l.length
  · rw [List.getElem?_append_left hi] at h; exact .inl h
  · rw [List.getElem?_append_right (by omega)] at h
    obtain ⟨q, hq⟩ : ∃ q, i - l.length = q := ⟨_, rfl⟩
    rw [hq] at h
    cases q with
    | zero => simp at h; exact .inr ⟨by omega, h.symm⟩
    | succ q => simp at h
theorem get_left {α : Type} {l : List α} {x y : α} {i : Nat} (h : l[i]? = some y) : (l ++ [x])[i]? = some y := by
  rw [List.getElem?_append_left (List.getElem?_eq_some_iff.mp h).1]; exact h
theorem ext_ownA {x a : Addr} {d : D} (hl : p.env.length = σ.length) : ownA (σ ++ [some (.ref x)]) (p.env ++ [.own false false d]) a ↔ ownA σ p.env a ∨ a = x := by
  constructor
  · rintro ⟨i, l, z, e, h1, h2⟩
    rcases get_snoc h1 with h1 | ⟨rfl, h1⟩
    · have hi : i < σ.length := by rw [← hl]; exact (List.getElem?_eq_some_iff.mp h1).1
      rw [List.getElem?_append_left hi] at h2
      exact .inl ⟨i, l, z, e, h1, h2⟩
    · rw [hl, List.getElem?_append_right (Nat.le_refl _), Nat.sub_self] at h2
      cases h2; exact .inr rfl
  · rintro (⟨i, l, z, e, h1, h2⟩ | rfl)
    · exact ⟨i, l, z, e, get_left h1, get_left h2⟩
    · exact ⟨p.env.length, false, false, d, by simp, by rw [hl]; simp⟩
theorem ext_mu {x a : Addr} {d : D} (hl : p.env.length = σ.length) : Mu G (σ ++ [some (.ref x)]) (p.env ++ [.own false false d]) a ↔ Mu G σ p.env a ∨ a = x := by
  unfold Mu
  rw [ext_ownA hl]
  constructor
  · rintro (z | z | z | z)
    · exact .inl (.inl z)
    · exact .inl (.inr (.inl z))
    · exact .inl (.inr (.inr z))
    · exact .inr z
  · rintro ((z | z | z) | z)
    · exact .inl z
    · exact .inr (.inl z)
    · exact .inr (.inr (.inl z))
    · exact .inr (.inr (.inr z))
/-- a new object of class c, its fields not written yet -/
def newH (K : PySem.W.Frag) (H : Hp) (c : Nat) (x dx : Addr) : Hp := upd (upd H dx (.own x)) x (.ins (clA K c) dx [])
theorem newH_same {c : Nat} {x dx : Addr} (hx : H x = none) (hd : H dx = none) : Same H (newH K H c x dx) := fun b o e => by
  unfold newH
  rw [upd_ne (ne_of_none e hx), upd_ne (ne_of_none e hd)]; exact e
theorem Ok.ext {c : Nat} {x dx : Addr} (o : Ok K G σ H p) (hx : H x = none) (hd : H dx = none) (hne : dx ≠ x) : Ok K G (σ ++ [some (.ref x)]) (newH K H c x dx) ⟨p.env ++ [.own false false (.obj c [])], p.src⟩ := by
  have sm := newH_same (K := K) (c := c) hx hd
  have mm : ∀ a, Mu G (σ ++ [some (.ref x)]) (p.env ++ [.own false false (.obj c [])]) a → Mu G σ p.env a ∨ H a = none := fun a z => by
    rcases (ext_mu o.len).mp z with z | rfl
    · exact .inl z
    · exact .inr hx
  have nx : ¬ Mu G σ p.env x := fun z => o.dom z hx
  have hxs : newH K H c x dx x = some (.ins (clA K c) dx []) := upd_same
  refine ⟨by simp [o.len], fun i d e => ?_, fun i l z d e => ?_, fun i j l z d l' z' d' a e1 e2 e3 e4 => ?_, fun i e => ?_, fun a z => ?_, fun q e => ?_⟩
  · rcases get_snoc e with e | ⟨_, e⟩
    · obtain ⟨v, h1, h2⟩ := o.sh i d e
      exact ⟨v, get_left h1, Rep.mono K (fun a ob h _ => sm a ob h) mm h2⟩
    · cases e
  · rcases get_snoc e with e | ⟨rfl, eq⟩
    · obtain ⟨a, h1, h2, h3⟩ := o.ow i l z d e
      exact ⟨a, get_left h1, h2.mono (fun a ob h _ => sm a ob h) mm (fun ob h => sm a ob h), h3⟩
    · injection eq with e1 e2 e3
      subst e1 e2 e3
      refine ⟨x, by rw [o.len]; simp, ⟨dx, [], hxs, rfl, .nil⟩, fun z => nx (.inl z), fun z => nx (.inr (.inl z))⟩
  · have old : ∀ {i : Nat} {l z : Bool} {d : D}, p.env[i]? = some (.own l z d) → (σ ++ [some (V.ref x)])[i]? = some (some (.ref a)) → σ[i]? = some (some (.ref a)) ∧ a ≠ x := fun {i l z d} e h => by
      have hi : i < σ.length := by rw [← o.len]; exact (List.getElem?_eq_some_iff.mp e).1
      rw [List.getElem?_append_left hi] at h
      exact ⟨h, fun z' => nx (z' ▸ .inr (.inr ⟨i, l, z, d, e, h⟩))⟩
    have new : (σ ++ [some (V.ref x)])[p.env.length]? = some (some (.ref a)) → a = x := fun h => by
      rw [o.len] at h
      simp at h
      exact h.symm
    rcases get_snoc e1 with e1 | ⟨rfl, e1⟩
    · obtain ⟨g1, n1⟩ := old e1 e3
      rcases get_snoc e2 with e2 | ⟨rfl, e2⟩
      · exact o.inj _ _ _ _ _ _ _ _ _ e1 e2 g1 (old e2 e4).1
      · exact absurd (new e4) n1
    · rcases get_snoc e2 with e2 | ⟨rfl, e2⟩
      · exact absurd (new e3) (old e2 e4).2
      · rfl
  · rcases get_snoc e with e | ⟨_, e⟩
    · obtain ⟨q, h1, h2⟩ := o.sr i e
      exact ⟨q, h1, get_left h2⟩
    · cases e
  · cases q : H a with
    | none => exact absurd q (o.mx a z)
    | some ob => rw [sm a ob q]; simp
  · obtain ⟨h1, h2, h3, h4, h5⟩ := o.ga q e
    exact ⟨h1, sm _ _ h2, sm _ _ h3, h4, h5⟩
/-- the new object's slot is taken off -/
theorem Ok.drop {x : Addr} {d : D} {e : List Sl} {src : List Int × Int} (hl : e.length = σ.length) (o : Ok K G (σ ++ [some (.ref x)]) H ⟨e ++ [.own false false d], src⟩) : Ok K (G.more x) σ H ⟨e, src⟩ ∧ OwnAt K (Mu (G.more x) σ e) H x d ∧ ¬ Mu G σ e x := by
  have hi : (e ++ [Sl.own false false d])[e.length]? = some (.own false false d) := by simp
  have hs : (σ ++ [some (V.ref x)])[e.length]? = some (some (.ref x)) := by rw [hl]; simp
  obtain ⟨b, hb, hoa, hm, hg⟩ := o.ow e.length false false d hi
  rw [hs] at hb; cases hb
  have mu : ∀ a, Mu G (σ ++ [some (.ref x)]) (e ++ [.own false false d]) a ↔ Mu G σ e a ∨ a = x := fun a => ext_mu (p := ⟨e, src⟩) hl
  have mue : Mu (G.more x) σ e = Mu G (σ ++ [some (.ref x)]) (e ++ [.own false false d]) := by
    funext a; apply propext; rw [mu a, mu_more]
  have nx : ¬ Mu G σ e x := by
    rintro (z | z | ⟨i, l, z, d', h1, h2⟩)
    · exact hm z
    · exact hg z
    · have := o.inj i e.length l z d' false false d x (get_left h1) hi (get_left h2) hs
      subst this
      exact absurd (List.getElem?_eq_some_iff.mp h1).1 (Nat.lt_irrefl _)
  refine ⟨⟨hl, fun i d' h => ?_, fun i l z d' h => ?_, fun i j l z d1 l' z' d2 a h1 h2 h3 h4 => o.inj _ _ _ _ _ _ _ _ _ (get_left h1) (get_left h2) (get_left h3) (get_left h4), fun i h => ?_, fun a z => ?_, fun q h => ?_⟩, by rw [mue]; exact hoa, nx⟩
  · obtain ⟨v, h1, h2⟩ := o.sh i d' (get_left h)
    have hi : i < σ.length := by rw [← hl]; exact (List.getElem?_eq_some_iff.mp h).1
    rw [List.getElem?_append_left hi] at h1
    exact ⟨v, h1, by show Rep K (Mu (G.more x) σ e) H v d'; rw [mue]; exact h2⟩
  · obtain ⟨a, h1, h2, h3, h4⟩ := o.ow i l z d' (get_left h)
    have hi : i < σ.length := by rw [← hl]; exact (List.getElem?_eq_some_iff.mp h).1
    rw [List.getElem?_append_left hi] at h1
    refine ⟨a, h1, by show OwnAt K (Mu (G.more x) σ e) H a d'; rw [mue]; exact h2, ?_, h4⟩
    rintro (z' | rfl)
    · exact h3 z'
    · exact nx (.inr (.inr ⟨i, l, z, d', h, h1⟩))
  · obtain ⟨q, h1, h2⟩ := o.sr i (get_left h)
    have hi : i < σ.length := by rw [← hl]; exact (List.getElem?_eq_some_iff.mp h).1
    rw [List.getElem?_append_left hi] at h2
    exact ⟨q, h1, h2⟩
  · rcases z with z | rfl
    · exact o.mx a z
    · obtain ⟨ob, e⟩ := hoa.some_
      rw [e]; simp
  · obtain ⟨h1, h2, h3, h4, h5⟩ := o.ga q h
    refine ⟨h1, h2, h3, ?_, ?_⟩
    · rintro (z | z)
      · exact h4 z
      · exact hg ⟨q, h, .inl z.symm⟩
    · rintro (z | z)
      · exact h5 z
      · exact hg ⟨q, h, .inr z.symm⟩
/-- a step with the new object's slot beside, told without it -/
theorem drop_stp {c : Nat} {x dx : Addr} {d : D} {e' : List Sl} {src' : List Int × Int} {H1 H' : Hp} {p1 : PS} (s1 : StpE K G σ p H p1 H1) (hx : H1 x = none) (hd : H1 dx = none) (s2 : StpE K G (σ ++ [some (.ref x)]) ⟨p1.env ++ [.own false false (.obj c [])], p1.src⟩ (newH K H1 c x dx) ⟨e' ++ [.own false false d], src'⟩ H') :
    StpE K G σ p H ⟨e', src'⟩ H' ∧ Ok K (G.more x) σ H' ⟨e', src'⟩ ∧ OwnAt K (Mu (G.more x) σ e') H' x d ∧ ¬ Mu G σ e' x ∧ H x = none := by
  have hl1 := s1.ok.len
  have he : e'.length = p1.env.length := by
    have := s2.2.1
    simp at this
    omega
  have hl : e'.length = σ.length := he.trans hl1
  obtain ⟨k1, k2, k3⟩ := s2.ok.drop hl
  have sE : SameE p1.env e' := ⟨he.symm, fun i y h => by
    obtain ⟨z, h1, h2⟩ := s2.2.2 i y (get_left h)
    have hi : i < e'.length := by rw [he]; exact (List.getElem?_eq_some_iff.mp h).1
    rw [List.getElem?_append_left hi] at h1
    exact ⟨z, h1, h2⟩⟩
  have sm := newH_same (K := K) (c := c) hx hd
  have dom2 : ∀ a, H' a = none → H1 a = none := fun a h => sm.free (s2.1.dom a h)
  have okg : Ok K G σ H' ⟨e', src'⟩ := k1.less rfl fun a z => .inl z
  have fr2 : ∀ a ob, H1 a = some ob → ¬ Lm G σ p1.env a → H' a = some ob := fun a ob h n => by
    refine s2.1.fr a ob (sm a ob h) fun z => n ?_
    rcases z with z | ⟨i, l, d', h1, h2⟩
    · exact .inl z
    · rcases get_snoc h1 with h1 | ⟨rfl, h1⟩
      · have hi : i < σ.length := by rw [← hl1]; exact (List.getElem?_eq_some_iff.mp h1).1
        rw [List.getElem?_append_left hi] at h2
        exact .inr ⟨i, l, d', h1, h2⟩
      · rw [hl1] at h2
        simp at h2
        rw [← h2, hx] at h; cases h
  have st := StpE.mk' (p := p1) (H := H1) okg sE fr2 dom2
  exact ⟨s1.trans st, k1, k2, k3, s1.1.dom x hx⟩
end
end Py
set_option maxRecDepth 100000
set_option maxHeartbeats 200000
namespace Py
open PySem PySem.Spec PyProof.Rows L2

/-! ### C(e, ..) -/
section
variable {X : Cx} {CX : CXT} {k : Nat} {f C : Addr} {fd : FuncData} {ps : List Str} {sp : Sp} {E : L2.St → XK} {x : Str} {p pos : Pos} {e : Expr} {es : List Expr} {t : TA}
theorem run_makeE {pins : List (Addr × Obj)} {σ : L2.St} {H : Hp} {s : Shared} {Q : VK} {us : List Value} {vs : List V} {E : XK} (M : Mk X.K C f) (F : FnOk X.prog X.w X.K X.mg X.base CX k f fd ps sp) (hr : Room (k + 1) X.A) (hb : Binds X.K fd ps [])
    (hx : PassesAt CX X σ E) (I : Inv X pins σ H s) (r : Vals vs us)
    (h : ∀ x dx, H x = none → H dx = none → dx ≠ x → sp (.ref x :: vs) (upd (upd H dx (.own x)) x (.ins C dx [])) (fun v H2 => v = .non ∧ Q (.ref x) H2) E) :
    wpAny (model X.prog X.w) X.A (call (.ref C) us) (EP X pins σ Q) X.xe s := by
  have hq := h (s.heap.objs.size + 1) s.heap.objs.size (I.hok.fresh (Nat.le_succ _)) (I.hok.fresh (Nat.le_refl _)) (Nat.ne_of_lt (Nat.lt_succ_self _))
  have I2 := Inv.made (C := C) I
  have r2 : Vals (V.ref (s.heap.objs.size + 1) :: vs) (Value.ref (s.heap.objs.size + 1) :: us) := .cons rfl r
  have hl : ((Value.ref (s.heap.objs.size + 1) :: us) ++ []).length = ps.length := by
    have e := r2.length
    rw [F.len _ _ _ _ hq] at e
    rw [List.append_nil]
    exact e.symm
  have b := hb _ (Value.ref (s.heap.objs.size + 1) :: us) I2.kIn hl
  rw [List.append_nil] at b
  refine wpAny_call (make_map (f := f) I.kIn M.makes M.init (beq_iff_eq.mp M.fn) (codeAny_mono (F.run _ X.stack _ _ ⟨Value.ref (s.heap.objs.size + 1) :: us, []⟩ (Value.ref (s.heap.objs.size + 1) :: us) _ _ E (hr.make C us [])
    (I2.env0.make C us []) b r2 hq) fun r s' hq' => ?_))
  cases r with
  | error e => exact hx pins _ _ e s' I2 hq'
  | ok fl =>
    cases fl with
    | ret u =>
      obtain ⟨v, H', I3, rv, ev, q3⟩ := I2.after hq'
      subst ev
      exact ⟨rv, ⟨V.ref (s.heap.objs.size + 1), H', I3, rfl, q3⟩⟩
    | next => exact False.elim hq'
    | brk => exact False.elim hq'
    | cont => exact False.elim hq'
def tMakeE (C : Addr) (sp : Sp) (E : L2.St → XK) (t : TA) : TE := fun σ H Q => t σ H fun vs H1 => ∀ x dx, H1 x = none → H1 dx = none → dx ≠ x → sp (.ref x :: vs) (upd (upd H1 dx (.own x)) x (.ins C dx [])) (fun v H2 => v = .non ∧ Q (.ref x) H2) (E σ)
theorem pe_makeE (M : Mk X.K C f) (F : FnOk X.prog X.w X.K X.mg X.base CX k f fd ps sp) (hr : Room (k + 1) X.A) (hg : Gl X x) (hm : X.mg x = some (.ref C)) (hb : Binds X.K fd ps []) (hx : ∀ σ, PassesAt CX X σ (E σ))
    (ha : PA X (e :: es) t) (hdb : (x == ("__debug__" : Str)) = false) (he : starEach (e :: es) X.env = (false, eval e X.env) :: starEach es X.env) (hpl : (backTo pos (starEach es X.env)).any (·.1) = false) :
    PE X (.Call (.Name x p) (e :: es) [] pos) (tMakeE C sp E t) := by
  refine ⟨fun pins s σ H Q I h => ?_⟩
  refine wpAny_Call_Name_kw (ld_glob I hg hm ?_ hdb)
  refine PySem.W.callWith_K (h₀ := X.base) I.ok.mod.kin M.kp (thn (ha.run pos pins s σ H _ I h) fun us s1 ⟨vs, H1, I1, r, q⟩ => ⟨I1.kIn, ?_⟩) he hpl
  exact run_makeE M F hr hb (hx σ) I1 r q
end
/-- the state beside which a new object of class c stands -/
def extP (p : PS) (c : Nat) : PS := ⟨p.env ++ [.own false false (.obj c [])], p.src⟩
def lastD (env : List Sl) (n : Nat) : Option (Nat × List D × List Sl) := match env[n]? with
  | some (.own false false (.obj c ds)) => some (c, ds, env.take n)
  | _ => none
/-- x = C(e, ..) -/
def sNew (i c k : Nat) (sem : List Sl → List Int × Int → FR) (da : DnL) : SDn := fun p => onR (da p) fun xs p1 => match finC k sem (.bo p1.env.length :: xs) (extP p1 c) with
  | .ok (.sh .non) p2 => match lastD p2.env p1.env.length with
    | some (c', ds, env') => if c' = c then (match setSl i (.own false false (.obj c ds)) env' with
      | some e => .nx ⟨e, p2.src⟩
      | none => .bad) else .bad
    | none => .bad
  | .exc x p2 => .exc x ⟨p2.env.take p1.env.length, p2.src⟩
  | _ => .bad
/-- C(e, ..).m(): what it gives is shared -/
def dNewM (c k : Nat) (sem : List Sl → List Int × Int → FR) (k2 : Nat) (sem2 : List Sl → List Int × Int → FR) (da : DnL) : Dn := fun p => (da p).bind fun xs p1 => match finC k sem (.bo p1.env.length :: xs) (extP p1 c) with
  | .ok (.sh .non) p2 => (match lastD p2.env p1.env.length with
    | some (c', _, _) => if c' = c then (match finC k2 sem2 [.bo p1.env.length] p2 with
      | .ok (.sh d) p3 => .ok (.sh d) ⟨p3.env.take p1.env.length, p3.src⟩
      | .exc x p3 => .exc x ⟨p3.env.take p1.env.length, p3.src⟩
      | _ => .bad) else .bad
    | none => .bad)
  | .exc x p2 => .exc x ⟨p2.env.take p1.env.length, p2.src⟩
  | _ => .bad
section
variable {K : PySem.W.Frag} {cl : Nat → Addr} {W : WX} {G : Gh} {σ : L2.St} {H H1 H' : Hp} {p p1 : PS}
theorem ext_last {c : Nat} {x : Addr} {H2 : Hp} {q : PS} (s : StpE K G (σ ++ [some (.ref x)]) (extP p1 c) H2 q H') : ∃ d, q.env = q.env.take p1.env.length ++ [.own false false d] ∧ q.env[p1.env.length]? = some (.own false false d) := by
  obtain ⟨d, hd⟩ := s.2.own (i := p1.env.length) (l := false) (z := false) (d := .obj c []) (by unfold extP; simp)
  refine ⟨d, ?_, hd⟩
  have hlen : q.env.length = p1.env.length + 1 := by
    have := s.2.1
    unfold extP at this
    simp at this
    omega
  apply List.ext_getElem?
  intro i
  by_cases h : i < p1.env.length
  · rw [List.getElem?_append_left (by rw [List.length_take]; omega), List.getElem?_take, if_pos h]
  · by_cases h2 : i = p1.env.length
    · subst h2
      rw [hd, List.getElem?_append_right (by rw [List.length_take]; omega), List.length_take]
      rw [show p1.env.length - min p1.env.length q.env.length = 0 by omega]; rfl
    · rw [List.getElem?_eq_none (by omega), List.getElem?_eq_none (by rw [List.length_append, List.length_take, List.length_singleton]; omega)]
/-- the arguments beside the new object -/
theorem ext_args {c : Nat} {x dx : Addr} {us : List V} {xs : List Rv} (o : Ok K G σ H1 p1) (r : Paired (fun u v => RvOk K G σ p1 H1 H1 u v) us xs) (hx : H1 x = none) (hd : H1 dx = none) :
    Paired (fun u v => RvOk K G (σ ++ [some (.ref x)]) (extP p1 c) (newH K H1 c x dx) (newH K H1 c x dx) u v) (.ref x :: us) (.bo p1.env.length :: xs) := by
  have sm := newH_same (K := K) (c := c) hx hd
  have mm : ∀ a, Mu G (σ ++ [some (.ref x)]) (extP p1 c).env a → Mu G σ p1.env a ∨ H1 a = none := fun a z => by
    rcases (ext_mu o.len).mp z with z | rfl
    · exact .inl z
    · exact .inr hx
  refine .cons ⟨⟨false, false, .obj c [], by unfold extP; simp⟩, by rw [o.len]; simp⟩ ?_
  induction r with
  | nil => exact .nil
  | @cons u v us xs r t ih =>
    refine .cons ?_ ih
    cases v with
    | sh d => exact Rep.mono K (fun a ob h _ => sm a ob h) mm r
    | ow d =>
      obtain ⟨_, a, _, h0, _, hoa, _⟩ := r
      obtain ⟨ob, e⟩ := hoa.some_
      rw [h0] at e; cases e
    | bo i =>
      obtain ⟨⟨l, z, d, h1⟩, h2⟩ := r
      exact ⟨⟨l, z, d, get_left h1⟩, get_left h2⟩
    | sr => exact r
theorem putOw_stp {a : Addr} {d : D} {i : Nat} {p' : PS} {env' : List Sl} (s : StpE K G σ p H p' H') (h1 : H a = none) (h2 : ¬ Mu G σ p'.env a) (h3 : OwnAt K (Mu (G.more a) σ p'.env) H' a d) (h4 : Ok K (G.more a) σ H' p') (e : setSl i (.own false false d) p'.env = some env') : Stp K G σ p H (σ.set i (some (.ref a))) ⟨env', p'.src⟩ H' := by
  obtain ⟨k1, k2, k3, k4, k5⟩ := h4.putOw h2 e h3
  refine ⟨s.1.fr, s.1.dom, fun b z => ?_, fun b z => ?_, fun j z d hj => ?_, fun j l d hj => ?_, k1⟩
  · rcases k3 b z with z | rfl
    · exact s.1.lm b z
    · exact .inr h1
  · rcases k2 b z with z | rfl
    · exact s.1.mu b z
    · exact .inr h1
  · obtain ⟨d', hj⟩ := s.2.own hj
    exact k4 j z d' hj
  · obtain ⟨d', hj⟩ := s.2.own hj
    exact k5 j l d' hj
end
theorem newH_dom {K : PySem.W.Frag} {H : Hp} {c : Nat} {x dx : Addr} : ∀ a, newH K H c x dx a = none → H a = none := fun a z => by
  unfold newH at z
  by_cases h1 : a = x
  · subst h1; rw [upd_same] at z; cases z
  · rw [upd_ne h1] at z
    by_cases h2 : a = dx
    · subst h2; rw [upd_same] at z; cases z
    · rw [upd_ne h2] at z; exact z
section
variable {s : Sx} {T : Tab} {pos : Pos}
theorem vs_new (i c n : Nat) {x C : Str} {e : Expr} {es : List Expr} {da : DnL} {q qc p3 : Pos} (hN : s.N[i]? = some x) (hl : locB s x = true) (hC : nameC c = C) (hg : s.sc.names.lookup C = some .globalImplicit) (hob : T.ob c = true) (hmt : T.mt n = some (c, ("__init__" : Str))) (hk : n + 1 < T.k) (ha : VL s T (e :: es) da)
    (hdb : (C == ("__debug__" : Str)) = false := by decide) (he : ∀ env, starEach (e :: es) env = (false, eval e env) :: starEach es env := by intro _; rfl) (hpl : ∀ env, (backTo qc (starEach es env)).any (·.1) = false := by intro _; rfl)
    (hs : ∀ env, swapsWith (.Call (.Name C q) (e :: es) [] qc) (some (.Name x p3)) pos.line env = pure false := by intro _; rfl) : VS s T (.Assign [.Name x p3] (.Call (.Name C q) (e :: es) [] qc) pos) (sNew i c (T.ar n) (T.sem n) da) := fun X W cx tk => by
  obtain ⟨h1, h2⟩ := loc_of cx.1 hl
  have oc := cx.1.fac.ob c hob
  obtain ⟨hk1, f, fd, ps, hm, hb, hlen, F1⟩ := cx.1.fac.mt n c _ hmt
  have hm := mk_meth (by decide) hm
  have F := F1.mono (show n + 1 ≤ T.k - 1 by omega)
  have gl : Gl X C := by show X.env.scope.names.lookup C = _; rw [cx.1.sc]; exact hg
  have M : Mk X.K (clA X.K c) f := ⟨oc.makes, hm.at_, hm.fn, oc.kp⟩
  have hr : Room (T.k - 1 + 1) X.A := by rw [show T.k - 1 + 1 = T.k by omega]; exact cx.1.room
  refine PSt.of (ps_set (i := i) (by rw [cx.1.N]; exact cx.1.nd) (by rw [cx.1.N]; exact hN) h1 (pe_makeE M F hr gl (hC ▸ oc.glo) hb (fun σ => passAt tk σ) (ha X W cx.1 tk) hdb (he _) (hpl _)) (hs _) h2) fun D σ H h => ?_
  obtain ⟨G, p, o, h⟩ := h
  refine tsl_bind o h fun v1 p1 us H1 s1 r1 h => ?_
  intro x0 dx hx hd hne
  have ok2 : Ok X.K G (σ ++ [some (.ref x0)]) (newH X.K H1 c x0 dx) (extP p1 c) := s1.ok.ext (c := c) hx hd hne
  have ar := ext_args (c := c) s1.ok r1 hx hd
  have hsp : spF X.K (clK X.K) (T.ar n) (T.sem n) (.ref x0 :: us) (newH X.K H1 c x0 dx) (fun v H2 => v = .non ∧ D.nx (σ.set i (some (.ref x0))) H2) (L2.WE (fun cls d _ H => W cls d σ H) (σ ++ [some (.ref x0)])) := by
    refine finC_run ok2 ar ?_
    show Post X.K (clK X.K) (fun cls d _ H => W cls d σ H) G _ _ (extP p1 c) _ (finC (T.ar n) (T.sem n) (.bo p1.env.length :: v1) (extP p1 c))
    cases hfin : finC (T.ar n) (T.sem n) (.bo p1.env.length :: v1) (extP p1 c) with
    | bad => rw [hfin] at h; exact h.elim
    | exc k p2 =>
      rw [hfin] at h
      intro H' s2
      obtain ⟨d, e1, _⟩ := ext_last s2
      have s2' : StpE X.K G (σ ++ [some (.ref x0)]) ⟨p1.env ++ [.own false false (.obj c [])], p1.src⟩ (newH X.K H1 c x0 dx) ⟨p2.env.take p1.env.length ++ [.own false false d], p2.src⟩ H' := by rw [← e1]; exact s2
      obtain ⟨g1, _⟩ := drop_stp (.refl s1.ok) hx hd s2'
      exact (h σ H' g1.1).from newH_dom
    | ok v p2 =>
      rw [hfin] at h
      intro u H' s2 ru
      cases v with
      | ow d => exact h.elim
      | bo j => exact h.elim
      | sr => exact h.elim
      | sh dv =>
        cases dv with
        | non =>
          have hu : u = .non := by cases ru; rfl
          refine ⟨hu, ?_⟩
          obtain ⟨d, e1, e2⟩ := ext_last s2
          simp only [lastD, e2] at h
          cases d with
          | obj c' ds =>
            simp only at h
            by_cases hc : c' = c
            · subst hc
              rw [if_pos rfl] at h
              cases e3 : setSl i (.own false false (.obj c' ds)) (p2.env.take p1.env.length) with
              | none => rw [e3] at h; exact h.elim
              | some env' =>
                rw [e3] at h
                have s2' : StpE X.K G (σ ++ [some (.ref x0)]) ⟨p1.env ++ [.own false false (.obj c' [])], p1.src⟩ (newH X.K H1 c' x0 dx) ⟨p2.env.take p1.env.length ++ [.own false false (.obj c' ds)], p2.src⟩ H' := by rw [← e1]; exact s2
                obtain ⟨g1, g2, g3, g4, g5⟩ := drop_stp (.refl s1.ok) hx hd s2'
                exact h _ _ (putOw_stp (p' := ⟨p2.env.take p1.env.length, p2.src⟩) g1 g5 g4 g3 g2 e3)
            · rw [if_neg hc] at h; exact h.elim
          | _ => exact h.elim
        | _ => exact h.elim
  exact hsp
theorem v_newM (c n n2 : Nat) {C m : Str} {e : Expr} {es : List Expr} {da : DnL} {q qc apos : Pos} {pl : Env → Sem Bool} (hC : nameC c = C) (hg : s.sc.names.lookup C = some .globalImplicit) (hob : T.ob c = true) (hmt : T.mt n = some (c, ("__init__" : Str))) (hk : n + 1 < T.k) (hmt2 : T.mt n2 = some (c, m)) (hnf : (flds c).contains m = false) (ha : VL s T (e :: es) da)
    (hprop : propN m = false := by decide) (hdb : (C == ("__debug__" : Str)) = false := by decide) (he : ∀ env, starEach (e :: es) env = (false, eval e env) :: starEach es env := by intro _; rfl) (hpl : ∀ env, (backTo qc (starEach es env)).any (·.1) = false := by intro _; rfl)
    (ht : ∀ env, eval (.Call (.Attribute (.Call (.Name C q) (e :: es) [] qc) m apos) [] [] pos) env = (do
      let ov ← eval (.Call (.Name C q) (e :: es) [] qc) env
      standAt apos.atName
      let (f, first) ← holding [ov] (getMethod ov m (pl env))
      callWith pos f first (backTo pos (starEach [] env)) (backToKw pos (keywordEach [] env))) := by intro _; rfl) :
    VE s T (.Call (.Attribute (.Call (.Name C q) (e :: es) [] qc) m apos) [] [] pos) (dNewM c (T.ar n) (T.sem n) (T.ar n2) (T.sem n2) da) := fun X W cx tk => by
  have oc := cx.fac.ob c hob
  obtain ⟨hk1, f, fd, ps, hm, hb, hlen, F1⟩ := cx.fac.mt n c _ hmt
  have hm := mk_meth (by decide) hm
  have F := F1.mono (show n + 1 ≤ T.k - 1 by omega)
  obtain ⟨hk2, f2, fd2, ps2, hm2, hb2, hlen2, F2⟩ := cx.fac.mt n2 c m hmt2
  have hm2 := mk_meth hprop hm2
  have gl : Gl X C := by show X.env.scope.names.lookup C = _; rw [cx.sc]; exact hg
  have M : Mk X.K (clA X.K c) f := ⟨oc.makes, hm.at_, hm.fn, oc.kp⟩
  have hr : Room (T.k - 1 + 1) X.A := by rw [show T.k - 1 + 1 = T.k by omega]; exact cx.room
  refine PE.of (pe_methE0 (pe_makeE M F hr gl (hC ▸ oc.glo) hb (fun σ => passAt tk σ) (ha X W cx tk) hdb (he _) (hpl _)) oc.cls hm2 (F2.mono hk2) cx.room hb2 (fun σ => passAt tk σ) (ht _)) fun σ H Q h => ?_
  obtain ⟨G, p, o, h⟩ := h
  refine tl_bind o h fun v1 p1 us H1 s1 r1 h => ?_
  intro x0 dx hx hd hne
  have ok2 : Ok X.K G (σ ++ [some (.ref x0)]) (newH X.K H1 c x0 dx) (extP p1 c) := s1.ok.ext (c := c) hx hd hne
  have ar := ext_args (c := c) s1.ok r1 hx hd
  have hgo : ∀ Q', Post X.K (clK X.K) (fun cls d _ H => W cls d σ H) G (σ ++ [some (.ref x0)]) (newH X.K H1 c x0 dx) (extP p1 c) Q' (finC (T.ar n) (T.sem n) (.bo p1.env.length :: v1) (extP p1 c)) → spF X.K (clK X.K) (T.ar n) (T.sem n) (.ref x0 :: us) (newH X.K H1 c x0 dx) Q' (L2.WE W σ) := fun Q' hp => finC_run (W := fun cls d _ H => W cls d σ H) ok2 ar hp
  refine hgo _ ?_
  cases hfin : finC (T.ar n) (T.sem n) (.bo p1.env.length :: v1) (extP p1 c) with
  | bad => rw [hfin] at h; exact h.elim
  | exc k p2 =>
    rw [hfin] at h
    intro H' s2
    obtain ⟨d, e1, _⟩ := ext_last s2
    have s2' : StpE X.K G (σ ++ [some (.ref x0)]) ⟨p1.env ++ [.own false false (.obj c [])], p1.src⟩ (newH X.K H1 c x0 dx) ⟨p2.env.take p1.env.length ++ [.own false false d], p2.src⟩ H' := by rw [← e1]; exact s2
    obtain ⟨g1, _⟩ := drop_stp (.refl s1.ok) hx hd s2'
    exact (h H' g1).from newH_dom
  | ok v p2 =>
    rw [hfin] at h
    intro u H' s2 ru
    cases v with
    | ow d => exact h.elim
    | bo j => exact h.elim
    | sr => exact h.elim
    | sh dv =>
      cases dv with
      | non =>
        have hu : u = .non := by cases ru; rfl
        refine ⟨hu, ?_⟩
        obtain ⟨d, e1, e2⟩ := ext_last s2
        simp only at h
        have hsx : (σ ++ [some (V.ref x0)])[p1.env.length]? = some (some (.ref x0)) := by rw [s1.ok.len]; simp
        have xo : Ok X.K G (σ ++ [some (.ref x0)]) H' p2 := s2.ok
        obtain ⟨b, hb0, hoa, _⟩ := xo.ow p1.env.length false false d e2
        rw [hsx] at hb0; cases hb0
        have two : ∀ (H3 : Hp) (p3 : PS), StpE X.K G (σ ++ [some (.ref x0)]) p2 H' p3 H3 → ∃ d3, p3.env = p3.env.take p1.env.length ++ [.own false false d3] ∧ StpE X.K G σ p1 H1 ⟨p3.env.take p1.env.length, p3.src⟩ H3 := fun H3 p3 s3 => by
          have s4 := s2.trans s3
          obtain ⟨d3, f1, _⟩ := ext_last s4
          have s4' : StpE X.K G (σ ++ [some (.ref x0)]) ⟨p1.env ++ [.own false false (.obj c [])], p1.src⟩ (newH X.K H1 c x0 dx) ⟨p3.env.take p1.env.length ++ [.own false false d3], p3.src⟩ H3 := by rw [← f1]; exact s4
          exact ⟨d3, f1, (drop_stp (.refl s1.ok) hx hd s4').1⟩
        simp only [lastD, e2] at h
        cases d with
        | obj c' ds =>
          simp only at h
          by_cases hc : c' = c
          · subst hc
            rw [if_pos rfl] at h
            obtain ⟨dx', fs, g1, g2, g3⟩ := hoa
            refine ⟨x0, dx', fs, rfl, g1, no_field (K := X.K) g2 hnf, ?_⟩
            have hgo2 : ∀ Q', Post X.K (clK X.K) (fun cls d _ H => W cls d σ H) G (σ ++ [some (.ref x0)]) H' p2 Q' (finC (T.ar n2) (T.sem n2) [.bo p1.env.length] p2) → spF X.K (clK X.K) (T.ar n2) (T.sem n2) [.ref x0] H' Q' (L2.WE W σ) := fun Q' hp =>
              finC_run (W := fun cls d _ H => W cls d σ H) (us := [.ref x0]) (xs := [.bo p1.env.length]) xo (.cons (show RvOk X.K G (σ ++ [some (.ref x0)]) p2 H' H' (.ref x0) (.bo p1.env.length) from ⟨⟨false, false, _, e2⟩, hsx⟩) .nil) hp
            refine hgo2 _ ?_
            cases hfin2 : finC (T.ar n2) (T.sem n2) [.bo p1.env.length] p2 with
            | bad => rw [hfin2] at h; exact h.elim
            | exc k p3 =>
              rw [hfin2] at h
              intro H3 s3
              obtain ⟨d3, _, f2⟩ := two H3 p3 s3
              exact (h H3 f2).from fun a z => newH_dom a (s2.1.dom a z)
            | ok v3 p3 =>
              rw [hfin2] at h
              intro u3 H3 s3 r3
              cases v3 with
              | ow d => exact h.elim
              | bo j => exact h.elim
              | sr => exact h.elim
              | sh dv =>
                obtain ⟨d3, f1, f2⟩ := two H3 p3 s3
                refine h u3 H3 f2 ?_
                show Rep X.K (Mu G σ (p3.env.take p1.env.length)) H3 u3 dv
                have r3 : Rep X.K (Mu G (σ ++ [some (.ref x0)]) p3.env) H3 u3 dv := r3
                refine Rep.mono X.K (fun _ _ e _ => e) (fun a z => .inl ?_) r3
                rw [f1]
                exact (ext_mu (p := ⟨p3.env.take p1.env.length, p3.src⟩) f2.ok.len).mpr (.inl z)
          · rw [if_neg hc] at h; exact h.elim
        | _ => exact h.elim
      | _ => exact h.elim
end
end Py
set_option maxRecDepth 100000
set_option maxHeartbeats 2000000
namespace Py
open PySem PySem.Spec PyProof.Rows L2
/-! ### properties, len of an own object, *x in a display, three comparisons, count of a text -/
/-- x.m, a property -/
def dProp (c i k : Nat) (sem : List Sl → List Int × Int → FR) : Dn := fun p => match p.env[i]? with
  | some (.own _ _ (.obj c' _)) => if c' = c then (match finC k sem [.bo i] p with
    | .ok v p2 => .ok v p2
    | _ => .bad) else .bad
  | _ => .bad
/-- len(x), x an own object -/
def dLenO (c i k : Nat) (sem : List Sl → List Int × Int → FR) : Dn := fun p => match p.env[i]? with
  | some (.own _ _ (.obj c' _)) => if c' = c then (match finC k sem [.bo i] p with
    | .ok (.sh (.int n)) p2 => if 0 ≤ n ∧ n < 1000000000 then .ok (.sh (.int n)) p2 else .bad
    | _ => .bad) else .bad
  | _ => .bad
def WN : WX := fun _ _ _ _ => False
section
variable {X : Cx} {k : Nat} {C f : Addr} {fd : FuncData} {ps : List Str} {sp : Sp}
theorem len_inst {prog : Program} {w : World} {A : Around} {E : Value → Shared → Prop} {s : Shared} {K : PySem.W.Frag} {x : Addr} {ox : Obj} {od : Option Obj} {Q : Value → Shared → Prop} (hX : K.In s.heap) (J : PySem.W.InstAt s.heap x ox C od)
    (ha : PySem.W.findIn K (.ref C) "__len__" = some (some (.ref f))) (hi : PySem.W.isFn K (.ref f) = true) (hc : wpAny (model prog w) A.in1 (call (.ref f) [.ref x]) (PySem.W.LenBack Q) E s) : wpAny (model prog w) A (call (.builtin "len") [.ref x]) Q E s := by
  have hc2 : wpAny (model prog w) A.in1 (call (.ref f) [.ref x]) (fun r s' => ∃ m u, r = Value.int m u ∧ (0 ≤ m ∧ m < 2 ^ 63) ∧ Q (.int m s'.toks) { s' with toks := s'.toks + 1 }) E s := wpAny_mono hc (fun r s' z => by
    cases r <;> first | exact z.elim | exact ⟨_, _, rfl, z.1, z.2⟩) fun _ _ z => z
  refine Calls.call_function_entry kind_len plain_len entry_len (args_len1 _) ?_
  unfold Builtin.«len»
  refine wpAny_bind (m := oneArg "len" _) (wpAny_pure ?_)
  refine wpAny_bind (m := callSpecial? (.ref x) (Str.ofString "__len__")) (PySem.W.special_fn hX J ha (beq_iff_eq.mp hi) (wpAny_mono hc2 (fun r s' ⟨m, u, er, hm, hq⟩ => ?_) fun _ _ z => z))
  subst er
  refine wpAny_bind (wpAny_holding (wpAny_pure (wpAny_bind (wpAny_letGo ?_))))
  show wpAny _ _ (if m < 0 then _ else _) _ _ _
  rw [if_neg (Int.not_lt.mpr hm.1)]
  show wpAny _ _ (if m ≥ 2 ^ 63 then _ else _) _ _ _
  rw [if_neg (Int.not_le.mpr hm.2)]
  exact wpAny_bind (wpAny_mkInt (wpAny_pure ⟨_, rfl, hq⟩))
def rLenO (C : Addr) (sp : Sp) : List V → Hp → VK → Prop := fun xs H Q => ∃ a dx fs, xs = [V.ref a] ∧ H a = some (.ins C dx fs) ∧ sp [V.ref a] H (fun v H2 => ∃ n : Int, v = .int n ∧ 0 ≤ n ∧ n < 1000000000 ∧ Q (.int n) H2) (fun _ _ _ => False)
theorem call_lenO (hm : Meth X.K C "__len__" f) (F : FnOk X.prog X.w X.K X.mg X.base (L2.CX X.prog X.w) k f fd ps sp) (hr : Room (k + 1) X.A) (hb : Binds X.K fd ps []) : CallR X (.builtin "len") (rLenO C sp) := by
  intro pins s σ H xs us Q I rv h
  obtain ⟨a, dx, fs, rfl, ea, h⟩ := h
  obtain ⟨u, rfl, ru⟩ := vals1 rv
  obtain rfl : u = Value.ref a := ru
  obtain ⟨mA, O, _, _, _, _⟩ := ins_get I.hok ea
  obtain ⟨od, J, _⟩ := O.look
  have hl : ([Value.ref a] ++ []).length = ps.length := by
    rw [← F.len _ _ _ _ h]
    rfl
  refine len_inst (K := X.K) I.kIn J hm.at_ hm.fn (wpAny_call (codeAny_mono (F.run X.A.in1 X.stack s H ⟨[.ref a], []⟩ [.ref a] [.ref a] _ (fun _ _ _ => False) hr.in1 I.env0.in1 (hb _ [.ref a] I.kIn hl) (.cons rfl .nil) h) fun r s' hq => ?_))
  cases r with
  | error er =>
    obtain ⟨_, _, _, _, _, _, _, _, _, _, _, _, z⟩ := hq
    exact z.elim
  | ok fl =>
    cases fl with
    | ret u =>
      obtain ⟨v, H', I3, rv3, n, rfl, h0, h1, q3⟩ := I.after hq
      obtain ⟨t, rfl⟩ := _root_.id rv3
      exact ⟨⟨h0, by omega⟩, .int n, H', I3.tok _, ⟨_, rfl⟩, q3⟩
    | next => exact False.elim hq
    | brk => exact False.elim hq
    | cont => exact False.elim hq
end
section
variable {s : Sx} {T : Tab} {pos : Pos}
theorem v_prop (n c i : Nat) {x m : Str} {q : Pos} (hN : s.N[i]? = some x) (hv : visB s.sc x = true) (hob : T.ob c = true) (hmt : T.mt n = some (c, m)) (hk : n + 1 < T.k) (hprop : propN m = true)
    (hd : (x == ("__debug__" : Str)) = false := by decide) (hcd : (x == ("__classdict__" : Str)) = false := by decide) (hb : ∀ env, attributeBase (.Name x q) m env (eval (.Name x q) env) = eval (.Name x q) env := by intro _; rfl) :
    VE s T (.Attribute (.Name x q) m pos) (dProp c i (T.ar n) (T.sem n)) := fun X W cx tk => by
  have oc := cx.fac.ob c hob
  obtain ⟨hk1, f, fd, ps, hm, hbi, hl, F1⟩ := cx.fac.mt n c m hmt
  obtain ⟨pp, hp⟩ := mk_prop hprop hm
  have F := F1.mono (show n + 1 ≤ T.k - 1 by omega)
  have hr : Room (T.k - 1 + 1) X.A := by rw [show T.k - 1 + 1 = T.k by omega]; exact cx.room
  refine PE.of (pe_prop (E := fun _ _ _ => False) (dvs := []) (ds := []) (pe_var (i := i) (by rw [cx.N]; exact hN) (by rw [cx.sc]; exact vis_of hv) hd hcd) oc.cls hp F hr hbi .nil (fun pins σ H s e s' I h => ?_) (hb _)) fun σ H Q h => ?_
  · obtain ⟨_, _, _, _, _, _, _, _, _, _, _, _, z⟩ := h
    exact z.elim
  · obtain ⟨G, p, o, h⟩ := h
    unfold dProp at h
    split at h
    · rename_i l z c' ds e1
      split at h
      · rename_i hc
        subst hc
        obtain ⟨a, h1, ⟨dx, fs, g1, g2, g3⟩, _⟩ := o.ow i l z _ e1
        cases hfin : finC (T.ar n) (T.sem n) [.bo i] p with
        | ok v p2 =>
          rw [hfin] at h
          have h' : Post X.K (clK X.K) WN G σ H p Q (finC (T.ar n) (T.sem n) [.bo i] p) := by rw [hfin]; exact h
          exact ⟨.ref a, h1, a, dx, fs, rfl, g1, finC_run (us := [.ref a]) (xs := [.bo i]) o (.cons (show RvOk X.K G σ p H H (.ref a) (.bo i) from ⟨⟨l, z, _, e1⟩, h1⟩) .nil) h'⟩
        | exc c p2 => rw [hfin] at h; exact h.elim
        | bad => rw [hfin] at h; exact h.elim
      · exact h.elim
    · exact h.elim
theorem v_lenO (n c i : Nat) {x : Str} {q qx : Pos} (hN : s.N[i]? = some x) (hv : visB s.sc x = true) (hob : T.ob c = true) (hmt : T.mt n = some (c, ("__len__" : Str))) (hk : n + 1 < T.k) (hg : s.sc.names.lookup ("len" : Str) = some .globalImplicit) (hf : T.free "len" = true)
    (hd : (x == ("__debug__" : Str)) = false := by decide) (hcd : (x == ("__classdict__" : Str)) = false := by decide) (hs : ∀ env, starEach [.Name x qx] env = [(false, eval (.Name x qx) env)] := by intro _; rfl) :
    VE s T (.Call (.Name "len" q) [.Name x qx] [] pos) (dLenO c i (T.ar n) (T.sem n)) := fun X W cx tk => by
  have oc := cx.fac.ob c hob
  obtain ⟨hk1, f, fd, ps, hm, hbi, hl, F1⟩ := cx.fac.mt n c _ hmt
  have hm := mk_meth (by decide) hm
  have F := F1.mono (show n + 1 ≤ T.k - 1 by omega)
  have hr : Room (T.k - 1 + 1) X.A := by rw [show T.k - 1 + 1 = T.k by omega]; exact cx.room
  refine PE.of (pe_callB (call_lenO (C := clA X.K c) hm F hr hbi) (by show X.env.scope.names.lookup ("len" : Str) = _; rw [cx.sc]; exact hg) (cx.fac.free _ hf) (by decide +kernel) (pa_cons (pe_var (i := i) (by rw [cx.N]; exact hN) (by rw [cx.sc]; exact vis_of hv) hd hcd) pa_nil (hs _)) (by decide) (by decide) (hs _) rfl) fun σ H Q h => ?_
  obtain ⟨G, p, o, h⟩ := h
  unfold dLenO at h
  split at h
  · rename_i l z c' ds e1
    split at h
    · rename_i hc
      subst hc
      obtain ⟨a, h1, ⟨dx, fs, g1, g2, g3⟩, _⟩ := o.ow i l z _ e1
      split at h
      · rename_i m p2 hfin
        split at h
        · rename_i hm2
          have h' : Post X.K (clK X.K) WN G σ H p (fun v H2 => ∃ n : Int, v = .int n ∧ 0 ≤ n ∧ n < 1000000000 ∧ Q (.int n) H2) (finC (T.ar n) (T.sem n) [.bo i] p) := by
            rw [hfin]
            intro u H' st r
            cases (show Rep X.K _ H' u (.int m) from r)
            exact ⟨m, rfl, hm2.1, hm2.2, h (.int m) H' st r⟩
          exact ⟨.ref a, h1, a, dx, fs, rfl, g1, finC_run (us := [.ref a]) (xs := [.bo i]) o (.cons (show RvOk X.K G σ p H H (.ref a) (.bo i) from ⟨⟨l, z, _, e1⟩, h1⟩) .nil) h'⟩
        · exact h.elim
      · exact h.elim
    · exact h.elim
  · exact h.elim
theorem repL_pair {K : PySem.W.Frag} {G : Gh} {σ : L2.St} {H : Hp} {p : PS} : ∀ {xs : List V} {ds : List D}, RepL K (Mu G σ p.env) H xs ds → Paired (fun u v => RvOk K G σ p H H u v) xs (ds.map .sh)
  | _, _, .nil => .nil
  | _, _, .cons r t => .cons r (repL_pair t)
theorem pair_step {K : PySem.W.Frag} {G : Gh} {σ : L2.St} {H H' : Hp} {p p' : PS} (s : StpE K G σ p H p' H') : ∀ {xs : List V} {ds : List D}, Paired (fun u v => RvOk K G σ p H H u v) xs (ds.map .sh) → Paired (fun u v => RvOk K G σ p' H' H' u v) xs (ds.map .sh)
  | _, [], .nil => .nil
  | _, d :: _, .cons r t => .cons (RvOk.step (v := .sh d) r s) (pair_step s t)
theorem pair_app {R : V → Rv → Prop} : ∀ {xs ys : List V} {vs ws : List Rv}, Paired R xs vs → Paired R ys ws → Paired R (xs ++ ys) (vs ++ ws)
  | _, _, _, _, .nil, q => q
  | _, _, _, _, .cons r t, q => .cons r (pair_app t q)
def dStar (de : Dn) (dr : DnL) : DnL := fun p => (de p).bind fun v p1 => match v.soft with
  | .sh (.tup ds) => (dr p1).bind fun xs p2 => .ok (ds.map .sh ++ xs) p2
  | _ => .bad
theorem vl_star {e : Expr} {es : List Expr} {de : Dn} {dr : DnL} {q : Pos} (he : VE s T e de) (hr : VL s T es dr) (hs : ∀ env, starEach (.Starred e q :: es) env = (true, eval e env) :: starEach es env := by intro _; rfl) : VL s T (.Starred e q :: es) (dStar de dr) := fun X W c tk => PA.of (StX.pa_star (he X W c tk) (hr X W c tk) (hs _)) fun σ H Q h => by
  obtain ⟨G, p, o, h⟩ := h
  refine te_bindL o h fun v p1 u H1 s1 r1 h => ?_
  have r1 := r1.soft
  split at h
  · rename_i ds e1
    rw [e1] at r1
    obtain ⟨a, xs, rfl, _, hsq, hrl⟩ := Rdb.tup_ (.inl (show Rep X.K (Mu G σ p1.env) H1 u (.tup ds) from r1))
    refine ⟨a, xs, rfl, .inl hsq, ?_⟩
    refine tl_bindL s1.ok h fun v2 p2 us H2 s2 r2 h => ?_
    exact h (xs ++ us) H2 (.refl s2.ok) (pair_app (pair_step s2 (repL_pair hrl)) r2)
  · exact h.elim
end
/-! ### three comparisons in a test -/
section
variable {X : Cx} {a b c d : Expr} {ta tb tc td : TE} {pos : Pos}
def tChain3 (r r' r'' : R2) (ta tb tc td : TE) : TE := fun σ H Q => ta σ H fun x H1 => tb σ H1 fun y H2 => r x y H2 fun z H3 => ∃ k, z = .bl k ∧
  (if k = true then tc σ H3 fun w H4 => r' y w H4 fun z H5 => ∃ k, z = .bl k ∧ (if k = true then td σ H5 fun v H6 => r'' w v H6 Q else Q (.bl false) H5) else Q (.bl false) H3)
theorem pt_chain3 {op op' op'' : CmpOp} {r r' r'' : R2} (ho : OpR X (compareOp op) r) (ho' : OpR X (compareOp op') r') (ho'' : OpR X (compareOp op'') r'') (ha : PE X a ta) (hb : PE X b tb) (hc : PE X c tc) (hd : PE X d td) (hm : lastMarks [op, op', op''] [b, c, d] = false) :
    PT X (.Compare a [op, op', op''] [b, c, d] pos) (tTest (tChain3 r r' r'' ta tb tc td)) := by
  refine ⟨fun pins s σ H Q I h => ?_⟩
  refine isTrue_chain (thn (ha.run pins s σ H _ I h) fun v s1 ⟨x, H1, I1, r1, q1⟩ => test_link (thn (hb.run pins s1 σ H1 _ I1 q1) fun u s2 ⟨y, H2, I2, r2, q2⟩ => thn (ho pins s2 σ H2 x y v u _ I2 r1 r2 q2) fun e1 s3 ⟨z, H3, I3, r3, k, ez, q3⟩ => ?_)) hm
  subst ez
  cases r3
  refine wpAny_truthy_bool ?_
  cases k with
  | false =>
    obtain ⟨_, ek, q4⟩ := q3
    cases ek
    exact ite_ff ⟨H3, I3, q4⟩
  | true =>
    refine ite_tt (test_link (thn (hc.run pins s3 σ H3 _ I3 q3) fun w s4 ⟨y2, H4, I4, r4, q4⟩ => thn (ho' pins s4 σ H4 y y2 u w _ I4 r2 r4 q4) fun e2 s5 ⟨z2, H5, I5, r5, k2, ez2, q5⟩ => ?_))
    subst ez2
    cases r5
    refine wpAny_truthy_bool ?_
    cases k2 with
    | false =>
      obtain ⟨_, ek, q6⟩ := q5
      cases ek
      exact ite_ff ⟨H5, I5, q6⟩
    | true =>
      refine ite_tt (test_last (thn (hd.run pins s5 σ H5 _ I5 q5) fun w2 s6 ⟨y3, H6, I6, r6, q6⟩ => thn (ho'' pins s6 σ H6 y2 y3 w w2 _ I6 r4 r6 q6) fun e3 s7 ⟨z3, H7, I7, r7, k3, ez3, q7⟩ => ?_))
      subst ez3
      cases r7
      exact wpAny_truthy_bool ⟨H7, I7, q7⟩
end
theorem fin2_bl {K : PySem.W.Frag} {cl : Nat → Addr} {W : WX} {G : Gh} {σ : L2.St} {H H0 H0' : Hp} {p : PS} {Q Q' : VK} {f : D → D → Option Rv} {r : R2} {x y : V} {v w : Rv} {F : Rv → PS → R Rv} (h2 : Op2 K f r) (hb : ∀ a b v, f a b = some v → ∃ k, v = .sh (.bl k)) (o : Ok K G σ H p) (rx : RvOk K G σ p H0 H x v) (ry : RvOk K G σ p H0' H y w)
    (h : Post K cl W G σ H p Q ((fin2 f v w p).bind F)) (k : ∀ b H3, StpE K G σ p H p H3 → Post K cl W G σ H3 p Q (F (.sh (.bl b)) p) → Q' (.bl b) H3) : r x y H Q' := by
  refine fin2_run (f := f) (cl := cl) (W := W) h2 o rx ry ?_
  cases e : fin2 f v w p with
  | bad => rw [e] at h; exact h.elim
  | exc c q =>
    unfold fin2 at e
    split at e
    · unfold give at e; split at e <;> cases e
    · cases e
  | ok z p3 =>
    rw [e] at h
    have hz : (∃ k, z = .sh (.bl k)) ∧ p3 = p := by
      unfold fin2 at e
      split at e
      · unfold give at e
        split at e
        · rename_i e3
          cases e
          exact ⟨hb _ _ _ e3, rfl⟩
        · cases e
      · cases e
    obtain ⟨⟨b, rfl⟩, rfl⟩ := hz
    intro u3 H3 s3 r3
    cases (show Rep K _ H3 u3 (.bl b) from r3)
    exact k b H3 s3 (Post.from s3 h)
def dChain3 (f g e : D → D → Option Rv) (da db dc dd : Dn) : Dn := fun p => (da p).bind fun x p1 => (db p1).bind fun y p2 => (fin2 f x.soft y p2).bind fun z p3 => onB z p3 (fun p3 => (dc p3).bind fun w p4 => (fin2 g y.soft w p4).bind fun z p5 => onB z p5 (fun p5 => (dd p5).bind fun v p6 => fin2 e w.soft v p6) (fun p5 => .ok (.sh (.bl false)) p5)) (fun p3 => .ok (.sh (.bl false)) p3)
theorem chain3_imp {K : PySem.W.Frag} {cl : Nat → Addr} {W : WX} {f g e : D → D → Option Rv} {r r' r'' : R2} (h2 : Op2 K f r) (h3 : Op2 K g r') (h4 : Op2 K e r'') (hb : ∀ a b v, f a b = some v → ∃ k, v = .sh (.bl k)) (hb' : ∀ a b v, g a b = some v → ∃ k, v = .sh (.bl k)) {da db dc dd : Dn} {σ : L2.St} {H : Hp} {Q : VK} (h : tE K cl W (dChain3 f g e da db dc dd) σ H Q) : tChain3 r r' r'' (tE K cl W da) (tE K cl W db) (tE K cl W dc) (tE K cl W dd) σ H Q := by
  obtain ⟨G, p, o, h⟩ := h
  refine te_bind o h fun v p1 u H1 s1 r1 h => ?_
  refine te_bind s1.ok h fun v2 p2 u2 H2 s2 r2 h => ?_
  refine fin2_bl h2 hb s2.ok (r1.soft.step s2) r2 h fun b H3 s3 h => ⟨b, rfl, ?_⟩
  cases b with
  | false => exact ok_bl s3.ok h
  | true =>
    refine te_bind s3.ok h fun v4 p4 u4 H4 s4 r4 h => ?_
    refine fin2_bl h3 hb' s4.ok ((r2.soft.step s3).step s4) r4 h fun b H5 s5 h => ⟨b, rfl, ?_⟩
    cases b with
    | false => exact ok_bl s5.ok h
    | true =>
      refine te_bind s5.ok h fun v6 p6 u6 H6 s6 r6 h => ?_
      exact fin2_run h4 s6.ok ((r4.soft.step s5).step s6) r6 h
section
variable {s : Sx} {T : Tab} {pos : Pos}
theorem t_chain3 {a b c d : Expr} {op op' op'' : CmpOp} {f g e : D → D → Option Rv} {r r' r'' : PySem.W.Frag → R2} {da db dc dd : Dn} (ho : ∀ X, CtxOk s T X → OpR X (compareOp op) (r X.K)) (h2 : ∀ K, Op2 K f (r K)) (hb1 : ∀ a b v, f a b = some v → ∃ k, v = .sh (.bl k))
    (ho' : ∀ X, CtxOk s T X → OpR X (compareOp op') (r' X.K)) (h3 : ∀ K, Op2 K g (r' K)) (hb2 : ∀ a b v, g a b = some v → ∃ k, v = .sh (.bl k)) (ho'' : ∀ X, CtxOk s T X → OpR X (compareOp op'') (r'' X.K)) (h4 : ∀ K, Op2 K e (r'' K)) (ha : VE s T a da) (hb : VE s T b db) (hc : VE s T c dc) (hd : VE s T d dd) (hm : lastMarks [op, op', op''] [b, c, d] = false) :
    VT s T (.Compare a [op, op', op''] [b, c, d] pos) (dChain3 f g e da db dc dd) :=
  fun X W cx tk => PT.of (pt_chain3 (ho X cx) (ho' X cx) (ho'' X cx) (ha X W cx tk) (hb X W cx tk) (hc X W cx tk) (hd X W cx tk) hm) fun σ H Q h => chain3_imp (h2 X.K) (h3 X.K) (h4 X.K) hb1 hb2 h
/-! ### x.count(y), texts -/
noncomputable def opSCnt : D → D → Option Rv
  | .str x, .str y => some (.sh (.int (Txt.count (S x) (S y))))
  | _, _ => none
theorem v_scount {o e : Expr} {do_ de : Dn} {apos : Pos} (ho : VE s T o (do_)) (he : VE s T e de) (hs : ∀ env, starEach [e] env = [(false, eval e env)] := by intro _; rfl) (hbase : ∀ env, attributeBase o "count" env (eval o env) = eval o env := by intro _; rfl) (hline : (apos.endLine == pos.line) = true := by rfl) :
    VE s T (.Call (.Attribute o "count" apos) [e] [] pos) (dM1 opSCnt do_ de) := by
  refine v_m1 (r := fun K x xs H Q => ∃ a b, x = .str a ∧ xs = [.str b] ∧ Q (.int (Txt.count a b)) H)
    (fun X to te h1 h2 => pe_m1 PySem.F.slot_str_count PySem.F.type_str_count mt_count h1 h2 (hs _) (hbase _) hline) (fun K M H x y a b v Q dom ra rb h => ?_) ho he
  cases a <;> cases b <;> simp only [opSCnt] at h <;> (try cases h)
  exact ⟨rfl, fun q => ⟨_, _, ra.str_, by rw [rb.str_], res_int q⟩⟩
end
end Py
set_option maxRecDepth 100000
set_option maxHeartbeats 4000000
namespace Pg
open PySem PySem.Spec PyProof.Rows L2 Py
abbrev N_law_draw : List Str := drawSl
noncomputable abbrev sem_law_draw : List Sl → List Int × Int → FR := semDraw
abbrev N_law_pick : List Str := ["source", "values"]
noncomputable def den_law_pick : SDn := sRet (d2 opIx (dVar 1) (dCall 2 sem_law_draw (dCons (dVar 0) (dCons (dN opLen (dCons (dVar 1) (dNil))) (dNil)))))
noncomputable def sem_law_pick : List Sl → List Int × Int → FR := semD 2 den_law_pick
abbrev N_law_word : List Str := ["source", "alphabet", "least", "most", "k"]
noncomputable def den_law_word : SDn := sRet (dM1 opJoin (dC (.str [])) (dComp [4] (dRg1 (d2 opAdd (dVar 2) (dCall 2 sem_law_draw (dCons (dVar 0) (dCons (d2 opAdd (d2 opSub (dVar 3) (dVar 2)) (dC (.int 1))) (dNil)))))) (gN 4) (dC (.bl true)) (dCall 2 sem_law_pick (dCons (dVar 0) (dCons (dVar 1) (dNil))))))
noncomputable def sem_law_word : List Sl → List Int × Int → FR := semD 5 den_law_word
abbrev N_law_fix : List Str := ["source", "alphabet", "ahead", "behind"]
noncomputable def den_law_fix : SDn := sSeq (sAsg 2 (dCall 2 sem_law_pick (dCons (dVar 0) (dCons (dLst (dCons (dC (.str [])) (dCons (dC (.str [])) (dCons (dC (.str [])) (dCons (dCall 2 sem_law_pick (dCons (dVar 0) (dCons (dVar 1) (dNil)))) (dNil)))))) (dNil))))) (sSeq (sAsg 3 (dCall 2 sem_law_pick (dCons (dVar 0) (dCons (dLst (dCons (dC (.str [])) (dCons (dC (.str [])) (dCons (dC (.str [])) (dCons (dCall 2 sem_law_pick (dCons (dVar 0) (dCons (dVar 1) (dNil)))) (dNil)))))) (dNil))))) (sRet (dTup (dCons (dVar 2) (dCons (dCall 4 sem_law_word (dCons (dVar 0) (dCons (dVar 1) (dCons (dC (.int 1)) (dCons (dC (.int 3)) (dNil)))))) (dCons (dCall 4 sem_law_word (dCons (dVar 0) (dCons (dVar 1) (dCons (dC (.int 0)) (dCons (dC (.int 3)) (dNil)))))) (dCons (dVar 3) (dNil))))))))
noncomputable def sem_law_fix : List Sl → List Int × Int → FR := semD 4 den_law_fix
abbrev N_law_book : List Str := ["source", "alphabet", "most", "k"]
noncomputable def den_law_book : SDn := sRet (dN opTuple (dCons (dComp [3] (dRg1 (dCall 2 sem_law_draw (dCons (dVar 0) (dCons (d2 opAdd (dVar 2) (dC (.int 1))) (dNil))))) (gN 3) (dC (.bl true)) (dCall 2 sem_law_fix (dCons (dVar 0) (dCons (dVar 1) (dNil))))) (dNil)))
noncomputable def sem_law_book : List Sl → List Int × Int → FR := semD 4 den_law_book
abbrev con_LETTERS : D := .str [97, 98, 99, 100, 101, 102, 103, 104, 105, 106, 107, 108, 109, 110, 111, 112, 113, 114, 115, 116, 117, 118, 119, 120, 121, 122]
abbrev N_is_text : List Str := ["value", "most", "sign"]
noncomputable def den_is_text : SDn := sRet (dAnd (d1 (opIsi "str") (dVar 0)) (dAnd (d2 opLe (dN opLen (dCons (dVar 0) (dNil))) (dVar 1)) (dN opAll (dCons (dComp [2] (dIv (dVar 0)) (gN 2) (dC (.bl true)) (d2 opIn (dVar 2) (dC con_LETTERS))) (dNil)))))
noncomputable def sem_is_text : List Sl → List Int × Int → FR := semD 3 den_is_text
abbrev con_MOST_OLD : D := .int 3
abbrev N_is_fix : List Str := ["value"]
noncomputable def den_is_fix : SDn := sSeq (sIf (dOr (dNot (d1 (opIsi "tuple") (dVar 0))) (d2 opNe (dN opLen (dCons (dVar 0) (dNil))) (dC (.int 4)))) (sRet (dC (.bl false))) (sNil)) (sSeq (sIf (dOr (dNot (dCall 2 sem_is_text (dCons (d2 opIx (dVar 0) (dC (.int 0))) (dCons (dC (.int 1)) (dNil))))) (dNot (dCall 2 sem_is_text (dCons (d2 opIx (dVar 0) (dC (.int 3))) (dCons (dC (.int 1)) (dNil)))))) (sRet (dC (.bl false))) (sNil)) (sRet (dAnd (dCall 2 sem_is_text (dCons (d2 opIx (dVar 0) (dC (.int 1))) (dCons (dC con_MOST_OLD) (dNil)))) (dAnd (dCall 2 sem_is_text (dCons (d2 opIx (dVar 0) (dC (.int 2))) (dCons (dC con_MOST_OLD) (dNil)))) (d2 opNe (d2 opIx (dVar 0) (dC (.int 1))) (dC (.str [])))))))
noncomputable def sem_is_fix : List Sl → List Int × Int → FR := semD 1 den_is_fix
abbrev con_MOST_FIXES : D := .int 5
abbrev N_is_book : List Str := ["value", "fix"]
noncomputable def den_is_book : SDn := sRet (dAnd (d1 (opIsi "tuple") (dVar 0)) (dAnd (d2 opLe (dN opLen (dCons (dVar 0) (dNil))) (dC con_MOST_FIXES)) (dN opAll (dCons (dComp [1] (dIv (dVar 0)) (gN 1) (dC (.bl true)) (dCall 1 sem_is_fix (dCons (dVar 1) (dNil)))) (dNil)))))
noncomputable def sem_is_book : List Sl → List Int × Int → FR := semD 2 den_is_book
abbrev N_check_book : List Str := ["book"]
noncomputable def den_check_book : SDn := sIf (dNot (dCall 1 sem_is_book (dCons (dVar 0) (dNil)))) (sRaise 2) (sNil)
noncomputable def sem_check_book : List Sl → List Int × Int → FR := semD 1 den_check_book
abbrev con_MOST_LENGTH : D := .int 200
abbrev N_check_text : List Str := ["text"]
noncomputable def den_check_text : SDn := sIf (dNot (dCall 2 sem_is_text (dCons (dVar 0) (dCons (dC con_MOST_LENGTH) (dNil))))) (sRaise 1) (sNil)
noncomputable def sem_check_text : List Sl → List Int × Int → FR := semD 1 den_check_text
abbrev N_is_number : List Str := ["value"]
noncomputable def den_is_number : SDn := sRet (dAnd (d1 (opIsi "int") (dVar 0)) (dNot (d1 (opIsi "bool") (dVar 0))))
noncomputable def sem_is_number : List Sl → List Int × Int → FR := semD 1 den_is_number
abbrev N_check_number : List Str := ["value", "least", "most"]
noncomputable def den_check_number : SDn := sIf (dOr (dNot (dCall 1 sem_is_number (dCons (dVar 0) (dNil)))) (dNot (dChain opLe opLe (dVar 1) (dVar 0) (dVar 2)))) (sRaise 3) (sNil)
noncomputable def sem_check_number : List Sl → List Int × Int → FR := semD 3 den_check_number
abbrev N_put_in : List Str := ["book", "text", "found", "parts", "end", "at", "number"]
noncomputable def den_put_in : SDn := sSeq (sAsgT (gT (gsC (gN 3) (gsC (gN 4) (gsN)))) (dTup (dCons (dC (.str [])) (dCons (dC (.int 0)) (dNil))))) (sSeq (sFor (dIv (dVar 2)) (gT (gsC (gN 5) (gsC (gN 6) (gsN)))) (sSeq (sAsg 3 (d2 opAdd (d2 opAdd (dVar 3) (dSl (dVar 1) (dO1 (dVar 4)) (dO1 (dVar 5)))) (d2 opIx (d2 opIx (dVar 0) (dVar 6)) (dC (.int 2))))) (sAsg 4 (d2 opAdd (dVar 5) (dN opLen (dCons (d2 opIx (d2 opIx (dVar 0) (dVar 6)) (dC (.int 1))) (dNil))))))) (sRet (d2 opAdd (dVar 3) (dSl (dVar 1) (dO1 (dVar 4)) (dO0)))))
noncomputable def sem_put_in : List Sl → List Int × Int → FR := semD 7 den_put_in
abbrev N_stands : List Str := ["fix", "text", "at", "ahead", "old", "new", "behind", "end"]
noncomputable def den_stands : SDn := sSeq (sAsgT (gT (gsC (gN 3) (gsC (gN 4) (gsC (gN 5) (gsC (gN 6) (gsN)))))) (dVar 0)) (sSeq (sAsg 7 (d2 opAdd (dVar 2) (dN opLen (dCons (dVar 4) (dNil))))) (sSeq (sIf (dOr (d2 opNe (dSl (dVar 1) (dO1 (dVar 2)) (dO1 (dVar 7))) (dVar 4)) (d2 opNe (dSl (dVar 1) (dO1 (dVar 7)) (dO1 (d2 opAdd (dVar 7) (dN opLen (dCons (dVar 6) (dNil)))))) (dVar 6))) (sRet (dC (.bl false))) (sNil)) (sRet (dOr (d2 opEq (dVar 3) (dC (.str []))) (d2 opEq (dSl (dVar 1) (dO1 (dN opMax2 (dCons (dC (.int 0)) (dCons (d2 opSub (dVar 2) (dC (.int 1))) (dNil))))) (dO1 (dVar 2))) (dVar 3))))))
noncomputable def sem_stands : List Sl → List Int × Int → FR := semD 8 den_stands
abbrev N_numbers_at : List Str := ["book", "text", "at", "number", "fix"]
noncomputable def den_numbers_at : SDn := sRet (dComp [3, 4] (dEn (dVar 0)) (gT (gsC (gN 3) (gsC (gN 4) (gsN)))) (dCall 3 sem_stands (dCons (dVar 4) (dCons (dVar 1) (dCons (dVar 2) (dNil))))) (dVar 3))
noncomputable def sem_numbers_at : List Sl → List Int × Int → FR := semD 5 den_numbers_at
abbrev N_findings_of : List Str := ["book", "text", "at", "number"]
noncomputable def den_findings_of : SDn := sRet (dCompN [2, 3] (dRg1 (dN opLen (dCons (dVar 1) (dNil)))) (gN 2) (dC (.bl true)) (rFor [3] (dIv (dCall 3 sem_numbers_at (dCons (dVar 0) (dCons (dVar 1) (dCons (dVar 2) (dNil)))))) (gN 3) (dC (.bl true)) (rEnd (dTup (dCons (dVar 2) (dCons (dVar 3) (dNil)))))))
noncomputable def sem_findings_of : List Sl → List Int × Int → FR := semD 4 den_findings_of
abbrev N_taken_of : List Str := ["book", "text", "found", "end", "at", "number"]
noncomputable def den_taken_of : SDn := sSeq (sAsg 2 (dLst (dNil))) (sSeq (sAsg 3 (dC (.int 0))) (sSeq (sFor (dIv (dCall 2 sem_findings_of (dCons (dVar 0) (dCons (dVar 1) (dNil))))) (gT (gsC (gN 4) (gsC (gN 5) (gsN)))) (sIf (d2 opGe (dVar 4) (dVar 3)) (sSeq (sApp 2 (dTup (dCons (dVar 4) (dCons (dVar 5) (dNil))))) (sAsg 3 (d2 opAdd (dVar 4) (dN opLen (dCons (d2 opIx (d2 opIx (dVar 0) (dVar 5)) (dC (.int 1))) (dNil)))))) (sNil))) (sRet (dVar 2))))
noncomputable def sem_taken_of : List Sl → List Int × Int → FR := semD 6 den_taken_of
abbrev N_round_of : List Str := ["book", "text"]
noncomputable def den_round_of : SDn := sRet (dCall 3 sem_put_in (dCons (dVar 0) (dCons (dVar 1) (dCons (dCall 2 sem_taken_of (dCons (dVar 0) (dCons (dVar 1) (dNil)))) (dNil)))))
noncomputable def sem_round_of : List Sl → List Int × Int → FR := semD 2 den_round_of
abbrev con_MOST_LONG : D := .int 10000
abbrev N_rounds_of : List Str := ["book", "text", "many", "found", "k"]
noncomputable def den_rounds_of : SDn := sSeq (sAsg 3 (dLst (dCons (dVar 1) (dNil)))) (sSeq (sFor (dRg1 (dVar 2)) (gN 4) (sSeq (sApp 3 (dCall 2 sem_round_of (dCons (dVar 0) (dCons (d2 opIx (dVar 3) (d1 opNeg (dC (.int 1)))) (dNil))))) (sIf (d2 opGt (dN opLen (dCons (d2 opIx (dVar 3) (d1 opNeg (dC (.int 1)))) (dNil))) (dC con_MOST_LONG)) (sRaise 5) (sNil)))) (sRet (dVar 3)))
noncomputable def sem_rounds_of : List Sl → List Int × Int → FR := semD 5 den_rounds_of
abbrev con_MOST_ROUNDS : D := .int 100
abbrev N_rounds : List Str := ["book", "text", "many"]
noncomputable def den_rounds : SDn := sSeq (sExp (dCall 1 sem_check_book (dCons (dVar 0) (dNil)))) (sSeq (sExp (dCall 1 sem_check_text (dCons (dVar 1) (dNil)))) (sSeq (sExp (dCall 3 sem_check_number (dCons (dVar 2) (dCons (dC (.int 0)) (dCons (dC con_MOST_ROUNDS) (dNil)))))) (sRet (dCall 3 sem_rounds_of (dCons (dVar 0) (dCons (dVar 1) (dCons (dVar 2) (dNil))))))))
noncomputable def sem_rounds : List Sl → List Int × Int → FR := semD 3 den_rounds
abbrev N_course : List Str := ["book", "text", "most", "found", "at"]
noncomputable def den_course : SDn := sSeq (sExp (dCall 1 sem_check_book (dCons (dVar 0) (dNil)))) (sSeq (sExp (dCall 1 sem_check_text (dCons (dVar 1) (dNil)))) (sSeq (sExp (dCall 3 sem_check_number (dCons (dVar 2) (dCons (dC (.int 0)) (dCons (dC con_MOST_ROUNDS) (dNil)))))) (sSeq (sAsg 3 (dLst (dCons (dVar 1) (dNil)))) (sSeq (sFor (dRg1 (d2 opAdd (dVar 2) (dC (.int 1)))) (gN 4) (sSeq (sIf (d2 opEq (dN opLen (dCons (dCall 2 sem_findings_of (dCons (dVar 0) (dCons (d2 opIx (dVar 3) (dVar 4)) (dNil)))) (dNil))) (dC (.int 0))) (sRet (dTup (dCons (dC (.str [114, 101, 115, 116, 115])) (dCons (dVar 4) (dNil))))) (sNil)) (sSeq (sIf (d2 opIn (d2 opIx (dVar 3) (dVar 4)) (dSl (dVar 3) (dO0) (dO1 (dVar 4)))) (sRet (dTup (dCons (dC (.str [114, 105, 110, 103])) (dCons (dM2 opIndex (dVar 3) (d2 opIx (dVar 3) (dVar 4))) (dCons (d2 opSub (dVar 4) (dM2 opIndex (dVar 3) (d2 opIx (dVar 3) (dVar 4)))) (dNil)))))) (sNil)) (sIf (d2 opLt (dVar 4) (dVar 2)) (sApp 3 (d2 opIx (dCall 3 sem_rounds_of (dCons (dVar 0) (dCons (d2 opIx (dVar 3) (dVar 4)) (dCons (dC (.int 1)) (dNil))))) (dC (.int 1)))) (sNil))))) (sRet (dTup (dCons (dC (.str [111, 112, 101, 110])) (dNil))))))))
noncomputable def sem_course : List Sl → List Int × Int → FR := semD 5 den_course
abbrev N_law_stands : List Str := ["fix", "text", "at", "ahead", "old", "new", "behind", "k"]
noncomputable def den_law_stands : SDn := sSeq (sAsgT (gT (gsC (gN 3) (gsC (gN 4) (gsC (gN 5) (gsC (gN 6) (gsN)))))) (dVar 0)) (sSeq (sIf (d2 opNe (dComp [7] (dRg1 (dN opLen (dCons (dVar 4) (dNil)))) (gN 7) (d2 opNe (dSl (dVar 1) (dO1 (d2 opAdd (dVar 2) (dVar 7))) (dO1 (d2 opAdd (d2 opAdd (dVar 2) (dVar 7)) (dC (.int 1))))) (d2 opIx (dVar 4) (dVar 7))) (dVar 7)) (dLst (dNil))) (sRet (dC (.bl false))) (sNil)) (sSeq (sIf (dAnd (d2 opNe (dVar 3) (dC (.str []))) (dOr (d2 opEq (dVar 2) (dC (.int 0))) (d2 opNe (d2 opIx (dVar 1) (d2 opSub (dVar 2) (dC (.int 1)))) (dVar 3)))) (sRet (dC (.bl false))) (sNil)) (sRet (dOr (d2 opEq (dVar 6) (dC (.str []))) (d2 opEq (dSl (dVar 1) (dO1 (d2 opAdd (dVar 2) (dN opLen (dCons (dVar 4) (dNil))))) (dO1 (d2 opAdd (d2 opAdd (dVar 2) (dN opLen (dCons (dVar 4) (dNil)))) (dC (.int 1))))) (dVar 6))))))
noncomputable def sem_law_stands : List Sl → List Int × Int → FR := semD 8 den_law_stands
abbrev N_law_findings : List Str := ["book", "text", "found", "at", "number"]
noncomputable def den_law_findings : SDn := sSeq (sAsg 2 (dLst (dNil))) (sSeq (sFor (dRg1 (dN opLen (dCons (dVar 1) (dNil)))) (gN 3) (sAsg 2 (d2 opAdd (dVar 2) (dComp [4] (dRg1 (dN opLen (dCons (dVar 0) (dNil)))) (gN 4) (dCall 3 sem_law_stands (dCons (d2 opIx (dVar 0) (dVar 4)) (dCons (dVar 1) (dCons (dVar 3) (dNil))))) (dTup (dCons (dVar 3) (dCons (dVar 4) (dNil)))))))) (sRet (dVar 2)))
noncomputable def sem_law_findings : List Sl → List Int × Int → FR := semD 5 den_law_findings
abbrev N_law_put_in : List Str := ["book", "text", "lot", "at", "number", "ahead", "old", "new", "behind"]
noncomputable def den_law_put_in : SDn := sSeq (sFor (dIv (d1 opRev (dVar 2))) (gT (gsC (gN 3) (gsC (gN 4) (gsN)))) (sSeq (sAsgT (gT (gsC (gN 5) (gsC (gN 6) (gsC (gN 7) (gsC (gN 8) (gsN)))))) (d2 opIx (dVar 0) (dVar 4))) (sAsg 1 (d2 opAdd (d2 opAdd (dSl (dVar 1) (dO0) (dO1 (dVar 3))) (dVar 7)) (dSl (dVar 1) (dO1 (d2 opAdd (dVar 3) (dN opLen (dCons (dVar 6) (dNil))))) (dO0)))))) (sRet (dVar 1))
noncomputable def sem_law_put_in : List Sl → List Int × Int → FR := semD 9 den_law_put_in
abbrev N_law_taken : List Str := ["book", "text", "found", "free", "at", "number"]
noncomputable def den_law_taken : SDn := sSeq (sParA 2 3 (dLst (dNil)) (dC (.int 0))) (sSeq (sFor (dIv (dCall 2 sem_law_findings (dCons (dVar 0) (dCons (dVar 1) (dNil))))) (gT (gsC (gN 4) (gsC (gN 5) (gsN)))) (sIf (d2 opGe (dVar 4) (dVar 3)) (sSeq (sApp 2 (dTup (dCons (dVar 4) (dCons (dVar 5) (dNil))))) (sAsg 3 (d2 opAdd (dVar 4) (dN opLen (dCons (d2 opIx (d2 opIx (dVar 0) (dVar 5)) (dC (.int 1))) (dNil)))))) (sNil))) (sRet (dVar 2)))
noncomputable def sem_law_taken : List Sl → List Int × Int → FR := semD 6 den_law_taken
abbrev N_law_round : List Str := ["book", "text"]
noncomputable def den_law_round : SDn := sRet (dCall 3 sem_law_put_in (dCons (dVar 0) (dCons (dVar 1) (dCons (dCall 2 sem_law_taken (dCons (dVar 0) (dCons (dVar 1) (dNil)))) (dNil)))))
noncomputable def sem_law_round : List Sl → List Int × Int → FR := semD 2 den_law_round
abbrev N_findings : List Str := ["book", "text"]
noncomputable def den_findings : SDn := sSeq (sExp (dCall 1 sem_check_book (dCons (dVar 0) (dNil)))) (sSeq (sExp (dCall 1 sem_check_text (dCons (dVar 1) (dNil)))) (sRet (dCall 2 sem_findings_of (dCons (dVar 0) (dCons (dVar 1) (dNil))))))
noncomputable def sem_findings : List Sl → List Int × Int → FR := semD 2 den_findings
abbrev N_taken : List Str := ["book", "text"]
noncomputable def den_taken : SDn := sSeq (sExp (dCall 1 sem_check_book (dCons (dVar 0) (dNil)))) (sSeq (sExp (dCall 1 sem_check_text (dCons (dVar 1) (dNil)))) (sRet (dCall 2 sem_taken_of (dCons (dVar 0) (dCons (dVar 1) (dNil))))))
noncomputable def sem_taken : List Sl → List Int × Int → FR := semD 2 den_taken
abbrev N_one_round : List Str := ["book", "text"]
noncomputable def den_one_round : SDn := sSeq (sExp (dCall 1 sem_check_book (dCons (dVar 0) (dNil)))) (sSeq (sExp (dCall 1 sem_check_text (dCons (dVar 1) (dNil)))) (sRet (dCall 2 sem_round_of (dCons (dVar 0) (dCons (dVar 1) (dNil))))))
noncomputable def sem_one_round : List Sl → List Int × Int → FR := semD 2 den_one_round
end Pg
set_option maxRecDepth 100000
namespace Py
open PySem PySem.Spec PyProof.Rows L2

/-! ### C(e, ..) as a statement: the object is let go -/
def sNewX (c k : Nat) (sem : List Sl → List Int × Int → FR) (da : DnL) : SDn := fun p => onR (da p) fun xs p1 => match finC k sem (.bo p1.env.length :: xs) (extP p1 c) with
  | .ok (.sh .non) p2 => .nx ⟨p2.env.take p1.env.length, p2.src⟩
  | .exc x p2 => .exc x ⟨p2.env.take p1.env.length, p2.src⟩
  | _ => .bad
section
variable {s : Sx} {T : Tab} {pos : Pos}
theorem vs_newX (c n : Nat) {C : Str} {e : Expr} {es : List Expr} {da : DnL} {q qc : Pos} (hC : nameC c = C) (hg : s.sc.names.lookup C = some .globalImplicit) (hob : T.ob c = true) (hmt : T.mt n = some (c, ("__init__" : Str))) (hk : n + 1 < T.k) (ha : VL s T (e :: es) da)
    (hdb : (C == ("__debug__" : Str)) = false := by decide) (he : ∀ env, starEach (e :: es) env = (false, eval e env) :: starEach es env := by intro _; rfl) (hpl : ∀ env, (backTo qc (starEach es env)).any (·.1) = false := by intro _; rfl)
    (hs : ∀ env, swapsWith (.Call (.Name C q) (e :: es) [] qc) none pos.line env = pure false := by intro _; rfl) : VS s T (.Expr (.Call (.Name C q) (e :: es) [] qc) pos) (sNewX c (T.ar n) (T.sem n) da) := fun X W cx tk => by
  have oc := cx.1.fac.ob c hob
  obtain ⟨hk1, f, fd, ps, hm, hb, hlen, F1⟩ := cx.1.fac.mt n c _ hmt
  have hm := mk_meth (by decide) hm
  have F := F1.mono (show n + 1 ≤ T.k - 1 by omega)
  have gl : Gl X C := by show X.env.scope.names.lookup C = _; rw [cx.1.sc]; exact hg
  have M : Mk X.K (clA X.K c) f := ⟨oc.makes, hm.at_, hm.fn, oc.kp⟩
  have hr : Room (T.k - 1 + 1) X.A := by rw [show T.k - 1 + 1 = T.k by omega]; exact cx.1.room
  refine PSt.of (ps_expr (pe_makeE M F hr gl (hC ▸ oc.glo) hb (fun σ => passAt tk σ) (ha X W cx.1 tk) hdb (he _) (hpl _)) (hs _)) fun D σ H h => ?_
  obtain ⟨G, p, o, h⟩ := h
  refine tsl_bind o h fun v1 p1 us H1 s1 r1 h => ?_
  intro x0 dx hx hd hne
  have ok2 : Ok X.K G (σ ++ [some (.ref x0)]) (newH X.K H1 c x0 dx) (extP p1 c) := s1.ok.ext (c := c) hx hd hne
  have ar := ext_args (c := c) s1.ok r1 hx hd
  have hsp : spF X.K (clK X.K) (T.ar n) (T.sem n) (.ref x0 :: us) (newH X.K H1 c x0 dx) (fun v H2 => v = .non ∧ D.nx σ H2) (L2.WE (fun cls d _ H => W cls d σ H) (σ ++ [some (.ref x0)])) := by
    refine finC_run ok2 ar ?_
    show Post X.K (clK X.K) (fun cls d _ H => W cls d σ H) G _ _ (extP p1 c) _ (finC (T.ar n) (T.sem n) (.bo p1.env.length :: v1) (extP p1 c))
    cases hfin : finC (T.ar n) (T.sem n) (.bo p1.env.length :: v1) (extP p1 c) with
    | bad => rw [hfin] at h; exact h.elim
    | exc k p2 =>
      rw [hfin] at h
      intro H' s2
      obtain ⟨d, e1, _⟩ := ext_last s2
      have s2' : StpE X.K G (σ ++ [some (.ref x0)]) ⟨p1.env ++ [.own false false (.obj c [])], p1.src⟩ (newH X.K H1 c x0 dx) ⟨p2.env.take p1.env.length ++ [.own false false d], p2.src⟩ H' := by rw [← e1]; exact s2
      obtain ⟨g1, _⟩ := drop_stp (.refl s1.ok) hx hd s2'
      exact (h σ H' g1.1).from newH_dom
    | ok v p2 =>
      rw [hfin] at h
      intro u H' s2 ru
      cases v with
      | ow d => exact h.elim
      | bo j => exact h.elim
      | sr => exact h.elim
      | sh dv =>
        cases dv with
        | non =>
          have hu : u = .non := by cases ru; rfl
          refine ⟨hu, ?_⟩
          obtain ⟨d, e1, _⟩ := ext_last s2
          have s2' : StpE X.K G (σ ++ [some (.ref x0)]) ⟨p1.env ++ [.own false false (.obj c [])], p1.src⟩ (newH X.K H1 c x0 dx) ⟨p2.env.take p1.env.length ++ [.own false false d], p2.src⟩ H' := by rw [← e1]; exact s2
          obtain ⟨g1, _⟩ := drop_stp (.refl s1.ok) hx hd s2'
          exact h σ H' g1.1
        | _ => exact h.elim
  exact hsp
end

/-- C(e, ..).m, a property: what it gives is shared -/
def dNewP (c k : Nat) (sem : List Sl → List Int × Int → FR) (k2 : Nat) (sem2 : List Sl → List Int × Int → FR) (da : DnL) : Dn := fun p => (da p).bind fun xs p1 => match finC k sem (.bo p1.env.length :: xs) (extP p1 c) with
  | .ok (.sh .non) p2 => (match lastD p2.env p1.env.length with
    | some (c', _, _) => if c' = c then (match finC k2 sem2 [.bo p1.env.length] p2 with
      | .ok (.sh d) p3 => .ok (.sh d) ⟨p3.env.take p1.env.length, p3.src⟩
      | _ => .bad) else .bad
    | none => .bad)
  | .exc x p2 => .exc x ⟨p2.env.take p1.env.length, p2.src⟩
  | _ => .bad
section
variable {s : Sx} {T : Tab} {pos : Pos}
theorem v_newP (c n n2 : Nat) {C m : Str} {e : Expr} {es : List Expr} {da : DnL} {q qc : Pos} (hC : nameC c = C) (hg : s.sc.names.lookup C = some .globalImplicit) (hob : T.ob c = true) (hmt : T.mt n = some (c, ("__init__" : Str))) (hk : n + 1 < T.k) (hmt2 : T.mt n2 = some (c, m)) (hk2 : n2 + 1 < T.k) (hprop : propN m = true) (ha : VL s T (e :: es) da)
    (hdb : (C == ("__debug__" : Str)) = false := by decide) (he : ∀ env, starEach (e :: es) env = (false, eval e env) :: starEach es env := by intro _; rfl) (hpl : ∀ env, (backTo qc (starEach es env)).any (·.1) = false := by intro _; rfl)
    (hat : ∀ env, attributeBase (.Call (.Name C q) (e :: es) [] qc) m env (eval (.Call (.Name C q) (e :: es) [] qc) env) = eval (.Call (.Name C q) (e :: es) [] qc) env := by intro _; rfl) :
    VE s T (.Attribute (.Call (.Name C q) (e :: es) [] qc) m pos) (dNewP c (T.ar n) (T.sem n) (T.ar n2) (T.sem n2) da) := fun X W cx tk => by
  have oc := cx.fac.ob c hob
  obtain ⟨hk1, f, fd, ps, hm, hb, hlen, F1⟩ := cx.fac.mt n c _ hmt
  have hm := mk_meth (by decide) hm
  have F := F1.mono (show n + 1 ≤ T.k - 1 by omega)
  obtain ⟨_, f2, fd2, ps2, hm2, hb2, hlen2, F2⟩ := cx.fac.mt n2 c m hmt2
  obtain ⟨pp, hp⟩ := mk_prop hprop hm2
  have gl : Gl X C := by show X.env.scope.names.lookup C = _; rw [cx.sc]; exact hg
  have M : Mk X.K (clA X.K c) f := ⟨oc.makes, hm.at_, hm.fn, oc.kp⟩
  have hr : Room (T.k - 1 + 1) X.A := by rw [show T.k - 1 + 1 = T.k by omega]; exact cx.room
  have F22 := F2.mono (show n2 + 1 ≤ T.k - 1 by omega)
  refine PE.of (pe_prop (E := fun _ _ _ => False) (dvs := []) (ds := []) (pe_makeE M F hr gl (hC ▸ oc.glo) hb (fun σ => passAt tk σ) (ha X W cx tk) hdb (he _) (hpl _)) oc.cls hp F22 hr hb2 .nil (fun pins σ H s e s' I h => ?_) (hat _)) fun σ H Q h => ?_
  · obtain ⟨_, _, _, _, _, _, _, _, _, _, _, _, z⟩ := h
    exact z.elim
  obtain ⟨G, p, o, h⟩ := h
  refine tl_bind o h fun v1 p1 us H1 s1 r1 h => ?_
  intro x0 dx hx hd hne
  have ok2 : Ok X.K G (σ ++ [some (.ref x0)]) (newH X.K H1 c x0 dx) (extP p1 c) := s1.ok.ext (c := c) hx hd hne
  have ar := ext_args (c := c) s1.ok r1 hx hd
  have hgo : ∀ Q', Post X.K (clK X.K) (fun cls d _ H => W cls d σ H) G (σ ++ [some (.ref x0)]) (newH X.K H1 c x0 dx) (extP p1 c) Q' (finC (T.ar n) (T.sem n) (.bo p1.env.length :: v1) (extP p1 c)) → spF X.K (clK X.K) (T.ar n) (T.sem n) (.ref x0 :: us) (newH X.K H1 c x0 dx) Q' (L2.WE W σ) := fun Q' hp => finC_run (W := fun cls d _ H => W cls d σ H) ok2 ar hp
  refine hgo _ ?_
  cases hfin : finC (T.ar n) (T.sem n) (.bo p1.env.length :: v1) (extP p1 c) with
  | bad => rw [hfin] at h; exact h.elim
  | exc k p2 =>
    rw [hfin] at h
    intro H' s2
    obtain ⟨d, e1, _⟩ := ext_last s2
    have s2' : StpE X.K G (σ ++ [some (.ref x0)]) ⟨p1.env ++ [.own false false (.obj c [])], p1.src⟩ (newH X.K H1 c x0 dx) ⟨p2.env.take p1.env.length ++ [.own false false d], p2.src⟩ H' := by rw [← e1]; exact s2
    obtain ⟨g1, _⟩ := drop_stp (.refl s1.ok) hx hd s2'
    exact (h H' g1).from newH_dom
  | ok v p2 =>
    rw [hfin] at h
    intro u H' s2 ru
    cases v with
    | ow d => exact h.elim
    | bo j => exact h.elim
    | sr => exact h.elim
    | sh dv =>
      cases dv with
      | non =>
        have hu : u = .non := by cases ru; rfl
        refine ⟨hu, ?_⟩
        obtain ⟨d, e1, e2⟩ := ext_last s2
        simp only at h
        have hsx : (σ ++ [some (V.ref x0)])[p1.env.length]? = some (some (.ref x0)) := by rw [s1.ok.len]; simp
        have xo : Ok X.K G (σ ++ [some (.ref x0)]) H' p2 := s2.ok
        obtain ⟨b, hb0, hoa, _⟩ := xo.ow p1.env.length false false d e2
        rw [hsx] at hb0; cases hb0
        have two : ∀ (H3 : Hp) (p3 : PS), StpE X.K G (σ ++ [some (.ref x0)]) p2 H' p3 H3 → ∃ d3, p3.env = p3.env.take p1.env.length ++ [.own false false d3] ∧ StpE X.K G σ p1 H1 ⟨p3.env.take p1.env.length, p3.src⟩ H3 := fun H3 p3 s3 => by
          have s4 := s2.trans s3
          obtain ⟨d3, f1, _⟩ := ext_last s4
          have s4' : StpE X.K G (σ ++ [some (.ref x0)]) ⟨p1.env ++ [.own false false (.obj c [])], p1.src⟩ (newH X.K H1 c x0 dx) ⟨p3.env.take p1.env.length ++ [.own false false d3], p3.src⟩ H3 := by rw [← f1]; exact s4
          exact ⟨d3, f1, (drop_stp (.refl s1.ok) hx hd s4').1⟩
        simp only [lastD, e2] at h
        cases d with
        | obj c' ds =>
          simp only at h
          by_cases hc : c' = c
          · subst hc
            rw [if_pos rfl] at h
            obtain ⟨dx', fs, g1, g2, g3⟩ := hoa
            refine ⟨x0, dx', fs, rfl, g1, ?_⟩
            have hgo2 : ∀ Q', Post X.K (clK X.K) WN G (σ ++ [some (.ref x0)]) H' p2 Q' (finC (T.ar n2) (T.sem n2) [.bo p1.env.length] p2) → spF X.K (clK X.K) (T.ar n2) (T.sem n2) [.ref x0] H' Q' (fun _ _ _ => False) := fun Q' hp =>
              finC_run (W := WN) (us := [.ref x0]) (xs := [.bo p1.env.length]) xo (.cons (show RvOk X.K G (σ ++ [some (.ref x0)]) p2 H' H' (.ref x0) (.bo p1.env.length) from ⟨⟨false, false, _, e2⟩, hsx⟩) .nil) hp
            refine hgo2 _ ?_
            cases hfin2 : finC (T.ar n2) (T.sem n2) [.bo p1.env.length] p2 with
            | bad => rw [hfin2] at h; exact h.elim
            | exc k p3 =>
              rw [hfin2] at h; exact h.elim
            | ok v3 p3 =>
              rw [hfin2] at h
              intro u3 H3 s3 r3
              cases v3 with
              | ow d => exact h.elim
              | bo j => exact h.elim
              | sr => exact h.elim
              | sh dv =>
                obtain ⟨d3, f1, f2⟩ := two H3 p3 s3
                refine h u3 H3 f2 ?_
                show Rep X.K (Mu G σ (p3.env.take p1.env.length)) H3 u3 dv
                have r3 : Rep X.K (Mu G (σ ++ [some (.ref x0)]) p3.env) H3 u3 dv := r3
                refine Rep.mono X.K (fun _ _ e _ => e) (fun a z => .inl ?_) r3
                rw [f1]
                exact (ext_mu (p := ⟨p3.env.take p1.env.length, p3.src⟩) f2.ok.len).mpr (.inl z)
          · rw [if_neg hc] at h; exact h.elim
        | _ => exact h.elim
      | _ => exact h.elim
end

/-! ### two new lists, looked at and then written at -/
section
variable {K : PySem.W.Frag} {G G' : Gh} {σ σ' : L2.St} {H H' H1 : Hp} {p p' p1 : PS} {a : Addr} {i : Nat} {u : Option V}
theorem mu_le (hg : G.ga = G'.ga) (hm : ∀ b, G.mx b → G'.mx b) {env : List Sl} {b : Addr} (h : Mu G σ env b) : Mu G' σ env b := by
  rcases h with h | ⟨q, e, h⟩ | h
  · exact .inl (hm b h)
  · exact .inr (.inl ⟨q, hg ▸ e, h⟩)
  · exact .inr (.inr h)
/-- what is out of reach is not changed -/
theorem Ok.mxL (o : Ok K G σ H p) (h : G.mx a) : ¬ Lm G σ p.env a := by
  rintro (⟨q, e, z⟩ | ⟨i, l, d, h1, h2⟩)
  · obtain ⟨_, _, _, h4, h5⟩ := o.ga q e
    rcases z with rfl | rfl
    · exact h4 h
    · exact h5 h
  · obtain ⟨b, g1, _, g3, _⟩ := o.ow i l false d h1
    rw [h2] at g1; cases g1
    exact g3 h
/-- a step with more out of reach, behind a step -/
theorem Stp.less {σ1 : L2.St} (s : Stp K G σ p H σ1 p1 H1) (hg : G.ga = G'.ga) (hx : ∀ b, G.mx b → G'.mx b) (hn : ∀ b, G'.mx b → G.mx b ∨ H b = none) (t : Stp K G' σ1 p1 H1 σ' p' H') : Stp K G σ p H σ' p' H' := by
  have up : ∀ {σ2 : L2.St} {env : List Sl} {b : Addr}, Lm G' σ2 env b → Lm G σ2 env b := fun z => by
    rcases z with ⟨q, e, z⟩ | z
    · exact .inl ⟨q, hg.trans e, z⟩
    · exact .inr z
  have dn : ∀ {σ2 : L2.St} {env : List Sl} {b : Addr}, Lm G σ2 env b → Lm G' σ2 env b := fun z => by
    rcases z with ⟨q, e, z⟩ | z
    · exact .inl ⟨q, hg ▸ e, z⟩
    · exact .inr z
  refine ⟨fun b o h n => t.fr b o (s.fr b o h n) fun z => ?_, fun b h => s.dom b (t.dom b h), fun b h => ?_, fun b h => ?_, fun i z d h => ?_, fun i l d h => ?_, t.ok.less hg.symm hx⟩
  · rcases s.lm b (up z) with z | z
    · exact n z
    · rw [h] at z; cases z
  · rcases t.lm b (dn h) with z | z
    · exact s.lm b (up z)
    · exact .inr (s.dom b z)
  · rcases t.mu b (mu_le hg hx h) with z | z
    · rcases z with z | ⟨q, e, z⟩ | z
      · rcases hn b z with z | z
        · by_cases k : H b = none
          · exact .inr k
          · exact .inl (.inl z)
        · exact .inr z
      · exact s.mu b (.inr (.inl ⟨q, hg.trans e, z⟩))
      · exact s.mu b (.inr (.inr z))
    · exact .inr (s.dom b z)
  · obtain ⟨z', d', h1, e1⟩ := s.lent i z d h
    obtain ⟨z2, d2, h2, e2⟩ := t.lent i z' d' h1
    exact ⟨z2, d2, h2, e2.trans e1⟩
  · obtain ⟨d', h1, e1⟩ := s.lk i l d h
    obtain ⟨d2, h2, e2⟩ := t.lk i l d' h1
    exact ⟨d2, h2, e2.trans e1⟩
/-- a slot of which nothing is told -/
theorem Stp.put_no (o : Ok K G σ H p) (h : p.env[i]? = some .no) : Stp K G σ p H (σ.set i u) p H := by
  have ne : ∀ {j : Nat} {x : Sl}, p.env[j]? = some x → x ≠ .no → i ≠ j := fun e n z => by
    subst z; rw [h] at e; cases e; exact n rfl
  have oa : ∀ b, ownA (σ.set i u) p.env b → ownA σ p.env b := fun b ⟨j, l, z, d, h1, h2⟩ => ⟨j, l, z, d, h1, by rw [List.getElem?_set_ne (ne h1 (fun e => by cases e))] at h2; exact h2⟩
  have ol : ∀ b, ownL (σ.set i u) p.env b → ownL σ p.env b := fun b ⟨j, l, d, h1, h2⟩ => ⟨j, l, d, h1, by rw [List.getElem?_set_ne (ne h1 (fun e => by cases e))] at h2; exact h2⟩
  have mu : ∀ b, Mu G (σ.set i u) p.env b → Mu G σ p.env b := fun b z => by
    rcases z with z | z | z
    · exact .inl z
    · exact .inr (.inl z)
    · exact .inr (.inr (oa b z))
  refine ⟨fun _ _ e _ => e, fun _ e => e, fun b z => ?_, fun b z => .inl (mu b z), fun j z d hj => ⟨z, d, hj, List.getElem?_set_ne (ne hj (fun e => by cases e))⟩, fun j l d hj => ⟨d, hj, List.getElem?_set_ne (ne hj (fun e => by cases e))⟩, ?_⟩
  · rcases z with z | z
    · exact .inl (.inl z)
    · exact .inl (.inr (ol b z))
  · refine ⟨by simpa using o.len, fun j d hj => ?_, fun j l z d hj => ?_, fun j j' l z d l' z' d' b h1 h2 h3 h4 => ?_, fun j hj => ?_, o.mx, o.ga⟩
    · obtain ⟨v, h1, h2⟩ := o.sh j d hj
      exact ⟨v, by rw [List.getElem?_set_ne (ne hj (fun e => by cases e))]; exact h1, Rep.mono K (fun _ _ e _ => e) (fun b z => .inl (mu b z)) h2⟩
    · obtain ⟨b, h1, h2, h3⟩ := o.ow j l z d hj
      exact ⟨b, by rw [List.getElem?_set_ne (ne hj (fun e => by cases e))]; exact h1, h2.mono (fun _ _ e _ => e) (fun b z => .inl (mu b z)) (fun _ e => e), h3⟩
    · rw [List.getElem?_set_ne (ne h1 (fun e => by cases e))] at h3
      rw [List.getElem?_set_ne (ne h2 (fun e => by cases e))] at h4
      exact o.inj _ _ _ _ _ _ _ _ _ h1 h2 h3 h4
    · obtain ⟨q, h1, h2⟩ := o.sr j hj
      exact ⟨q, h1, by rw [List.getElem?_set_ne (ne hj (fun e => by cases e))]; exact h2⟩
/-- what is out of reach is written -/
theorem Ok.wrMx {ob : HO} (o : Ok K G σ H p) (hm : G.mx a) : Ok K G σ (upd H a ob) p := by
  have keep : ∀ b x, H b = some x → ¬ Mu G σ p.env b → (upd H a ob) b = some x := fun b x e n => by rw [upd_ne (fun z : b = a => n (by rw [z]; exact .inl hm))]; exact e
  refine ⟨o.len, fun j d h => ?_, fun j l z d h => ?_, o.inj, o.sr, fun b h => ?_, fun q h => ?_⟩
  · obtain ⟨v, h1, h2⟩ := o.sh j d h
    exact ⟨v, h1, Rep.mono K keep (fun _ z => .inl z) h2⟩
  · obtain ⟨b, h1, h2, h3, h4⟩ := o.ow j l z d h
    exact ⟨b, h1, h2.mono keep (fun _ z => .inl z) (fun x e => by rw [upd_ne (fun z : b = a => h3 (by rw [z]; exact hm))]; exact e), h3, h4⟩
  · by_cases e : b = a
    · subst e; rw [upd_same]; simp
    · rw [upd_ne e]; exact o.mx b h
  · obtain ⟨h1, h2, h3, h4, h5⟩ := o.ga q h
    exact ⟨h1, by rw [upd_ne (fun z => h4 (by rw [z]; exact hm))]; exact h2, by rw [upd_ne (fun z => h5 (by rw [z]; exact hm))]; exact h3, h4, h5⟩
theorem Stp.wrNew {ob : HO} (s : Stp K G σ p H σ' p' H') (o : Ok K G' σ' H' p') (hg : G.ga = G'.ga) (hx : ∀ b, G.mx b → G'.mx b) (hn : H a = none) (hm : G'.mx a) : Stp K G σ p H σ' p' (upd H' a ob) where
  fr := fun b x e n => by
    rw [upd_ne (fun z => by rw [z, hn] at e; cases e)]
    exact s.fr b x e n
  dom := fun b e => by
    by_cases z : b = a
    · subst z; exact hn
    · rw [upd_ne z] at e; exact s.dom b e
  lm := s.lm
  mu := s.mu
  lent := s.lent
  lk := s.lk
  ok := (o.wrMx hm).less hg.symm hx
end

/-- x = [e1, e2]; if x != eR: return False; for y in x: y.append(None) -/
def twoE (xs ys : List D) (v : Rv) (p : PS) : Out := match opd v p with
  | some d => match opNe (.lst [.lst xs, .lst ys]) d with
    | some (.sh (.bl true)) => .rt (.sh (.bl false)) p
    | some (.sh (.bl false)) => if xs.length < 16777216 ∧ ys.length < 16777216 then .nx p else .bad
    | _ => .bad
  | none => .bad
def twoS (i j : Nat) (d1 d2 dR : Dn) : SDn := fun p => match p.env[i]?, p.env[j]? with
  | some .no, some .no => onR (d1 p) fun v1 p1 => match v1 with
    | .ow (.lst xs) => onR (d2 p1) fun v2 p2 => match v2 with
      | .ow (.lst ys) => onR (dR p2) fun v3 p3 => twoE xs ys v3 p3
      | _ => .bad
    | _ => .bad
  | _, _ => .bad
theorem SameE.no_ {e e' : List Sl} {i : Nat} (s : SameE e e') (h : e[i]? = some .no) : e'[i]? = some .no := by
  obtain ⟨y, h1, h2⟩ := s.2 i _ h
  cases y <;> simp [Same1] at h2
  exact h1
end Py
set_option maxRecDepth 100000
namespace Py
open PySem PySem.Spec PyProof.Rows L2
theorem Rdb.free {K : PySem.W.Frag} {M : Addr → Prop} {H : Hp} {v : V} {d : D} (r : Rdb K M H v d) : Rdb K (fun _ => False) H v d := by
  rcases r with r | ⟨a, e, r⟩
  · exact .inl (Rep.mono K (fun _ _ e _ => e) (fun _ z => z.elim) r)
  · exact .inr ⟨a, e, r.mono (fun _ _ e _ => e) (fun _ z => z.elim) (fun _ e => e)⟩
section
variable {s : Sx} {T : Tab}
theorem vb_two (i j : Nat) {x y : Str} {e1 e2 eR eF eN : Expr} {d1 d2 dR : Dn} {q1 q2 q3 q4 q5 lp cp rp apos ap ep pos1 pos2 pos3 : Pos} (hN : s.N[i]? = some x) (hN2 : s.N[j]? = some y) (hij : i ≠ j) (hl : locB s x = true) (hl2 : locB s y = true) (hv : visB s.sc x = true) (hv2 : visB s.sc y = true)
    (h1 : VE s T e1 d1) (h2 : VE s T e2 d2) (hR : VE s T eR dR) (hF : VE s T eF (dC (.bl false))) (hNo : VE s T eN (dC .non)) (hm : behindInMarks .NotEq eR = false)
    (hsw : ∀ env, swapsWith (.List [e1, e2] lp) (some (.Name x q1)) pos1.line env = pure false := by intro _; rfl)
    (hs1 : ∀ env, starEach [e1, e2] env = (false, eval e1 env) :: starEach [e2] env := by intro _; rfl) (hs2 : ∀ env, starEach [e2] env = (false, eval e2 env) :: starEach [] env := by intro _; rfl)
    (hfs : ∀ env v, foldedSetIterable (.Name x q4) env v = pure v := by intro _ _; rfl)
    (hd : (x == ("__debug__" : Str)) = false := by decide) (hcd : (x == ("__classdict__" : Str)) = false := by decide) (hd2 : (y == ("__debug__" : Str)) = false := by decide) (hcd2 : (y == ("__classdict__" : Str)) = false := by decide)
    (hbase : ∀ env, attributeBase (.Name y q5) "append" env (eval (.Name y q5) env) = eval (.Name y q5) env := by intro _; rfl)
    (hfew : ∀ env, ((backTo ap (starEach [eN] env)).all (fun x => !x.1) && (backToKw ap (keywordEach [] env)).all (fun x => x.1.isSome) && decide (([eN] : List Expr).length + ([] : List Keyword).length + (if ([] : List Keyword).isEmpty then 0 else 1) < 30)) = true := by intro _; rfl)
    (hline : (apos.endLine == ap.line) = true := by rfl) (hs3 : ∀ env, starEach [eN] env = (false, eval eN env) :: starEach [] env := by intro _; rfl) :
    VB s T [.Assign [.Name x q1] (.List [e1, e2] lp) pos1, .If (.Compare (.Name x q2) [.NotEq] [eR] cp) [.Return (some eF) rp] [] pos2,
      .For (.Name y q3) (.Name x q4) [.Expr (.Call (.Attribute (.Name y q5) "append" apos) [eN] [] ap) ep] [] pos3] (twoS i j d1 d2 dR) := fun X W c tk => by
  obtain ⟨l1, l2⟩ := loc_of c.1 hl
  obtain ⟨m1, m2⟩ := loc_of c.1 hl2
  have nd : X.N.Nodup := by rw [c.1.N]; exact c.1.nd
  have nx : X.N[i]? = some x := by rw [c.1.N]; exact hN
  have ny : X.N[j]? = some y := by rw [c.1.N]; exact hN2
  have vx : Vis X.env.scope x := by rw [c.1.sc]; exact vis_of hv
  have vy : Vis X.env.scope y := by rw [c.1.sc]; exact vis_of hv2
  refine PSs.of (pss_cons (ps_set (i := i) nd nx l1 (pe_lst (pa_cons (h1 X W c.1 tk) (pa_cons (h2 X W c.1 tk) pa_nil (hs2 _)) (hs1 _))) (hsw _) l2)
    (pss_cons (ps_if (pt_cmpR (op_neD c.1.room.units) (pe_var nx vx hd hcd) (hR X W c.1 tk) hm) (pss_one (ps_ret (hF X W c.1 tk))) pss_nil)
      (pss_one (ps_for (hs := hfs X.env) c.2.1 c.1.calm (pi_list (pe_var nx vx hd hcd)) (pg_name (i := j) nd ny m1 m2)
        (pss_one (ps_expr (pe_bm PySem.F.plainAttrs_list PySem.F.slot_list_append PySem.F.type_list_append mt_append (pe_var ny vy hd2 hcd2) (pa_cons (hNo X W c.1 tk) pa_nil (hs3 _)) (hbase _) (hfew _) hline (hs3 _) (by rfl)) (by rfl))))))) fun D σ H h => ?_
  obtain ⟨G, p, o, h⟩ := h
  unfold twoS at h
  split at h
  case h_2 => exact h.elim
  rename_i hi hj
  -- the first
  refine ⟨G, p, o, ?_⟩
  cases e : d1 p with
  | bad => rw [e] at h; exact h.elim
  | exc k p1 => rw [e] at h; exact fun H1 s1 => h σ H1 s1.1
  | ok v1 p1 =>
  rw [e] at h; clear e
  simp only [onR_ok] at h
  intro u1 H1 s1 r1
  split at h
  case h_2 => exact h.elim
  rename_i xs
  obtain ⟨_, a1, rfl, n1, nm1, ⟨vs1, g1, rl1⟩, o1⟩ := r1
  have hi1 := s1.2.no_ hi
  have hj1 := s1.2.no_ hj
  have lo1 : ∀ b, (G.more a1).mx b → G.mx b ∨ H b = none := fun b z => by
    rcases z with z | rfl
    · exact .inl z
    · exact .inr n1
  -- the second
  refine ⟨G.more a1, p1, o1, ?_⟩
  cases e : d2 p1 with
  | bad => rw [e] at h; exact h.elim
  | exc k p2 => rw [e] at h; exact fun H2 s2 => (h σ H2 (s1.1.less (G' := G.more a1) rfl (fun b z => .inl z) lo1 s2.1)).from s1.1.dom
  | ok v2 p2 =>
  rw [e] at h; clear e
  simp only [onR_ok] at h
  intro u2 H2 s2 r2
  split at h
  case h_2 => exact h.elim
  rename_i ys
  obtain ⟨_, a2, rfl, n2, nm2, ⟨vs2, g2, rl2⟩, o2⟩ := r2
  have hi2 := s2.2.no_ hi1
  have hj2 := s2.2.no_ hj1
  have b2 : Stp X.K G σ p H σ p2 H2 := s1.1.less (G' := G.more a1) rfl (fun b z => .inl z) lo1 s2.1
  have g12 : H2 a1 = some (.lst vs1) := s2.1.fr a1 _ g1 (o1.mxL (.inr rfl))
  have rl12 := s2.1.repL rl1
  have n2' : H a2 = none := s1.1.dom a2 n2
  refine ⟨by show 2 ≤ sizeLine; rw [sizeLine_eq]; decide, fun q nq => ?_⟩
  have nq' : H q = none := b2.dom q nq
  -- the list of both
  have o3 : Ok X.K (((G.more a1).more a2).more q) σ (upd H2 q (.lst [.ref a1, .ref a2])) p2 := o2.more (same_upd nq) nq (by rw [upd_same]; simp)
  have hg3 : G.ga = (((G.more a1).more a2).more q).ga := rfl
  have hx3 : ∀ b, G.mx b → (((G.more a1).more a2).more q).mx b := fun b z => .inl (.inl (.inl z))
  have lo3 : ∀ b, (((G.more a1).more a2).more q).mx b → G.mx b ∨ H b = none := fun b z => by
    rcases z with ((z | rfl) | rfl) | rfl
    · exact .inl z
    · exact .inr n1
    · exact .inr n2'
    · exact .inr nq'
  have k1 : (((G.more a1).more a2).more q).mx a1 := .inl (.inl (.inr rfl))
  have k2 : (((G.more a1).more a2).more q).mx a2 := .inl (.inr rfl)
  have k3 : (((G.more a1).more a2).more q).mx q := .inr rfl
  have hiσ : i < σ.length := by rw [← b2.ok.len]; exact (List.getElem?_eq_some_iff.mp hi2).1
  have hjσ : j < σ.length := by rw [← b2.ok.len]; exact (List.getElem?_eq_some_iff.mp hj2).1
  have ne1 : a1 ≠ q := fun z => by rw [z, nq] at g12; cases g12
  have ne2 : a2 ≠ q := fun z => by rw [z, nq] at g2; cases g2
  have ne3 : a1 ≠ a2 := fun z => nm2 (mu_more.mpr (.inr z.symm))
  have s3 := Stp.put_no (u := some (.ref q)) o3 hi2
  have b3 : Stp X.K G σ p H (σ.set i (some (.ref q))) p2 (upd H2 q (.lst [.ref a1, .ref a2])) := (b2.trans (StpE.grow b2.ok (same_upd nq)).1).trans (Stp.put_no (StpE.grow b2.ok (same_upd nq)).ok hi2)
  have f1 : (upd H2 q (.lst [.ref a1, .ref a2])) a1 = some (.lst vs1) := by rw [upd_ne ne1]; exact g12
  have f2 : (upd H2 q (.lst [.ref a1, .ref a2])) a2 = some (.lst vs2) := by rw [upd_ne ne2]; exact g2
  have f3 : (upd H2 q (.lst [.ref a1, .ref a2])) q = some (.lst [.ref a1, .ref a2]) := upd_same
  have rA1 : RepL X.K (Mu (((G.more a1).more a2).more q) (σ.set i (some (.ref q))) p2.env) (upd H2 q (.lst [.ref a1, .ref a2])) vs1 xs := RepL.mono X.K (fun b ob e n => same_upd nq b ob (s2.1.fr b ob e fun z => n z.mu)) (fun b z => by
    rcases s3.mu b z with z | z
    · rcases mu_more.mp z with z | rfl
      · rcases mu_more.mp z with z | rfl
        · exact s2.1.mu b z
        · exact .inr n2
      · exact .inr (s2.1.dom _ nq)
    · by_cases k : b = q
      · subst k; exact .inr (s2.1.dom _ nq)
      · rw [upd_ne k] at z; exact .inr (s2.1.dom _ z)) rl1
  have rA2 : RepL X.K (Mu (((G.more a1).more a2).more q) (σ.set i (some (.ref q))) p2.env) (upd H2 q (.lst [.ref a1, .ref a2])) vs2 ys := RepL.mono X.K (fun b ob e n => same_upd nq b ob e) (fun b z => by
    rcases s3.mu b z with z | z
    · rcases mu_more.mp z with z | rfl
      · exact .inl z
      · exact .inr nq
    · by_cases k : b = q
      · subst k; exact .inr nq
      · rw [upd_ne k] at z; exact .inr z) rl2
  generalize upd H2 q (.lst [.ref a1, .ref a2]) = H3 at *
  generalize ((G.more a1).more a2).more q = G3 at *
  refine ⟨.ref q, List.getElem?_set_self hiσ, G3, p2, s3.ok, ?_⟩
  cases e : dR p2 with
  | bad => rw [e] at h; exact h.elim
  | exc k p3 =>
    rw [e] at h
    exact fun H4 s4 => (h _ H4 (b3.less hg3 hx3 lo3 s4.1)).from b3.dom
  | ok v3 p3 =>
  rw [e] at h; clear e
  simp only [onR_ok] at h
  intro u3 H4 s4 r4
  have b4 := b3.less hg3 hx3 lo3 s4.1
  have o4 := s4.ok
  have hi4 := s4.2.no_ hi2
  have hj4 := s4.2.no_ hj2
  have f1 := s4.1.fr _ _ f1 (s3.ok.mxL k1)
  have f2 := s4.1.fr _ _ f2 (s3.ok.mxL k2)
  have f3 := s4.1.fr _ _ f3 (s3.ok.mxL k3)
  have rA1 := s4.1.repL rA1
  have rA2 := s4.1.repL rA2
  unfold twoE at h
  cases e3 : opd v3 p3 with
  | none => rw [e3] at h; exact h.elim
  | some d =>
  rw [e3] at h
  simp only at h
  have rb : Rdb X.K (fun _ => False) H4 u3 d := (r4.rdb o4 e3).free
  have ra : Rdb X.K (fun _ => False) H4 (.ref q) (.lst [.lst xs, .lst ys]) := .inl (.lst f3 (fun z => z) (.cons (.lst f1 (fun z => z) (RepL.mono X.K (fun _ _ e _ => e) (fun _ z => z.elim) rA1)) (.cons (.lst f2 (fun z => z) (RepL.mono X.K (fun _ _ e _ => e) (fun _ z => z.elim) rA2)) .nil)))
  split at h
  · -- they differ
    rename_i e5
    refine (op2_ne (fun _ => False) H4 (.ref q) u3 _ d _ _ (fun _ z => z.elim) ra rb e5).2 fun z H5 sm rz => ?_
    cases (show Rep X.K _ H5 z (.bl true) from rz)
    refine ⟨true, rfl, ?_⟩
    show (if (true : Bool) = true then _ else _)
    rw [if_pos rfl]
    refine ⟨G3, p3, o4.grow sm, fun u H6 s6 r6 => ?_⟩
    cases (show Rep X.K _ H6 u (.bl false) from r6)
    exact h _ _ _ ((b4.trans (StpE.grow b4.ok sm).1).less hg3 hx3 lo3 s6.1) .bl
  · rename_i e5
    split at h
    case isFalse => exact h.elim
    rename_i hlen
    refine (op2_ne (fun _ => False) H4 (.ref q) u3 _ d _ _ (fun _ z => z.elim) ra rb e5).2 fun z H5 sm rz => ?_
    cases (show Rep X.K _ H5 z (.bl false) from rz)
    refine ⟨false, rfl, ?_⟩
    show (if (false : Bool) = true then _ else _)
    rw [if_neg Bool.false_ne_true]
    refine ⟨.ref q, List.getElem?_set_self hiσ, q, rfl, ⟨_, .inl (.inl (sm _ _ f3))⟩, fun t m σ' H' => m = 2 - t ∧ t ≤ 2 ∧ σ'.length = σ.length ∧ Stp X.K G σ p H σ' p3 H' ∧ Ok X.K G3 σ' H' p3 ∧ H' q = some (.lst [.ref a1, .ref a2]) ∧ (∃ w1, H' a1 = some (.lst w1) ∧ (t ≤ 0 → w1.length < 16777216)) ∧ (∃ w2, H' a2 = some (.lst w2) ∧ (t ≤ 1 → w2.length < 16777216)),
      ⟨2, rfl, Nat.zero_le _, by simp, b4.trans (StpE.grow b4.ok sm).1, o4.grow sm, sm _ _ f3, ⟨vs1, sm _ _ f1, fun _ => by rw [rA1.length]; exact hlen.1⟩, vs2, sm _ _ f2, fun _ => by rw [rA2.length]; exact hlen.2⟩, ?_⟩
    rintro t m σ' H' ⟨rfl, ht, hl', b, o', fq, ⟨w1, e1, w1l⟩, w2, e2, w2l⟩
    have hjσ' : j < σ'.length := by rw [hl']; exact hjσ
    rcases t with _ | _ | t
    · refine .inr ⟨⟨_, .ref a1, .inl (.inl fq), rfl⟩, _, fun σ2 H2 k => ⟨1, by omega, k⟩, fun x0 H6 y => ?_⟩
      obtain ⟨rfl, y⟩ := y
      have y := y _ (.inl (.inl fq))
      cases y
      have b6 := b.trans (Stp.put_no (u := some (.ref a1)) b.ok hj4)
      have o6 := (Stp.put_no (u := some (.ref a1)) o' hj4).ok
      refine ⟨.ref a1, List.getElem?_set_self hjσ', .inl ⟨rfl, w1, .inl (.inl e1)⟩, G3, p3, o6, fun u H7 s7 r7 => ?_⟩
      have o7 : Ok X.K G3 (σ'.set j (some (.ref a1))) H7 p3 := s7.ok
      have b7 := b6.less hg3 hx3 lo3 s7.1
      have k6 := s7.1.fr _ _ e1 (o6.mxL k1)
      refine ⟨a1, w1, u, rfl, rfl, k6, by rw [sizeLine_eq]; exact w1l (Nat.le_refl _), rfl, by omega, by simpa using hl', b7.wrNew o7 hg3 hx3 n1 k1, o7.wrMx k1, ?_, ⟨_, upd_same, fun z => by omega⟩, w2, ?_, fun _ => w2l (by omega)⟩
      · rw [upd_ne (Ne.symm ne1)]; exact s7.1.fr _ _ fq (o6.mxL k3)
      · rw [upd_ne (Ne.symm ne3)]; exact s7.1.fr _ _ e2 (o6.mxL k2)
    · refine .inr ⟨⟨_, .ref a2, .inl (.inl fq), rfl⟩, _, fun σ2 H2 k => ⟨0, by omega, k⟩, fun x0 H6 y => ?_⟩
      obtain ⟨rfl, y⟩ := y
      have y := y _ (.inl (.inl fq))
      cases y
      have b6 := b.trans (Stp.put_no (u := some (.ref a2)) b.ok hj4)
      have o6 := (Stp.put_no (u := some (.ref a2)) o' hj4).ok
      refine ⟨.ref a2, List.getElem?_set_self hjσ', .inl ⟨rfl, w2, .inl (.inl e2)⟩, G3, p3, o6, fun u H7 s7 r7 => ?_⟩
      have o7 : Ok X.K G3 (σ'.set j (some (.ref a2))) H7 p3 := s7.ok
      have b7 := b6.less hg3 hx3 lo3 s7.1
      have k6 := s7.1.fr _ _ e2 (o6.mxL k2)
      refine ⟨a2, w2, u, rfl, rfl, k6, by rw [sizeLine_eq]; exact w2l (Nat.le_refl _), rfl, by omega, by simpa using hl', b7.wrNew o7 hg3 hx3 n2' k2, o7.wrMx k2, ?_, ⟨w1, ?_, fun z => by omega⟩, _, upd_same, fun z => by omega⟩
      · rw [upd_ne (Ne.symm ne2)]; exact s7.1.fr _ _ fq (o6.mxL k3)
      · rw [upd_ne ne3]; exact s7.1.fr _ _ e1 (o6.mxL k1)
    · have ht2 : t = 0 := by omega
      subst ht2
      exact .inl ⟨⟨_, .inl (.inl fq), Nat.le_refl _⟩, h σ' H' b⟩
  · exact h.elim
end
end Py
set_option maxRecDepth 100000
set_option maxHeartbeats 2000000
namespace Py
open PySem PySem.Spec PyProof.Rows L2 SeqAt
/-! ### a dict beside what is none: never equal -/
section
variable {A : Around} {s : Shared} {l : Addr} {x : Value}
theorem dict_off {prog : Program} {w : World} {E : Value → Shared → Prop} {T : String} {Q : Value → Shared → Prop} (hl : s.TypeIs (.ref l) "dict") (hx : s.TypeIs x T) (h : isSubtype (.type T) (.type "dict") = pure false) (hq : Q .notImplemented s) :
    wpAny (model prog w) A (call (.builtin "dict.__eq__") [.ref l, x]) Q E s := by
  refine wpAny_call_entry PySem.F.slot_dict_eq hl PySem.F.entry_dict_eq ?_ (PySem.F.args_dict_eq_2 _ _)
  show wpAny _ _ (Builtin.Dict.dictSlotArgs "__eq__" ⟨[.ref l, x], []⟩ >>= _) _ _ s
  refine wpAny_bind ?_
  unfold Builtin.Dict.dictSlotArgs
  refine wpAny_bind (wpAny_notOrdered_dict hl ?_)
  show wpAny _ _ (pure (Value.ref l, x)) _ _ s
  refine wpAny_pure ?_
  refine wpAny_bind (wpAny_isInstance (T := T) hx h ?_)
  simp only [Bool.not_false, if_true]
  wp_walk
  exact ⟨_, rfl, hq⟩
theorem int_off (b : Int) (u : Tok) (o : Obj) (h0 : s.heap.get? l = some o) {es : Array DictEntry} {ep : Nat} (hc : o.cls = .type "dict" ∧ o.data = .dict es ep) : ∀ (prog : Program) (w : World) (B : Around) (E : Value → Shared → Prop) (Q : Value → Shared → Prop), Q .notImplemented s → wpAny (model prog w) B (call (.builtin "int.__eq__") [.int b u, .ref l]) Q E s := fun prog w B E Q hq => by
  obtain ⟨cls, dd, data, sl⟩ := o
  obtain ⟨hc, hdt⟩ := hc
  simp only at hc hdt
  subst hc hdt
  have m : Meets (Builtin.«int.__eq__» ⟨[.int b u, .ref l], []⟩) (fun _ R s => s.heap.get? l = some { cls := .type "dict", dict := dd, data := .dict es ep, slots := sl } ∧ R (.ok (.ret .notImplemented)) s) :=
    .of_wp fun prog w A R s h => by obtain ⟨hp, g, d, tk, os⟩ := s; obtain ⟨hl, h⟩ := h; wp_walk using wpAny_loadPart' hl, wpAny_load hl; exact ⟨_, rfl, h⟩
  exact call_meets PySem.F.slot_int_eq rfl PySem.F.entry_int_eq (PySem.F.args_int_eq_2 _ _) m ⟨h0, hq⟩
theorem str_off (b : Str) (u : Tok) (o : Obj) (h0 : s.heap.get? l = some o) {es : Array DictEntry} {ep : Nat} (hc : o.cls = .type "dict" ∧ o.data = .dict es ep) : ∀ (prog : Program) (w : World) (B : Around) (E : Value → Shared → Prop) (Q : Value → Shared → Prop), Q .notImplemented s → wpAny (model prog w) B (call (.builtin "str.__eq__") [.str b u, .ref l]) Q E s := fun prog w B E Q hq => by
  obtain ⟨cls, dd, data, sl⟩ := o
  obtain ⟨hc, hdt⟩ := hc
  simp only at hc hdt
  subst hc hdt
  have m : Meets (Builtin.«str.__eq__» ⟨[.str b u, .ref l], []⟩) (fun _ R s => s.heap.get? l = some { cls := .type "dict", dict := dd, data := .dict es ep, slots := sl } ∧ R (.ok (.ret .notImplemented)) s) :=
    .of_wp fun prog w A R s h => by obtain ⟨hp, g, d, tk, os⟩ := s; obtain ⟨hl, h⟩ := h; wp_walk using wpAny_loadPart' hl, wpAny_load hl; exact ⟨_, rfl, h⟩
  exact call_meets PySem.F.slot_str_eq rfl PySem.F.entry_str_eq (PySem.F.args_str_eq_2 _ _) m ⟨h0, hq⟩
theorem list_off {b : Addr} {items : Array Value} (hb : s.heap.IsList b items) (o : Obj) (h0 : s.heap.get? l = some o) {es : Array DictEntry} {ep : Nat} (hc : o.cls = .type "dict" ∧ o.data = .dict es ep) : ∀ (prog : Program) (w : World) (B : Around) (E : Value → Shared → Prop) (Q : Value → Shared → Prop), Q .notImplemented s → wpAny (model prog w) B (call (.builtin "list.__eq__") [.ref b, .ref l]) Q E s := fun prog w B E Q hq => by
  obtain ⟨cls, dd, data, sl⟩ := o
  obtain ⟨hc, hdt⟩ := hc
  simp only at hc hdt
  subst hc hdt
  obtain ⟨⟨cls, dd2, data2, sl2⟩, ho, hc, n, hd⟩ := id hb
  simp only at hc hd
  subst hc hd
  have m : Meets (Builtin.«list.__eq__» ⟨[.ref b, .ref l], []⟩) (fun _ R s => s.heap.get? b = some { cls := .type "list", dict := dd2, data := .seq items n, slots := sl2 } ∧ s.heap.get? l = some { cls := .type "dict", dict := dd, data := .dict es ep, slots := sl } ∧ R (.ok (.ret .notImplemented)) s) :=
    .of_wp fun prog w A R s h => by obtain ⟨hp, g, d, tk, os⟩ := s; obtain ⟨hb, hl, h⟩ := h; have f1 := PySem.F.sub_dict_list; wp_walk using wpAny_loadPart' hb, wpAny_loadPart' hl; exact ⟨_, rfl, h⟩
  exact call_meets PySem.F.slot_list_eq ⟨_, ho, rfl⟩ PySem.F.entry_list_eq (PySem.F.args_list_eq_2 _ _) m ⟨ho, h0, hq⟩
theorem tup_off {b : Addr} {items : Array Value} (hb : s.heap.IsTuple b items) (o : Obj) (h0 : s.heap.get? l = some o) {es : Array DictEntry} {ep : Nat} (hc : o.cls = .type "dict" ∧ o.data = .dict es ep) : ∀ (prog : Program) (w : World) (B : Around) (E : Value → Shared → Prop) (Q : Value → Shared → Prop), Q .notImplemented s → wpAny (model prog w) B (call (.builtin "tuple.__eq__") [.ref b, .ref l]) Q E s := fun prog w B E Q hq => by
  obtain ⟨cls, dd, data, sl⟩ := o
  obtain ⟨hc, hdt⟩ := hc
  simp only at hc hdt
  subst hc hdt
  obtain ⟨⟨cls, dd2, data2, sl2⟩, ho, hc, n, hd⟩ := id hb
  simp only at hc hd
  subst hc hd
  have m : Meets (Builtin.«tuple.__eq__» ⟨[.ref b, .ref l], []⟩) (fun _ R s => s.heap.get? b = some { cls := .type "tuple", dict := dd2, data := .seq items n, slots := sl2 } ∧ s.heap.get? l = some { cls := .type "dict", dict := dd, data := .dict es ep, slots := sl } ∧ R (.ok (.ret .notImplemented)) s) :=
    .of_wp fun prog w A R s h => by obtain ⟨hp, g, d, tk, os⟩ := s; obtain ⟨hb, hl, h⟩ := h; have f1 := PySem.F.sub_dict_tuple; wp_walk using wpAny_loadPart' hb, wpAny_loadPart' hl; exact ⟨_, rfl, h⟩
  exact call_meets PySem.F.slot_tuple_eq ⟨_, ho, rfl⟩ PySem.F.entry_tuple_eq (PySem.F.args_tuple_eq_2 _ _) m ⟨ho, h0, hq⟩
theorem non_off : ∀ (prog : Program) (w : World) (B : Around) (E : Value → Shared → Prop) (Q : Value → Shared → Prop), Q .notImplemented s → wpAny (model prog w) B (call (.builtin "NoneType.__eq__") [.none, .ref l]) Q E s := fun prog w B E Q hq =>
  call_gives PySem.F.slot_NoneType_eq rfl PySem.F.entry_NoneType_eq (PySem.F.args_NoneType_eq_2 _ _) (NoneType___eq___none_ref_0 l) hq
/-- both ways -/
theorem eq_off {T id : String} (hl : s.TypeIs (.ref l) "dict") (hx : s.TypeIs x T) (hT : (Value.type "dict" != Value.type T) = true) (hT2 : (Value.type T != Value.type "dict") = true) (s1 : isSubtype (.type T) (.type "dict") = pure false) (s2 : isSubtype (.type "dict") (.type T) = pure false)
    (h1 : Slot T (cmpInfo .Eq).2.1 id) (h2 : Slot T (cmpInfo .Eq).2.2 id) (hd : ∀ (prog : Program) (w : World) (B : Around) (E : Value → Shared → Prop) (Q : Value → Shared → Prop), Q .notImplemented s → wpAny (model prog w) B (call (.builtin id) [x, .ref l]) Q E s) (hne : x ≠ .ref l)
    (k1 : ∀ (prog : Program) (w : World) (E : Value → Shared → Prop) (Q : Bool → Shared → Prop), Q false s → wpAny (model prog w) A (isSame (.ref l) x) Q E s) (k2 : ∀ (prog : Program) (w : World) (E : Value → Shared → Prop) (Q : Bool → Shared → Prop), Q false s → wpAny (model prog w) A (isSame x (.ref l)) Q E s) (hu : A.units < cLine) (hsh : x = .none ∨ (∃ i t, x = .int i t) ∨ (∃ z t, x = .str z t) ∨ ∃ b, x = .ref b) :
    EqAt A s (.ref l) x false ∧ EqAt A s x (.ref l) false := by
  constructor
  · intro prog w E Q hq
    unfold eqBool
    refine wpAny_holding ?_
    refine wpAny_ite_split (fun hab => absurd (eq_of_beq hab) (Ne.symm hne)) (fun _ => ?_)
    refine wpAny_bind ?_
    exact rc_eq_decline_or (k := false) hl hx hT s1 PySem.F.slot_dict_eq h2 (fun _ z => dict_off hl hx s1 z) (fun _ z => hd _ _ _ _ _ z) (fun _ z => k1 _ _ _ _ z) (.inr hu) (wpAny_truthy_bool hq)
  · intro prog w E Q hq
    have rc := fun (Q' : Value → Shared → Prop) (z : Q' (.bool false) s) => rc_eq_decline_or (k := false) (E := E) (Q := Q') hx hl hT2 s2 h1 PySem.F.slot_dict_eq_refl (fun _ z => hd prog w A E _ z) (fun _ z => dict_off hl hx s1 z) (fun _ z => k2 prog w E _ z) (.inr hu) z
    unfold eqBool
    refine wpAny_holding ?_
    refine wpAny_ite_split (fun hab => absurd (eq_of_beq hab) hne) (fun _ => ?_)
    rcases hsh with rfl | ⟨i, t, rfl⟩ | ⟨z, t, rfl⟩ | ⟨b, rfl⟩
    · exact wpAny_bind (rc _ (wpAny_truthy_bool hq))
    · exact wpAny_bind (rc _ (wpAny_truthy_bool hq))
    · exact wpAny_bind (rc _ (wpAny_truthy_bool hq))
    · exact wpAny_bind (rc _ (wpAny_truthy_bool hq))
end
end Py
set_option maxRecDepth 100000
set_option maxHeartbeats 2000000
namespace Py
open PySem PySem.Spec PyProof.Rows L2 SeqAt
/-! ### x in a list that holds a dict without entries -/
def okz : D → Bool
  | .dic kvs => kvs.isEmpty
  | .bl _ => false
  | d => okD 19 d
def isdic : D → Bool
  | .dic _ => true
  | _ => false
def deqz (z a : D) : Bool := if isdic z then isdic a else if isdic a then false else deq z a
def opInX : D → D → Option Rv
  | a, .lst ds => if okz a && ds.all okz then some (.sh (.bl (ds.any fun z => deqz z a))) else none
  | _, _ => none
def rInX (K : PySem.W.Frag) : R2 := fun x y H Q => ∃ (M : Addr → Prop) (a : D) (ds : List D), Rdb K M H x a ∧ Rdb K M H y (.lst ds) ∧ okz a = true ∧ ds.all okz = true ∧ Q (.bl (ds.any fun z => deqz z a)) H
def isDc (h : Heap) : Value → Bool
  | .ref a => match h.get? a with
    | some o => o.cls == .type "dict"
    | none => false
  | _ => false
theorem isDc_reads {h : Heap} {v : Value} {d : PyData} {as : List Addr} (r : Reads h v d as) (hd : d.canLay0 = true) : isDc h v = false := by
  cases r with
  | none => rfl
  | bool => rfl
  | int => rfl
  | str => rfl
  | list h1 h2 h3 h4 => unfold isDc; simp only [h1, h2]; decide
  | tuple h1 h2 h3 h4 => unfold isDc; simp only [h1, h2]; decide
  | dict => simp [PyData.canLay0] at hd
/-- the object of a dict without entries -/
structure Dc0 (s : Shared) (l : Addr) : Prop where
  ob : ∃ (o : Obj) (es : Array DictEntry) (ep : Nat), s.heap.get? l = some o ∧ o.cls = .type "dict" ∧ o.data = .dict es ep
theorem Dc0.ty {s : Shared} {l : Addr} (h : Dc0 s l) : s.TypeIs (.ref l) "dict" := by
  obtain ⟨o, es, ep, h1, h2, _⟩ := h.ob
  exact ⟨o, h1, h2⟩
theorem Dc0.is {s : Shared} {l : Addr} (h : Dc0 s l) : isDc s.heap (.ref l) = true := by
  obtain ⟨o, es, ep, h1, h2, _⟩ := h.ob
  unfold isDc; simp only [h1, h2]; decide
theorem off_reads {A : Around} {s : Shared} {l : Addr} {x : Value} {d : PyData} {as : List Addr} (hl : Dc0 s l) (r : Reads s.heap x d as) (hd : d.canLay0 = true) (hb : ∀ b, d ≠ .bool b) (hu : A.units < cLine) : EqAt A s (.ref l) x false ∧ EqAt A s x (.ref l) false := by
  obtain ⟨o, es, ep, h1, h2, h3⟩ := hl.ob
  cases r with
  | none => exact eq_off hl.ty rfl (by decide) (by decide) PySem.F.sub_NoneType_dict PySem.F.sub_dict_NoneType PySem.F.slot_NoneType_eq PySem.F.slot_NoneType_eq_refl non_off nofun (fun _ _ _ _ q => wpAny_of_eq (rfl : isSame (.ref l) .none = pure false) q) (fun _ _ _ _ q => wpAny_of_eq (rfl : isSame .none (.ref l) = pure false) q) hu (.inl rfl)
  | bool b => exact absurd rfl (hb b)
  | int i t => exact eq_off hl.ty rfl (by decide) (by decide) PySem.F.sub_int_dict PySem.F.sub_dict_int PySem.F.slot_int_eq PySem.F.slot_int_eq_refl (int_off i t o h1 ⟨h2, h3⟩) nofun (fun _ _ _ _ q => wpAny_of_eq (rfl : isSame (.ref l) (.int i t) = pure false) q) (fun _ _ _ _ q => wpAny_of_eq (rfl : isSame (.int i t) (.ref l) = pure false) q) hu (.inr (.inl ⟨i, t, rfl⟩))
  | str z t => exact eq_off hl.ty rfl (by decide) (by decide) PySem.F.sub_str_dict PySem.F.sub_dict_str PySem.F.slot_str_eq PySem.F.slot_str_eq_refl (str_off z t o h1 ⟨h2, h3⟩) nofun (fun _ _ _ _ q => wpAny_of_eq (rfl : isSame (.ref l) (.str z t) = pure false) q) (fun _ _ _ _ q => wpAny_of_eq (rfl : isSame (.str z t) (.ref l) = pure false) q) hu (.inr (.inr (.inl ⟨z, t, rfl⟩)))
  | @list b o2 vs n xs as g1 g2 g3 g4 =>
    have hb : s.heap.IsList b vs := ⟨o2, g1, g2, n, g3⟩
    have hne : b ≠ l := fun e => by subst e; rw [g1] at h1; cases h1; rw [g2] at h2; exact absurd h2 (by decide)
    exact eq_off hl.ty ⟨o2, g1, g2⟩ (by decide) (by decide) PySem.F.sub_list_dict PySem.F.sub_dict_list PySem.F.slot_list_eq PySem.F.slot_list_eq_refl (list_off hb o h1 ⟨h2, h3⟩) (fun e => hne (Value.ref.inj e)) (fun _ _ _ _ q => wpAny_isSame_ref_other (Ne.symm hne) h1 g1 (by rw [h2]; simp) q) (fun _ _ _ _ q => wpAny_isSame_ref_other' hne g1 h1 (by rw [h2]; simp) q) hu (.inr (.inr (.inr ⟨b, rfl⟩)))
  | @tuple b o2 vs n xs as g1 g2 g3 g4 =>
    have hb : s.heap.IsTuple b vs := ⟨o2, g1, g2, n, g3⟩
    have hne : b ≠ l := fun e => by subst e; rw [g1] at h1; cases h1; rw [g2] at h2; exact absurd h2 (by decide)
    exact eq_off hl.ty ⟨o2, g1, g2⟩ (by decide) (by decide) PySem.F.sub_tuple_dict PySem.F.sub_dict_tuple PySem.F.slot_tuple_eq PySem.F.slot_tuple_eq_refl (tup_off hb o h1 ⟨h2, h3⟩) (fun e => hne (Value.ref.inj e)) (fun _ _ _ _ q => wpAny_isSame_ref_other (Ne.symm hne) h1 g1 (by rw [h2]; simp) q) (fun _ _ _ _ q => wpAny_isSame_ref_other' hne g1 h1 (by rw [h2]; simp) q) hu (.inr (.inr (.inr ⟨b, rfl⟩)))
  | dict => simp [PyData.canLay0] at hd
/-- a dict without entries, whatever its keys are -/
structure Dc1 (s : Shared) (a : Addr) : Prop where
  sm : (a == sysModules) = false
  ob : ∃ (o : Obj) (ep : Nat), s.heap.get? a = some o ∧ o.ExactDict ∧ o.data = .dict #[] ep
theorem Dc1.of {prog : Program} {w : World} {s : Shared} {a : Addr} (ha : (a == sysModules) = false) (d : s.heap.DictOf (mixKind prog w) a []) : Dc1 s a := by
  obtain ⟨o, es, ep, h1, h2, h3, h4, h5, h6⟩ := d
  have e : es = #[] := by
    have := h5.length
    simp at this
    exact this
  subst e
  exact ⟨ha, o, ep, h1, h2, h3⟩
theorem Dc1.at {s : Shared} {a : Addr} (h : Dc1 s a) (prog : Program) (w : World) : s.heap.DictOf (mixKind prog w) a [] := by
  obtain ⟨o, ep, h1, h2, h3⟩ := h.ob
  exact ⟨o, #[], ep, h1, h2, h3, fun e he => by simp at he, .nil, List.nodup_nil⟩
theorem Dc1.dc {s : Shared} {a : Addr} (h : Dc1 s a) : Dc0 s a := by
  obtain ⟨o, ep, h1, h2, h3⟩ := h.ob
  exact ⟨o, #[], ep, h1, h2.1, h3⟩
theorem dc_same {A : Around} {s : Shared} {a b : Addr} (ha : Dc1 s a) (hb : Dc1 s b) (hu : A.units < cLine) : EqAt A s (.ref a) (.ref b) true := by
  by_cases e : a = b
  · subst e; exact EqAt.same (.ref a)
  · intro prog w E Q hq
    unfold eqBool
    refine wpAny_holding ?_
    refine wpAny_ite_split (fun hab => absurd (Value.ref.inj (eq_of_beq hab)) e) (fun _ => ?_)
    refine wpAny_bind ?_
    exact PySem.W.keq_eq (knd := mixKind prog w) (r := true) ha.sm hb.sm (ha.at prog w) (hb.at prog w) hu (fun _ => .nil) (wpAny_truthy_bool hq)
/-! the values in the list -/
section
variable {X : Cx} {pins : List (Addr × Obj)} {σ : L2.St} {H : Hp} {s : Shared} {M : Addr → Prop}
/-- a value that stands for d: a dict without entries, or data -/
inductive Zv (s : Shared) (u : Value) (d : D) : Prop where
  | dc (a : Addr) : u = .ref a → Dc1 s a → d = .dic [] → Zv s u d
  | dat (as : List Addr) : Reads s.heap u (pyD 19 d) as → okD 19 d = true → isdic d = false → (∀ b, pyD 19 d ≠ .bool b) → Zv s u d
theorem okz_cases {d : D} (h : okz d = true) : d = .dic [] ∨ (okD 19 d = true ∧ isdic d = false ∧ ∀ b, pyD 19 d ≠ .bool b) := by
  cases d with
  | dic kvs =>
    cases kvs with
    | nil => exact .inl rfl
    | cons _ _ => cases h
  | bl b => cases h
  | obj c fs => cases h
  | bx => cases h
  | err c => cases h
  | non => exact .inr ⟨h, rfl, fun b e => by cases e⟩
  | int i => exact .inr ⟨h, rfl, fun b e => by cases e⟩
  | str x => exact .inr ⟨h, rfl, fun b e => by cases e⟩
  | tup xs => exact .inr ⟨h, rfl, fun b e => by cases e⟩
  | lst xs => exact .inr ⟨h, rfl, fun b e => by cases e⟩
theorem zv_of (I : Inv X pins σ H s) {v : V} {u : Value} {d : D} (rv : RelV v u) (r : Rdb X.K M H v d) (h : okz d = true) : Zv s u d := by
  rcases okz_cases h with rfl | ⟨h1, h2, h3⟩
  · obtain ⟨a, xs, rfl, ha, rk⟩ := r.dic_
    cases rk
    obtain rfl : u = Value.ref a := rv
    obtain ⟨_, ya, va, ra, da⟩ := (show ObjOk X.prog X.w H s.heap a (.dK []) from I.hok a _ ha)
    cases ra
    exact .dc a rfl (Dc1.of ya da) rfl
  · obtain ⟨as, hr⟩ := Dp.reads I _ v u (rdb_dp (n := 19) r h1) rv
    exact .dat as hr h1 h2 h3
theorem zvs_of (I : Inv X pins σ H s) : ∀ {xs : List V} {us : List Value} {ds : List D}, Vals xs us → RepL X.K M H xs ds → ds.all okz = true → Paired (Zv s) us ds
  | _, _, _, .nil, .nil, _ => .nil
  | _, _, _, .cons r t, .cons q w, h => by
    rw [List.all_cons, Bool.and_eq_true] at h
    exact .cons (zv_of I r (.inl q) h.1) (zvs_of I t w h.2)
/-- the test that the walk makes -/
noncomputable def eZ (s : Shared) (x : Value) (a : D) (y : Value) : Bool := if isDc s.heap y then isDc s.heap x else if isDc s.heap x then false else PyData.eqv (readOf s.heap y) (pyD 19 a)
theorem zv_lay {s : Shared} {u : Value} {d : D} {as : List Addr} (r : Reads s.heap u (pyD 19 d) as) (h : okD 19 d = true) : readOf s.heap u = pyD 19 d ∧ isDc s.heap u = false ∧ (pyD 19 d).canLay0 = true :=
  ⟨readOf_eq (pyD_lay 19 d h).1 r, isDc_reads r (pyD_lay 19 d h).1, (pyD_lay 19 d h).1⟩
theorem zv_eq {A : Around} {x y : Value} {a d : D} (hx : Zv s x a) (hy : Zv s y d) (hu : A.in1.units + 64 < cLine) : EqAt A.in1 s y x (eZ s x a y) ∧ eZ s x a y = deqz d a := by
  cases hy with
  | dc l e1 d1 e2 =>
    subst e1 e2
    cases hx with
    | dc m f1 f2 f3 =>
      subst f1 f3
      have e : eZ s (.ref m) (.dic []) (.ref l) = true := by unfold eZ; rw [d1.dc.is, f2.dc.is]; rfl
      rw [e]
      exact ⟨dc_same d1 f2 (by omega), rfl⟩
    | dat as f1 f2 f3 f4 =>
      obtain ⟨_, g2, g3⟩ := zv_lay f1 f2
      have e : eZ s x a (.ref l) = false := by unfold eZ; rw [d1.dc.is, g2]; rfl
      rw [e]
      refine ⟨(off_reads d1.dc f1 g3 f4 (by omega)).1, ?_⟩
      unfold deqz; rw [f3]; rfl
  | dat as e1 e2 e3 e4 =>
    obtain ⟨g1, g2, g3⟩ := zv_lay e1 e2
    cases hx with
    | dc m f1 f2 f3 =>
      subst f1 f3
      have e : eZ s (.ref m) (.dic []) y = false := by unfold eZ; rw [g2, f2.dc.is]; rfl
      rw [e]
      refine ⟨(off_reads f2.dc e1 g3 e4 (by omega)).2, ?_⟩
      unfold deqz; rw [e3]; rfl
    | dat bs f1 f2 f3 f4 =>
      obtain ⟨k1, k2, k3⟩ := zv_lay f1 f2
      have e : eZ s x a y = PyData.eqv (pyD 19 d) (pyD 19 a) := by unfold eZ; rw [g2, k2, g1]; rfl
      rw [e]
      refine ⟨PySem.W.keq_at e1 f1 (pyD_shaped (by omega) e2) (pyD_shaped (by omega) f2) hu, ?_⟩
      unfold deqz; rw [e3, f3]
      exact eqv_deq 19 d a e2 f2
end
theorem op_inX {X : Cx} (hu : X.A.units + 65 < cLine) : OpR X (compareOp .In) (rInX X.K) := by
  intro pins s σ H x y v u Q I rx ry h
  obtain ⟨M, a, ds, h1, h2, h3, h4, q⟩ := h
  have hx := zv_of I rx h1 h3
  obtain ⟨l, xs, rfl, hl, rl⟩ := h2.lst_
  obtain rfl : u = Value.ref l := ry
  obtain ⟨its, rv, ⟨o, n, ho, hc, hdn, hdt⟩, hlen⟩ := I.list (.inl (.inl hl))
  have zs := zvs_of I rv rl h4
  have key : ∀ (us : List Value) (es : List D), Paired (Zv s) us es → (∀ y ∈ us, EqAt X.A.in1 s y v (eZ s v a y)) ∧ us.any (eZ s v a) = es.any fun z => deqz z a := by
    intro us es p
    induction p with
    | nil => exact ⟨fun y hy => (by cases hy), rfl⟩
    | @cons y d us es r t ih =>
      obtain ⟨k1, k2⟩ := zv_eq (A := X.A) hx r (by show X.A.units + 1 + 64 < cLine; omega)
      refine ⟨fun z hz => ?_, by rw [List.any_cons, List.any_cons, k2, ih.2]⟩
      rcases List.mem_cons.mp hz with rfl | hz
      · exact k1
      · exact ih.1 z hz
  obtain ⟨k1, k2⟩ := key _ _ zs
  refine in_listAt (eZ s v a) (items := its.toArray) ⟨o, ho, hc, n, hdt⟩ (fun y hy => k1 y (by simpa using hy)) ?_
  have e : its.toArray.any (eZ s v a) = ds.any fun z => deqz z a := by rw [← k2]; simp
  rw [e]
  exact ⟨.bl _, H, I, rfl, q⟩
theorem op2_inX {K : PySem.W.Frag} : Op2 K opInX (rInX K) := by
  intro M H x y a b v Q dom ra rb h
  unfold opInX at h
  split at h
  · rename_i ds
    split at h
    · rename_i hz
      rw [Bool.and_eq_true] at hz
      cases h
      exact ⟨rfl, fun r => ⟨M, a, ds, ra, rb, hz.1, hz.2, res_bl r⟩⟩
    · cases h
  · cases h
end Py
set_option maxRecDepth 100000
namespace Py
open PySem PySem.Spec PyProof.Rows L2
/-- x = e, what is new is shared from here on -/
def sAsgF (i : Nat) (da : Dn) : SDn := fun p => onR (da p) fun v p1 => asgn i v.soft p1
section
variable {s : Sx} {T : Tab} {pos : Pos}
theorem vs_setF (i : Nat) {x : Str} {e : Expr} {da : Dn} {q : Pos} (hN : s.N[i]? = some x) (hl : locB s x = true) (he : VE s T e da) (hs : ∀ env, swapsWith e (some (.Name x q)) pos.line env = pure false := by intro _; rfl) : VS s T (.Assign [.Name x q] e pos) (sAsgF i da) := fun X W c tk => by
  obtain ⟨h1, h2⟩ := loc_of c.1 hl
  refine PSt.of (ps_set (i := i) (by rw [c.1.N]; exact c.1.nd) (by rw [c.1.N]; exact hN) h1 (he X W c.1 tk) (hs _) h2) fun D σ H h => ?_
  obtain ⟨G, p, o, h⟩ := h
  refine ⟨G, p, o, ?_⟩
  unfold sAsgF at h
  cases e2 : da p with
  | bad => rw [e2] at h; exact h.elim
  | exc c q => rw [e2] at h; exact fun H1 s => h σ H1 s.1
  | ok v p1 =>
    rw [e2] at h
    intro u H1 s1 r1
    refine asgn_run (v := v.soft) s1 ?_ h
    have r2 := r1.soft
    cases v with
    | sh d => exact r2
    | ow d => exact r2
    | bo i => exact r2
    | sr => exact r2
/-- a, b = e, e a list -/
def gTL (gs : Tgs) : Tgd := fun d env => match d with
  | .lst ds => gs ds env
  | _ => none
theorem vg_lst {es : List Expr} {k : Nat} {is : List Nat} {gs : Tgs} {n : Nat} (h : VGs s T es is gs) (hn : ∀ env, (assignEach es env).length = n := by intro _; rfl) (hst : ∀ env, (assignEach es env).findIdx? (·.1) = none := by intro _; rfl) (hlen : ∀ ds env env', gs ds env = some env' → ds.length = n) : VG s T (.Tuple es k pos) is (gTL gs) := fun X c => by
  refine PG.of (L2.pg_lst c.calm (h X c) (hn _) (hst _)) fun v σ H Q hh => ?_
  obtain ⟨G, p, d, env', o, r, h, k⟩ := hh
  cases d <;> simp only [gTL] at h <;> (try cases h)
  cases r with
  | lst h1 _ r1 => exact ⟨_, _, rfl, .inl (.inl h1), r1.length.trans (hlen _ _ _ h), G, p, _, env', o, r1, h, k⟩
end
end Py
set_option maxRecDepth 100000
set_option maxHeartbeats 2000000
namespace Py
open PySem PySem.Spec PyProof.Rows L2

/-! ### x.split(y) -/
noncomputable def opSplit : D → D → Option Rv
  | .str x, .str y => if y ≠ [] ∧ x.length + 2 ≤ 16777216 then some (.ow (.lst ((Txt.split (S x) (S y)).map fun z => .str z.cps.toList))) else none
  | _, _ => none
theorem repL_strs {K : PySem.W.Frag} {M : Addr → Prop} {H : Hp} : ∀ ys : List Str, RepL K M H (ys.map V.str) (ys.map fun z => .str z.cps.toList)
  | [] => .nil
  | y :: ys => .cons (by rw [show V.str y = V.str (S y.cps.toList) from congrArg V.str (S_of rfl)]; exact .str) (repL_strs ys)
theorem split_run {K : PySem.W.Frag} {M : Addr → Prop} {H : Hp} {x y : V} {a b : D} {v : Rv} {Q : VK} (ra : Rdb K M H x a) (rb : Rdb K M H y b) (h : opSplit a b = some v) : v.plain = true ∧ (Res K M H Q v → ∃ a b, x = .str a ∧ [y] = [.str b] ∧ (b.length == 0) = false ∧ a.length + 2 ≤ sizeLine ∧ rNewStrs (Txt.split a b) H Q) := by
  unfold opSplit at h
  split at h
  · rename_i s t
    split at h
    · rename_i hc
      cases h
      refine ⟨rfl, fun q => ⟨_, _, ra.str_, by rw [rb.str_], ?_, ?_, ?_⟩⟩
      · rw [S_len]
        cases t with
        | nil => exact absurd rfl hc.1
        | cons _ _ => rfl
      · rw [S_len, sizeLine_eq]; exact hc.2
      · exact fun p hp => res_lst (repL_strs _) q p hp
    · cases h
  · cases h
section
variable {s : Sx} {T : Tab} {pos : Pos}
theorem v_split {o e : Expr} {do_ de : Dn} {apos : Pos} (ho : VE s T o (do_)) (he : VE s T e de) (hs : ∀ env, starEach [e] env = [(false, eval e env)] := by intro _; rfl) (hbase : ∀ env, attributeBase o "split" env (eval o env) = eval o env := by intro _; rfl) (hline : (apos.endLine == pos.line) = true := by rfl) :
    VE s T (.Call (.Attribute o "split" apos) [e] [] pos) (dM1 opSplit do_ de) :=
  v_m1 (r := fun K x xs H Q => ∃ a b, x = .str a ∧ xs = [.str b] ∧ (b.length == 0) = false ∧ a.length + 2 ≤ sizeLine ∧ rNewStrs (Txt.split a b) H Q)
    (fun X to te h1 h2 => pe_split h1 h2 (hs _) (hbase _) hline) (fun K M H x y a b v Q dom ra rb h => split_run ra rb h) ho he
/-! ### [*xs, ..], xs a list -/
def dStarL (de : Dn) (dr : DnL) : DnL := fun p => (de p).bind fun v p1 => match opd v p1 with
  | some (.lst ds) => (dr p1).bind fun xs p2 => .ok (ds.map .sh ++ xs) p2
  | _ => .bad
theorem vl_starL {e : Expr} {es : List Expr} {de : Dn} {dr : DnL} {q : Pos} (he : VE s T e de) (hr : VL s T es dr) (hs : ∀ env, starEach (.Starred e q :: es) env = (true, eval e env) :: starEach es env := by intro _; rfl) : VL s T (.Starred e q :: es) (dStarL de dr) := fun X W c tk => PA.of (StX.pa_star (he X W c tk) (hr X W c tk) (hs _)) fun σ H Q h => by
  obtain ⟨G, p, o, h⟩ := h
  refine te_bindL o h fun v p1 u H1 s1 r1 h => ?_
  split at h
  · rename_i ds e1
    obtain ⟨a, xs, rfl, h1, hrl⟩ := (r1.rdb s1.ok e1).lst_
    refine ⟨a, xs, rfl, .inr (.inl (.inl h1)), ?_⟩
    refine tl_bindL s1.ok h fun v2 p2 us H2 s2 r2 h => ?_
    exact h (xs ++ us) H2 (.refl s2.ok) (pair_app (pair_step s2 (repL_pair hrl)) r2)
  · exact h.elim
end

/-! ### o.replace(y, z * e): the two texts are two objects -/
noncomputable def replD (x y z : List Nat) (n : Int) : List Nat := (Txt.replace (S x) (S y) (Txt.mul (S z) n)).cps.toList
def tRepl (y z : Str) (to te : TE) : TE := fun σ H Q => to σ H fun v H1 => ∃ x, v = .str x ∧ te σ H1 fun u H2 => ∃ n : Int, u = .int n ∧ 1 ≤ n ∧ n ≤ 1000 ∧ x.length + (x.length + 1) * (z.length * n.toNat) ≤ 16777216 ∧ z.length ≤ 1000 ∧ Q (.str (Txt.replace x y (Txt.mul z n))) H2
theorem noneBooked {X : Cx} {pins : List (Addr × Obj)} {σ : L2.St} {H : Hp} {s : Shared} (I : Inv X pins σ H s) (hk : PySem.W.nsIn X.K cStatics sharingNotToldKey = some none) : NoneBooked s.heap := by
  obtain ⟨m, G, _⟩ := I.nolimit
  refine ⟨m, G, ?_⟩
  have X' := I.kIn
  obtain ⟨o, es, ep, ho, hd, _, hf⟩ := G
  unfold PySem.W.nsIn at hk
  split at hk
  · rename_i c d es' n' sl q
    have := X' _ _ q
    rw [ho] at this
    cases this
    cases hd
    split at hk
    · cases hk
    · rename_i he
      rw [← hf]
      unfold nsFind findBy
      rw [← Array.find?_toList, he]
      rfl
  · cases hk
theorem mul_len (z : Str) (n : Int) : (Txt.mul z n).length = z.length * n.toNat := by
  rw [txt_mul, S_len, List.length_flatten, List.map_replicate, List.sum_replicate_nat]
  show n.toNat * z.cps.toList.length = z.cps.size * n.toNat
  rw [Array.length_toList, Nat.mul_comm]
section
variable {X : Cx} {o e : Expr} {y z : Str} {j k : Nat} {c0 c1 apos pos mp : Pos} {to te : TE}
theorem pet_repl (hk0 : PySem.W.nsIn X.K cStatics sharingNotToldKey = some none) (ho : PE X o to) (he : PE X e te)
    (hst : starEach [.Constant (.str y) j c0, .BinOp (.Constant (.str z) k c1) .Mult e mp] X.env = [(false, eval (.Constant (.str y) j c0) X.env), (false, eval (.BinOp (.Constant (.str z) k c1) .Mult e mp) X.env)])
    (hbase : attributeBase o "replace" X.env (eval o X.env) = eval o X.env) (hline : (apos.endLine == pos.line) = true) :
    PET X (.Call (.Attribute o "replace" apos) [.Constant (.str y) j c0, .BinOp (.Constant (.str z) k c1) .Mult e mp] [] pos) (tRepl y z to te) := by
  intro pins s σ H Q h0 I h
  refine PySem.Call_method2 hbase hst hline (wpAny_mono (PySem.wpAny_toks (ho.run pins s σ H _ I h)) (fun v s1 q => ?_) fun _ _ z => z.2)
  obtain ⟨hk, v', H1, I1, r1, x, e1, q⟩ := q
  subst e1
  obtain ⟨tx, e2⟩ := r1
  subst e2
  refine ⟨"str", _, PySem.F.plainAttrs_str, PySem.F.slot_str_replace, PySem.F.type_str_replace, typeIs_str _ _ _, (fun _ e => nomatch e), Calls.callWith_builtin rfl (Calls.evalArgs_plain (Calls.spliced_cons ?_))⟩
  refine Calls.Constant_str (Calls.spliced_cons (wpAny_BinOp (Calls.Constant_str ?_)))
  refine wpAny_mono (PySem.wpAny_toks_of (n := s1.toks + 1 + 1) (Nat.le_refl _) (he.run pins _ σ H1 _ (I1.tok _) q)) (fun u s2 q2 => ?_) fun _ _ z => z.2
  obtain ⟨hk2, u', H2, I2, r2, n, rfl, h1, h2, hb, hz, q⟩ := q2
  obtain ⟨tn, rfl⟩ := r2
  have hnb := noneBooked I2 hk0
  have hlen := mul_len z n
  have hb2 : x.length + (x.length + 1) * (Txt.mul z n).length ≤ 16777216 := by rw [hlen]; exact hb
  have fin : ∀ (tv kk : Nat), tv ≠ 0 → s1.toks ≠ tv → wpAny (model X.prog X.w) X.A (call (.builtin "str.replace") [.str x tx, .str y s1.toks, .str (Txt.mul z n) tv]) (EP X pins σ Q) X.xe { s2 with toks := kk } := fun tv kk n1 n2 =>
    PySem.SC.replaceA (by show s1.toks ≠ 0; omega) n1 n2 hb2 (fun t' k => ⟨.str (Txt.replace x y (Txt.mul z n)), H2, I2.tok k, ⟨t', rfl⟩, q⟩) (by exact hnb)
  have hzn : z.length * n.toNat ≤ 16777216 := by
    have : z.length * n.toNat ≤ 1000 * 1000 := Nat.mul_le_mul hz (by omega)
    omega
  refine PySem.P.mul_str (by rw [decide_eq_false (by omega), decide_eq_false (by omega)]; rfl) (fun _ _ => ?_) (fun _ _ => ?_) ?_
  · have hn : 0 < n := by omega
    intro c
    have c : (2 ^ 63 - 1) / n < (z.length : Int) := c
    rw [Int.ediv_lt_iff_lt_mul hn] at c
    have e : ((z.length * n.toNat : Nat) : Int) = (z.length : Int) * n := by rw [Int.natCast_mul, Int.toNat_of_nonneg (by omega)]
    omega
  · unfold Builtin.Str.tooLong
    rw [sizeLine_eq]
    exact decide_eq_false (by omega)
  · rw [if_neg (by omega : ¬ n < 1)]
    by_cases h3 : (n == 1 || z.length == 0) = true
    · rw [if_pos h3]
      have em : Txt.mul z n = z := by unfold Txt.mul; rw [if_neg (by omega : ¬ n < 1), if_pos h3]
      rw [em] at fin
      exact Calls.spliced_nil (fin (s1.toks + 1) s2.toks (by show s1.toks + 1 ≠ 0; omega) (by show s1.toks ≠ s1.toks + 1; omega))
    · rw [if_neg h3]
      have em : Txt.mul z n = ⟨(List.replicate n.toNat z.cps).foldl (· ++ ·) #[]⟩ := by unfold Txt.mul; rw [if_neg (by omega : ¬ n < 1), if_neg h3]
      rw [em] at fin hlen
      exact ⟨by rw [hlen, sizeLine_eq]; exact hzn, Calls.spliced_nil (fin s2.toks (s2.toks + 1) (by show s2.toks ≠ 0; omega) (by show s1.toks ≠ s2.toks; omega))⟩
/-- x = e, one token out -/
theorem pst_set {i : Nat} {x : Str} {pos' : Pos} (hN : X.N.Nodup) (hi : X.N[i]? = some x) (hx : Loc X.env.scope x) (he : PET X e te) (hs : swapsWith e (some (.Name x pos')) pos.line X.env = pure false) (hf : X.fn x = true ∨ X.env.scope.names.lookup x = some .local) :
    PST X (.Assign [.Name x pos'] e pos) (tAsg te (gName i)) := by
  intro pins s σ H D h0 I h
  refine wpAny_Assign_Name (thn (he pins s σ H _ h0 I h) fun v s1 ⟨y, H1, I1, r1, q1⟩ => ?_) hs
  exact store_ok I1 hN hi hx r1 (fun s2 I2 => ⟨_, H1, I2, q1⟩) hf
/-- what is walked, one token out behind it -/
def PI1 (X : Cx) (tg iter : Expr) (wi : TI) : Prop := ∀ (pins : List (Addr × Obj)) (s : Shared) (σ : L2.St) (H : Hp) (R : It → Hp → Prop), Inv X pins σ H s → wi σ H R →
    wpAny (model X.prog X.w) X.A (eval iter X.env) (fun v s1 => 1 ≤ s1.toks ∧ wpAny (model X.prog X.w) X.A (pyIter v) (PIE X pins σ tg R) X.xe s1) X.xe s
def PE1 (X : Cx) (e : Expr) (t : TE) : Prop :=
  ∀ (pins : List (Addr × Obj)) (s : Shared) (σ : L2.St) (H : Hp) (Q : VK), Inv X pins σ H s → t σ H Q → wpAny (model X.prog X.w) X.A (eval e X.env) (fun v s1 => 1 ≤ s1.toks ∧ EP X pins σ Q v s1) X.xe s
/-- o.split("..") -/
theorem pe1_split {sep : Str} (ho : PE X o to) (hs : starEach [.Constant (.str sep) j c0] X.env = [(false, eval (.Constant (.str sep) j c0) X.env)]) (hbase : attributeBase o "split" X.env (eval o X.env) = eval o X.env) (hline : (apos.endLine == pos.line) = true) :
    PE1 X (.Call (.Attribute o "split" apos) [.Constant (.str sep) j c0] [] pos) (tM1 (fun x xs H Q => ∃ a b, x = .str a ∧ xs = [.str b] ∧ (b.length == 0) = false ∧ a.length + 2 ≤ sizeLine ∧ rNewStrs (Txt.split a b) H Q) to (tC (.str sep))) := by
  intro pins s σ H Q I h
  refine PySem.Call_method1 hbase hs hline (thn (ho.run pins s σ H _ I h) fun v s1 ⟨x, H1, I1, r1, q1⟩ => ?_)
  obtain ⟨⟨a, rfl⟩, q1⟩ := q1
  obtain ⟨t, rfl⟩ := _root_.id r1
  refine ⟨"str", _, F.plainAttrs_str, F.slot_str_split, F.type_str_split, typeIs_str _ _ _, (fun _ e => nomatch e), Calls.callWith_builtin rfl (Calls.evalArgs_plain (Calls.spliced_cons ?_))⟩
  refine Calls.Constant_str (Calls.spliced_nil ?_)
  exact wpAny_mono (PySem.wpAny_toks_of (n := 1) (by show 1 ≤ s1.toks + 1; omega) (mt_split pins { s1 with toks := s1.toks + 1 } σ H1 _ [V.str sep] _ [Value.str sep s1.toks] Q (I1.tok _) r1 (.cons ⟨_, rfl⟩ .nil) q1)) (fun _ _ z => z) fun _ _ z => z.2
theorem pi1_list {tg l : Expr} {tl : TE} (hl : PE1 X l tl) : PI1 X tg l (iList X.K tl) := by
  intro pins s σ H R I h
  refine thn (hl pins s σ H _ I h) fun v s1 ⟨h1, x, H1, I1, r1, q1⟩ => ⟨h1, ?_⟩
  obtain ⟨a, e, ⟨xs, hq⟩, q⟩ := q1
  subst e
  cases r1
  obtain ⟨its, rv, p, hz⟩ := I1.list hq
  refine wpAny_pyIter_list p.isList ?_
  refine ⟨s1.heap.objs.size, [s1.heap.objs.size], _, _, H1, rfl, I1.kept (t' := s1.toks) fun b o e => Heap.get?_push_of_some _ e, turn_list a _, ⟨_, Heap.get?_push_size _ rfl, rfl, rfl⟩, fun b hb => ?_, q⟩
  have e : b = s1.heap.objs.size := by simpa using hb
  subst e
  exact I1.fpOk (Nat.le_refl _) (I1.hok.fresh (Nat.le_refl _))
/-- for, whose body is run with a token out -/
theorem ps_forT {tg iter : Expr} {body : List Stmt} {wi : TI} {g : TG} {tb : TS} (hp : PassesOwn (model X.prog X.w) X.A X.env X.xe) (hc : X.calm = true) (hi : PI1 X tg iter wi) (hg : PG X tg g) (hb : PSsT X body tb)
    (hs : ∀ x, foldedSetIterable iter X.env x = pure x) : L2.PS X (.For tg iter body [] pos) (tFor wi g tb) := by
  refine ⟨fun pins s σ H D I h => ?_⟩
  refine wpAny_For (thn (hi pins s σ H _ I h) fun v s1 ⟨k1, h1⟩ => wpAny_mono (PySem.wpAny_toks_of k1 h1) (fun itv s2 h2 => ?_) fun _ _ z => z.2) hs
  obtain ⟨k2, it, fp, tn, J, H2, e, I2, T, st2, f2, W, ⟨m0, w0⟩, turn⟩ := h2
  subst e
  have stat : ∀ {H' : Hp}, (∀ b ∈ fp, H' b = none) → ∀ b ∈ fp, FpOk X pins H' b := fun hn b hb => ⟨hn b hb, (f2 b hb).2⟩
  refine codeAny_forLoop_any (fun n s' => 1 ≤ s'.toks ∧ ∃ i σ' H', Inv X pins σ' H' s' ∧ tn i s'.heap ∧ (∀ b ∈ fp, H' b = none) ∧ W i n σ' H') ?_ m0 ⟨k2, 0, σ, H2, I2, st2, fun b hb => (f2 b hb).1, w0⟩
  rintro n s3 ⟨k3, i, σ3, H3, I3, st3, fr3, w3⟩
  rcases turn i n σ3 H3 w3 with ⟨stop, qn⟩ | ⟨go, N, hN, step⟩
  · refine wpAny_passesOwn hp (thn (T.done X rfl rfl rfl hc i pins s3 σ3 H3 X.xe I3 (stat fr3) st3 stop) fun r s4 ⟨hr, I4⟩ => ?_)
    subst hr
    exact wpAny_execs_nil ⟨σ3, H3, I4, qn⟩
  · refine wpAny_passesOwn hp (wpAny_mono (PySem.wpAny_toks_of k3 (T.item X rfl rfl rfl hc i pins s3 σ3 H3 X.xe I3 (stat fr3) st3 go)) (fun r s4 ⟨k4, u, hr, h4⟩ => ?_) fun _ _ z => z.2)
    subst hr
    refine wpAny_passesOwn hp (wpAny_mono (PySem.wpAny_toks_of k4 h4) (fun _ s5 ⟨k5, x, H5, I5, r5, y5, st5, fr5⟩ => ?_) fun _ _ z => z.2)
    have I5' := I5.pinned (stat fr5) (T.obj _ _ st5)
    refine wpAny_passesOwn hp (wpAny_mono (PySem.wpAny_toks_of k5 (hg.run _ s5 σ3 H5 x u _ I5' r5 (step x H5 y5))) (fun _ s6 ⟨k6, σ6, H6, I6, q6⟩ => ?_) fun _ _ z => z.2)
    refine wpAny_passesOwn hp (wpAny_mono (PySem.wpAny_toks_of k6 (hb _ s6 σ6 H6 _ k6 I6 q6)) (fun f s7 q7 => ?_) fun _ _ z => z.2)
    obtain ⟨k7, q7⟩ := q7
    have again : ∀ {σ7 : L2.St} {H7 : Hp}, Inv X (pins ++ pinsAt fp s5.heap) σ7 H7 s7 → N σ7 H7 → ∃ m, m < n ∧ 1 ≤ s7.toks ∧ ∃ i σ' H', Inv X pins σ' H' s7 ∧ tn i s7.heap ∧ (∀ b ∈ fp, H' b = none) ∧ W i m σ' H' := fun {σ7 H7} I7 n7 => by
      obtain ⟨m', hm, w7⟩ := hN σ7 H7 n7
      refine ⟨m', hm, k7, i + 1, σ7, H7, I7.unpinned, T.keep _ _ _ st5 fun b hb o e => (I7.pin (b, o) (List.mem_append_right _ (List.mem_append_right _ (mem_pinsAt hb e)))).1, fun b hb => ?_, w7⟩
      obtain ⟨o, e, d⟩ := T.obj _ _ st5 b hb
      exact (I7.pin (b, o) (List.mem_append_right _ (List.mem_append_right _ (mem_pinsAt hb e)))).2.1
    cases f with
    | next => obtain ⟨σ7, H7, I7, n7⟩ := q7; exact again I7 n7
    | cont => obtain ⟨σ7, H7, I7, n7⟩ := q7; exact again I7 n7
    | brk => obtain ⟨σ7, H7, I7, q7⟩ := q7; exact ⟨σ7, H7, I7.unpinned, q7⟩
    | ret v => obtain ⟨x7, σ7, H7, I7, r7, q7⟩ := q7; exact ⟨x7, σ7, H7, I7.unpinned, r7, q7⟩
end
end Py
set_option maxRecDepth 100000
set_option maxHeartbeats 2000000
namespace Py
open PySem PySem.Spec PyProof.Rows L2

/-! ### blocks where a token is out, or where the written part tells that no sharing is left open -/
def NB (K : PySem.W.Frag) : Prop := PySem.W.nsIn K cStatics sharingNotToldKey = some none
def VSK (s : Sx) (T : Tab) (st : Stmt) (den : SDn) : Prop := ∀ (X : Cx) (W : WX), NB X.K → CtxS s T X → Takes X W → L2.PS X st (tS X.K (clK X.K) W den)
def VBK (s : Sx) (T : Tab) (st : List Stmt) (den : SDn) : Prop := ∀ (X : Cx) (W : WX), NB X.K → CtxS s T X → Takes X W → PSs X st (tS X.K (clK X.K) W den)
def VST (s : Sx) (T : Tab) (st : Stmt) (den : SDn) : Prop := ∀ (X : Cx) (W : WX), NB X.K → CtxS s T X → Takes X W → PST X st (tS X.K (clK X.K) W den)
def VBT (s : Sx) (T : Tab) (st : List Stmt) (den : SDn) : Prop := ∀ (X : Cx) (W : WX), NB X.K → CtxS s T X → Takes X W → PSsT X st (tS X.K (clK X.K) W den)
theorem PST.of' {X : Cx} {e : Stmt} {t t' : TS} (h : PST X e t) (i : ∀ D σ H, t' D σ H → t D σ H) : PST X e t' := fun pins s σ H D h0 I q => h pins s σ H D h0 I (i D σ H q)
theorem PSsT.of' {X : Cx} {e : List Stmt} {t t' : TS} (h : PSsT X e t) (i : ∀ D σ H, t' D σ H → t D σ H) : PSsT X e t' := fun pins s σ H D h0 I q => h pins s σ H D h0 I (i D σ H q)
section
variable {s : Sx} {T : Tab} {pos : Pos}
theorem vsk_of {st : Stmt} {a : SDn} (h : VS s T st a) : VSK s T st a := fun X W _ c tk => h X W c tk
theorem vst_of {st : Stmt} {a : SDn} (h : VS s T st a) : VST s T st a := fun X W _ c tk => L2.PST.of (h X W c tk)
theorem vbk_of {st : List Stmt} {a : SDn} (h : VB s T st a) : VBK s T st a := fun X W _ c tk => h X W c tk
theorem vbt_of {st : List Stmt} {a : SDn} (h : VB s T st a) : VBT s T st a := fun X W _ c tk => L2.PSsT.of (h X W c tk)
theorem vbk_cons {st : Stmt} {rest : List Stmt} {a b : SDn} (h1 : VSK s T st a) (h2 : VBK s T rest b) : VBK s T (st :: rest) (sSeq a b) := fun X W k c tk => PSs.of (pss_cons (h1 X W k c tk) (h2 X W k c tk)) fun D σ H h => by
  obtain ⟨G, p, o, h⟩ := h
  exact ⟨G, p, o, ps_bind h rfl rfl rfl fun p1 σ1 H1 s1 h => ⟨G, p1, s1.ok, h⟩⟩
theorem vbt_cons {st : Stmt} {rest : List Stmt} {a b : SDn} (h1 : VST s T st a) (h2 : VBT s T rest b) : VBT s T (st :: rest) (sSeq a b) := fun X W k c tk => PSsT.of' (psst_cons (h1 X W k c tk) (h2 X W k c tk)) fun D σ H h => by
  obtain ⟨G, p, o, h⟩ := h
  exact ⟨G, p, o, ps_bind h rfl rfl rfl fun p1 σ1 H1 s1 h => ⟨G, p1, s1.ok, h⟩⟩
/-- o.replace(y, z * e) -/
noncomputable def dRepl (y z : List Nat) (do_ de : Dn) : Dn := fun p => (do_ p).bind fun v p1 => match v.soft with
  | .sh (.str x) => (de p1).bind fun u p2 => match u.soft with
    | .sh (.int n) => if sb (1 ≤ n ∧ n ≤ 1000 ∧ x.length + (x.length + 1) * (z.length * n.toNat) ≤ 16777216 ∧ z.length ≤ 1000) = true then .ok (.sh (.str (replD x y z n))) p2 else .bad
    | _ => .bad
  | _ => .bad
theorem repl_imp {K : PySem.W.Frag} {cl : Nat → Addr} {W : WX} {y z : List Nat} {do_ de : Dn} {σ : L2.St} {H : Hp} {Q : VK} (h : tE K cl W (dRepl y z do_ de) σ H Q) : tRepl (S y) (S z) (tE K cl W do_) (tE K cl W de) σ H Q := by
  obtain ⟨G, p, o, h⟩ := h
  refine te_bind o h fun v p1 u H1 s1 r1 h => ?_
  have r1 := r1.soft
  split at h
  · rename_i x e1
    rw [e1] at r1
    cases (show Rep K _ H1 u (.str x) from r1)
    refine ⟨S x, rfl, ?_⟩
    refine te_bind s1.ok h fun v2 p2 u2 H2 s2 r2 h => ?_
    have r2 := r2.soft
    split at h
    · rename_i n e2
      rw [e2] at r2
      cases (show Rep K _ H2 u2 (.int n) from r2)
      split at h
      · rename_i hc
        obtain ⟨c1, c2, c3, c4⟩ := sb_iff.mp hc
        refine ⟨n, rfl, c1, c2, by rw [S_len, S_len]; exact c3, by rw [S_len]; exact c4, ?_⟩
        have q := h (.str (Txt.replace (S x) (S y) (Txt.mul (S z) n))) H2 (.refl s2.ok) (show Rep K _ H2 _ _ from by
          rw [show Txt.replace (S x) (S y) (Txt.mul (S z) n) = S (replD x y z n) from S_of rfl]; exact .str)
        exact q
      · exact h.elim
    · exact h.elim
  · exact h.elim
theorem vst_repl (i : Nat) {x : Str} {o e : Expr} {y z : Str} {ly lz : List Nat} {j k : Nat} {c0 c1 apos cpos mp q : Pos} {do_ de : Dn} (hy : y.cps.toList = ly) (hz : z.cps.toList = lz) (hN : s.N[i]? = some x) (hl : locB s x = true) (ho : VE s T o do_) (he : VE s T e de)
    (hst : ∀ env, starEach [.Constant (.str y) j c0, .BinOp (.Constant (.str z) k c1) .Mult e mp] env = [(false, eval (.Constant (.str y) j c0) env), (false, eval (.BinOp (.Constant (.str z) k c1) .Mult e mp) env)] := by intro _; rfl)
    (hbase : ∀ env, attributeBase o "replace" env (eval o env) = eval o env := by intro _; rfl) (hline : (apos.endLine == cpos.line) = true := by rfl)
    (hs : ∀ env, swapsWith (.Call (.Attribute o "replace" apos) [.Constant (.str y) j c0, .BinOp (.Constant (.str z) k c1) .Mult e mp] [] cpos) (some (.Name x q)) pos.line env = pure false := by intro _; rfl) :
    VST s T (.Assign [.Name x q] (.Call (.Attribute o "replace" apos) [.Constant (.str y) j c0, .BinOp (.Constant (.str z) k c1) .Mult e mp] [] cpos) pos) (sAsg i (dRepl ly lz do_ de)) := fun X W nb c tk => by
  obtain ⟨h1, h2⟩ := loc_of c.1 hl
  refine PST.of' (pst_set (i := i) (by rw [c.1.N]; exact c.1.nd) (by rw [c.1.N]; exact hN) h1 (pet_repl nb (ho X W c.1 tk) (he X W c.1 tk) (hst _) (hbase _) hline) (hs _) h2) fun D σ H h => ?_
  rw [S_of hy, S_of hz]
  refine repl_imp ?_
  obtain ⟨G, p, o, h⟩ := h
  refine ⟨G, p, o, ?_⟩
  unfold sAsg at h
  cases e2 : dRepl ly lz do_ de p with
  | bad => rw [e2] at h; exact h.elim
  | exc c q => rw [e2] at h; exact fun H1 s => h σ H1 s.1
  | ok v p1 =>
    rw [e2] at h
    intro u H1 s1 r1
    exact asgn_run s1 r1 h
theorem split_walk {K : PySem.W.Frag} {cl : Nat → Addr} {W : WX} {sep : Str} {lsep : List Nat} (hsep : sep.cps.toList = lsep) {do_ : Dn} {σ : L2.St} {H : Hp} {Q : It → Hp → Prop} {X : Cx} (hX : X.K = K) (h : tI K cl W (dIv (dM1 opSplit do_ (dC (.str lsep)))) σ H Q) :
    iList K (tM1 (fun x xs H Q => ∃ a b, x = .str a ∧ xs = [.str b] ∧ (b.length == 0) = false ∧ a.length + 2 ≤ sizeLine ∧ rNewStrs (Txt.split a b) H Q) (tE K cl W do_) (tC (.str sep))) σ H Q := by
  obtain ⟨G, p, o, h⟩ := h
  subst hX
  have h : PostI X.K cl W G σ H p Q ((do_ p).bind fun x p1 => (match x with | .sh (.str a) => (dC (.str lsep) p1).bind fun y p2 => fin2 opSplit (.sh (.str a)) y p2 | _ => .bad).bind fun v p2 => finI v p2) := by
    have e : dIv (dM1 opSplit do_ (dC (.str lsep))) p = ((do_ p).bind fun x p1 => (match x with | .sh (.str a) => (dC (.str lsep) p1).bind fun y p2 => fin2 opSplit (.sh (.str a)) y p2 | _ => .bad).bind fun v p2 => finI v p2) := by
      show ((do_ p).bind _).bind _ = _
      cases do_ p <;> rfl
    rw [← e]; exact h
  refine ti_bind o h fun v p1 u H1 _ s1 r1 h => ?_
  split at h
  · rename_i a _
    cases (show Rep X.K _ H1 u (.str a) from r1)
    refine ⟨⟨_, rfl⟩, ?_⟩
    have h : PostI X.K cl W G σ H1 p1 Q ((fin2 opSplit (.sh (.str a)) (.sh (.str lsep)) p1).bind fun v p2 => finI v p2) := PostI.from s1 h
    unfold fin2 at h
    simp only [opd_sh] at h
    cases e : opSplit (.str a) (.str lsep) with
    | none => rw [e] at h; exact h.elim
    | some w =>
      rw [e] at h
      have hw : ∃ ds, w = .ow (.lst ds) := by
        unfold opSplit at e
        simp only at e
        split at e
        · cases e; exact ⟨_, rfl⟩
        · cases e
      obtain ⟨ds, rfl⟩ := hw
      have ra : Rdb X.K (Mu G σ p1.env) H1 (.str (S a)) (.str a) := .inl .str
      have rb : Rdb X.K (Mu G σ p1.env) H1 (.str sep) (.str lsep) := .inl (by rw [S_of hsep]; exact .str)
      obtain ⟨_, f⟩ := split_run (Q := fun x H1 => ∃ a, x = .ref a ∧ (∃ xs, SqL X.K H1 a xs) ∧ Q (Itl X.K a) H1) ra rb e
      refine f (res_of' s1.ok (fun u H' s r => ?_) rfl)
      obtain ⟨b, rfl, h1, w⟩ := walk_lst s.ok r rfl
      exact ⟨b, rfl, h1, h _ H' s w⟩
  · exact h.elim
/-- for x in o.split(".."): the body is run with a token out -/
theorem vsk_forT {tg o : Expr} {sep : Str} {lsep : List Nat} {j : Nat} {c0 apos cpos : Pos} {body : List Stmt} {is : List Nat} {do_ : Dn} {g : Tgd} {db : SDn} (hsep : sep.cps.toList = lsep) (ho : VE s T o do_) (hg : VG s T tg is g) (hb : VBT s T body db)
    (hst : ∀ env, starEach [.Constant (.str sep) j c0] env = [(false, eval (.Constant (.str sep) j c0) env)] := by intro _; rfl) (hbase : ∀ env, attributeBase o "split" env (eval o env) = eval o env := by intro _; rfl) (hline : (apos.endLine == cpos.line) = true := by rfl)
    (hs : ∀ env x, foldedSetIterable (.Call (.Attribute o "split" apos) [.Constant (.str sep) j c0] [] cpos) env x = pure x := by intro _ _; rfl) :
    VSK s T (.For tg (.Call (.Attribute o "split" apos) [.Constant (.str sep) j c0] [] cpos) body [] pos) (sFor (dIv (dM1 opSplit do_ (dC (.str lsep)))) g db) := fun X W nb c tk => by
  have hi : PI1 X tg (.Call (.Attribute o "split" apos) [.Constant (.str sep) j c0] [] cpos) (tI X.K (clK X.K) W (dIv (dM1 opSplit do_ (dC (.str lsep))))) := by
    intro pins s0 σ H Q I hh
    refine pi1_list (pe1_split (ho X W c.1 tk) (hst _) (hbase _) hline) pins s0 σ H Q I ?_
    exact split_walk hsep rfl hh
  refine PSt.of (ps_forT (hs := hs X.env) c.2.1 c.1.calm hi (hg X c.1) (hb X W nb c tk)) fun D σ H h => ?_
  obtain ⟨G, p, o, h⟩ := h
  refine ⟨G, p, o, ?_⟩
  unfold sFor at h
  cases e : (dIv (dM1 opSplit do_ (dC (.str lsep)))) p with
  | bad => rw [e] at h; exact h.elim
  | exc cc q => rw [e] at h; exact fun H1 s => h σ H1 s.1
  | ok iv p1 =>
    rw [e] at h
    simp only [onR_ok] at h
    by_cases lz : lockOk iv.z p1.env = true
    · rw [if_pos lz] at h
      intro J H1 s1 w
      have h := PostS.from s1.1 h
      generalize hr : forL g db iv.items ⟨lockE iv.z p1.env, p1.src⟩ = r0 at h
      refine ⟨fun i m σ' H' => m = iv.items.length - i ∧ i ≤ iv.items.length ∧ ∃ p', Stp X.K G σ ⟨lockE iv.z p1.env, p1.src⟩ H1 σ' p' H' ∧ forL g db (iv.items.drop i) p' = r0, ⟨_, rfl, Nat.zero_le _, _, .refl (s1.ok.zz (sameZ_lock _ _)), by rw [List.drop_zero]; exact hr⟩, ?_⟩
      rintro i m σ' H' ⟨rfl, hi, p', st, hf⟩
      have lockMu : Mu G σ (lockE iv.z p1.env) = Mu G σ p1.env := ((sameZ_lock iv.z p1.env).mu).symm
      obtain ⟨w1, w2, w3⟩ := w (Mu G σ' p'.env) H' (fun a o e n _ => st.fr a o e n) (fun a z => by
        rcases st.mu a z with z | z
        · exact .inl (by rw [← lockMu]; exact z)
        · exact .inr z) (fun a z => st.ok.dom z)
      by_cases hlt : i < iv.items.length
      · refine .inr ⟨w1 i hlt, fun σ2 H2 => ∃ p2, Stp X.K G σ ⟨lockE iv.z p1.env, p1.src⟩ H1 σ2 p2 H2 ∧ forL g db (iv.items.drop (i + 1)) p2 = r0, fun σ2 H2 ⟨p2, k1, k2⟩ => ⟨_, by omega, rfl, hlt, p2, k1, k2⟩, fun x H3 y => ?_⟩
        obtain ⟨d, hd, sm, rd⟩ := w3 i x H3 hlt y
        have hdrop : iv.items.drop i = d :: iv.items.drop (i + 1) := by
          rw [List.drop_eq_getElem_cons hlt]
          rw [List.getElem?_eq_getElem hlt] at hd
          cases hd; rfl
        rw [hdrop] at hf
        unfold forL at hf
        have st3 : Stp X.K G σ ⟨lockE iv.z p1.env, p1.src⟩ H1 σ' p' H3 := st.trans (StpE.grow st.ok sm).1
        cases et : g d p'.env with
        | none => rw [et] at hf; simp only at hf; subst hf; exact h.elim
        | some env' =>
          rw [et] at hf
          simp only at hf
          refine ⟨G, p', d, env', st3.ok, rd, et, fun σ2 s2 _ _ => ?_⟩
          refine ⟨G, ⟨env', p'.src⟩, s2.ok, ?_⟩
          have st4 := st3.trans s2
          cases eb : db ⟨env', p'.src⟩ with
          | nx p5 => rw [eb] at hf; exact fun σ5 H5 s5 => ⟨p5, st4.trans s5, hf⟩
          | ct p5 => rw [eb] at hf; exact fun σ5 H5 s5 => ⟨p5, st4.trans s5, hf⟩
          | bk p5 =>
            rw [eb] at hf
            simp only at hf
            subst hf
            exact fun σ5 H5 s5 => h σ5 H5 (stp_unlock lz (st4.trans s5) s1.ok)
          | rt v p5 =>
            rw [eb] at hf
            simp only at hf
            subst hf
            exact fun σ5 u H5 s5 r5 => h σ5 u H5 ((stp_lock s1.ok).trans (st4.trans s5)) (r5.back st4.dom)
          | exc cc p5 =>
            rw [eb] at hf
            simp only at hf
            subst hf
            exact fun σ5 H5 s5 => (h σ5 H5 ((stp_lock s1.ok).trans (st4.trans s5))).from st4.dom
          | bad => rw [eb] at hf; simp only at hf; subst hf; exact h.elim
      · have hi' : i = iv.items.length := by omega
        rw [hi', List.drop_length] at hf
        have hf : Out.nx p' = r0 := hf
        subst hf
        exact .inl ⟨by rw [hi']; exact w2, h σ' H' (stp_unlock lz st s1.ok)⟩
    · rw [if_neg lz] at h; exact h.elim

end
end Py
set_option maxRecDepth 100000
set_option maxHeartbeats 2000000
namespace Py
open PySem PySem.Spec PyProof.Rows L2
section
variable {P : Program} {w : World} {K : PySem.W.Frag} {mg : Str → Option Value} {base : Heap} {x qual : Str} {params : Arguments} {body : List Stmt} {scope : Scope} {f : Addr} {fd : FuncData}
/-- THE RULE: a def keeps its meaning -/
theorem def_okK {T : Tab} {N ps : List Str} {den : SDn} (F : FunD K x qual params body scope [] [] f fd) (S : FnScope N ps scope) (hlen : ps.length ≤ N.length) (fac : Facts T P w K mg base) (nb : NB K) (h : VBK ⟨N, scope, fun _ => true⟩ T body den) :
    FnOk P w K mg base (L2.CX P w) (T.k + 1) f fd ps (spF K (clK K) ps.length (semD N.length den)) := by
  refine F.ok S (fun vs H Q E hs => hs.1) (fun cdv A outer st H vs Q E hr hs => ?_)
  obtain ⟨hl, G, args, src, c, hs⟩ := hs
  have hargs : args.length ≤ N.length := by have := c.len; omega
  have cx : CtxS ⟨N, scope, fun _ => true⟩ T (cxOf (L2.CX P w) P w K mg base N qual scope f cdv A outer st H E) := ⟨⟨rfl, rfl, S.nd, rfl, hr, fun _ _ => rfl, fac⟩, passes_of rfl, rfl, rfl, rfl⟩
  refine ⟨_, h _ (fun cls d _ H => E cls d H) nb cx (takes_of rfl rfl rfl rfl), G, _, entry_ok c hargs, ?_⟩
  unfold semD at hs
  generalize hd : den ⟨args ++ List.replicate (N.length - args.length) .no, src⟩ = r at hs ⊢
  cases r with
  | nx p' => exact fun σ' H' s => hs .non H' (body_back c s rfl (fun _ z => z) s.ok) .non
  | bk p' => exact hs.elim
  | ct p' => exact hs.elim
  | bad => exact hs.elim
  | exc cc p' => exact fun σ' H' s => hs H' (body_back c s rfl (fun _ z => z) s.ok)
  | rt v p' =>
    intro σ' u H' s r
    cases v with
    | sh d =>
      refine hs u H' (body_back c s rfl (fun _ z => z) s.ok) (Rep.mono K (fun _ _ e _ => e) (fun a z => .inl (ma_sub c s a z)) r)
    | ow d =>
      obtain ⟨hpl, a, rfl, h1, h2, h3, h4⟩ := r
      exact hs a H' h1 hpl (body_back c s rfl (fun _ z => .inl z) h4) (h3.mono (fun _ _ e _ => e) (fun b z => .inl (ma_sub (G2 := G.more a) c s b z)) (fun _ e => e))
    | sr => exact hs.elim
    | bo i =>
      obtain ⟨⟨l, z, d, h1⟩, h2⟩ := r
      have hs : match retFR args (.bo i) p' with
        | .ok false d back src' => ∀ u H', BackOk K G H vs args back src' H' → Rep K (Ma G vs args) H' u d → Q u H'
        | .ok true d back src' => ∀ q H', H q = none → d.plain = true → BackOk K (G.more q) H vs args back src' H' → OwnAt K (Ma (G.more q) vs args) H' q d → Q (.ref q) H'
        | .exc c back src' => ∀ H', BackOk K G H vs args back src' H' → FlyX (clK K) E H c H'
        | .bad => False := hs
      unfold retFR at hs
      simp only [h1] at hs
      cases l with
      | true => exact hs.elim
      | false =>
        simp only at hs
        cases hpl : d.plain with
        | false => rw [hpl, if_neg Bool.false_ne_true] at hs; exact hs.elim
        | true =>
        rw [hpl, if_pos rfl] at hs
        obtain ⟨a, g1, g2, g3, g4⟩ := s.ok.ow i false z d h1
        rw [h2] at g1; cases g1
        obtain ⟨k1, k2, k3⟩ := s.ok.give h1 h2
        have nl : ∀ l z d, args[i]? ≠ some (.own l z d) := fun l' z' d' e => by
          obtain ⟨rfl, _⟩ := c.lent e
          obtain ⟨z2, d2, e2, _⟩ := s.lent i z' d' (entry_env' e)
          rw [h1] at e2; cases e2
        have fresh : H a = none := by
          rcases s.mu a (.inr (.inr ⟨i, false, z, d, h1, h2⟩)) with q | q
          · rw [entry_mu c] at q
            rcases q with q | q | ⟨j, l1, z1, d1, e1, e2⟩
            · exact absurd q g3
            · exact absurd q g4
            · obtain ⟨rfl, _⟩ := c.lent e1
              obtain ⟨z2, d2, e3, e4⟩ := s.lent j z1 d1 (entry_env' e1)
              have := s.ok.inj _ _ _ _ _ _ _ _ _ h1 e3 h2 (by rw [e4]; exact start_get e2)
              subst this
              exact absurd e1 (nl _ _ _)
          · exact q
        have o2 : Ok K G σ' H' ⟨p'.env.set i .no, p'.src⟩ := k1.less rfl fun a z => .inl z
        have lentO : ∀ (j : Nat) (z0 : Bool) (d0 : D), (args ++ List.replicate (N.length - args.length) Sl.no)[j]? = some (.own true z0 d0) → j ≠ i := fun j z0 d0 e e' => by
          subst e'
          exact nl _ _ _ (entry_env e (fun e => by cases e))
        have sub : ∀ b, ownA σ' (p'.env.set i .no) b → ownA σ' p'.env b := fun b ⟨j, l, zz, e, h3, h4⟩ => by
          have hi : i < p'.env.length := (List.getElem?_eq_some_iff.mp h1).1
          by_cases hj : j = i
          · subst hj; rw [List.getElem?_set_self hi] at h3; cases h3
          · rw [List.getElem?_set_ne (Ne.symm hj)] at h3; exact ⟨j, l, zz, e, h3, h4⟩
        have subL : ∀ b, ownL σ' (p'.env.set i .no) b → ownL σ' p'.env b := fun b ⟨j, l, e, h3, h4⟩ => by
          have hi : i < p'.env.length := (List.getElem?_eq_some_iff.mp h1).1
          by_cases hj : j = i
          · subst hj; rw [List.getElem?_set_self hi] at h3; cases h3
          · rw [List.getElem?_set_ne (Ne.symm hj)] at h3; exact ⟨j, l, e, h3, h4⟩
        have s2 : Stp K G (L2.start N vs) ⟨args ++ List.replicate (N.length - args.length) .no, src⟩ H σ' ⟨p'.env.set i .no, p'.src⟩ H' := by
          refine ⟨s.fr, s.dom, fun b z => s.lm b (z.elim .inl fun z => .inr (subL b z)), fun b z => s.mu b (z.elim .inl fun z => .inr (z.elim .inl fun z => .inr (sub b z))), fun j z0 d0 e => ?_, fun j l0 d0 e => ?_, o2⟩
          · obtain ⟨z', d', e1, e2⟩ := s.lent j z0 d0 e
            exact ⟨z', d', by rw [List.getElem?_set_ne (Ne.symm (lentO j z0 d0 e))]; exact e1, e2⟩
          · have e' := entry_env e (fun e => by cases e)
            obtain ⟨_, e3, _⟩ := c.lent e'
            cases e3
        have bb := body_back c s2 (G2 := G.more a) rfl (fun _ z => .inl z) k1
        have eb : backOf args (p'.env.set i .no) = backOf args p'.env := backOf_set _ _ _ nl
        have bb : BackOk K (G.more a) H vs args (backOf args p'.env) p'.src H' := by rw [← eb]; exact bb
        exact hs a H' fresh hpl bb (k2.mono (fun _ _ e _ => e) (fun b z => .inl (ma_sub (G2 := G.more a) c s2 b z)) (fun _ e => e))
end
/-! ### a head that also tells that no sharing is left open -/
def nbB (K : PySem.W.Frag) : Bool := He.eqO (PySem.W.nsIn K cStatics sharingNotToldKey) (some none)
def obsQ (fa : List He.Fa) (fn : List He.DefD) (es : List Nat) (ps : List PrD) (K : PySem.W.Frag) : He.AlD := ((obsP fa fn es ps K).1 && nbB K, (obsP fa fn es ps K).2)
def SaysQ (fa : List He.Fa) (fn : List He.DefD) (es : List Nat) (ps : List PrD) (K : PySem.W.Frag) : Prop := obsQ fa fn es ps K = valP fn ps
theorem SaysQ.p {fa : List He.Fa} {fn : List He.DefD} {es : List Nat} {ps : List PrD} {K : PySem.W.Frag} (c : SaysQ fa fn es ps K) : SaysP fa fn es ps K ∧ NB K := by
  unfold SaysQ obsQ valP at c
  obtain ⟨c1, c2⟩ := Prod.mk.inj c
  rw [Bool.and_eq_true] at c1
  exact ⟨Prod.ext c1.1 c2, He.eqO_ok c1.2⟩
def obsQG (n : Nat) (fa : List He.Fa) (fn : List He.DefD) (es : List Nat) (ps : List PrD) (g : Addr → Option Obj) : He.AlD := obsQ fa fn es ps (He.frG g (He.asD g n ++ [cStatics]))
def hookQ (n : Nat) (fa : List He.Fa) (fn : List He.DefD) (es : List Nat) (ps : List PrD) : PySem.W.Hook where
  α := He.AlD
  obs := fun s => obsQG n fa fn es ps s.heap.get?
  val := fun _ => valP fn ps
  says := fun _ h => ∃ K : PySem.W.Frag, K.In h ∧ SaysQ fa fn es ps K
  of := fun _ _ e => ⟨_, He.frG_in, e⟩
  keeps := fun _ _ _ ⟨K, hK, c⟩ k => ⟨K, PySem.W.Frag.In.keeps hK k, c⟩
theorem obsQG_eq {n : Nat} {fa : List He.Fa} {fn : List He.DefD} {es : List Nat} {ps : List PrD} {g : Addr → Option Obj} {s : Shared} (h : ∀ a, g a = s.heap.get? a) : obsQG n fa fn es ps g = (hookQ n fa fn es ps).obs s := by
  have e : g = s.heap.get? := funext h
  rw [e] <;> rfl
end Py
set_option maxRecDepth 100000
set_option maxHeartbeats 2000000
namespace Py
open PySem PySem.Spec PyProof.Rows L2

/-! ### super().__init__(..) in the __init__ of an error class -/
section
variable {prog : Program} {w : World} {A : Around} {E : Value → Shared → Prop} {s : Shared}
open PySem.W PySem.Calls in
theorem xcall_bw {i newId B : String} {bmB : List Value} {nm q : Str} {C N u x t : Addr} {bs bm : List Value} {hdct : Bool} {sn : List Str} {sub : List Value} {ab : Bool} {col : Option Bool} {dd : Option Addr} {k0 k1 k2 k3 k5 : Option Value} {rest : List Value} {Q : Value → Shared → Prop} (FB : ExcBaseFacts B newId i bmB)
    (hC : s.heap.get? C = some (excClassObj nm q C N bs bm hdct sn sub ab col dd k0 k1 k2 k3 k5 newId)) (hu : s.heap.get? u = some (kxs_mw i x)) (he : s.heap.get? x = some (HandSPX.excO C t)) (hz : rest.length ≤ sizeLine)
    (h : ∀ h', (∀ b o, b ≠ x → s.heap.get? b = some o → h'.get? b = some o) → h'.get? x = some (HandSPX.excO C s.heap.objs.size) → Q .none { s with heap := h' }) :
    wpAny (model prog w) A (call (.ref u) rest) Q E s := by
  have fin : ∀ h', (∀ b o, b ≠ x → s.heap.get? b = some o → h'.get? b = some o) → h'.get? x = some (excObj C s.heap.objs.size none .none) → h'.get? s.heap.objs.size = some (excTup rest) → Q .none { s with heap := h' } := fun h' k e _ => h h' k e
  obtain ⟨hh, g, d, tk, os⟩ := s
  refine wpAny_call (codeAny_of_tree ?_)
  show wpAny _ A.in1 (callAny (.ref u) ⟨rest, []⟩) _ _ _
  simp only [callAny]
  refine wpAny_bind (wpAny_load hu ?_)
  simp only [kxs_mw, show (Value.type "method-wrapper" == Value.type "method" || Value.type "method-wrapper" == Value.type "builtin_function_or_method" || Value.type "method-wrapper" == Value.type "method-wrapper") = true by decide, if_true]
  refine KFB.if_so (by decide) ?_
  refine wpAny_bind (check_bound_init FB.toExcCallFacts hC he rfl ?_)
  refine wpAny_bind (wpAny_pure (wpAny_pure ?_))
  refine ⟨plainId_quiet FB.init.plain _, codeAny_builtin FB.initEntry ?_⟩
  exact exc_init_tree (cls := .ref C) (t0 := t) (dv := none) (c2 := .none) (c3 := .none) (b4 := .bool false) he hz fin
end
section
open PySem.W PySem.Calls
variable {A : Around} {E : Value → Shared → Prop} {s : Shared} {i : String} {x u : Addr}
theorem xcallWith1 {M : Model} {pos : Pos} {env : Env} {e : Expr} {rest : List Expr} {Q : Value → Shared → Prop}
    (h : wpAny M A (spliced (backTo pos (starEach (e :: rest) env))) (fun vs s₁ => KxsAt i u x s₁.heap ∧ wpAny M A (call (.ref u) vs) Q E s₁) E s)
    (he : starEach (e :: rest) env = (false, eval e env) :: starEach rest env) (hplain : (backTo pos (starEach (e :: rest) env)).any (·.1) = false) :
    wpAny M A (callWith pos (.ref u) [] (backTo pos (starEach (e :: rest) env)) []) Q E s := by
  have hp := hplain
  rw [he] at h hp ⊢
  refine kxs_callWith (i := i) (x := x) hp ?_
  exact evalArgs_plain h
end
/-- what the module's run tells of the __init__ at f of the error class at D -/
structure XiD (P : Program) (K : PySem.W.Frag) (D f : Addr) (name qual : Str) (params : Arguments) (body : List Stmt) (scope : Scope) (fd : FuncData) (cda cc : Addr) : Prop where
  ex : ∃ (oc : Value) (od : Option Addr) (kV doc pm : Value) (an : Option Addr) (ct : Value) (osl : Array (Option Value)), fd = PySem.W.fnX name qual params body scope [("__class__", cc)] .none kV doc pm an (.ref cda) ct ∧ K.lookup f = some ⟨oc, od, .func fd, osl⟩
  code : PySem.W.codeIn K (.ref cda) qual = true
  file : ∃ (ccl : Value) (cdd : Option Addr) (vs : Array Value) (ccs : Array (Option Value)) (file : Str) (tf : Tok), K.lookup cda = some ⟨ccl, cdd, .fields vs, ccs⟩ ∧ vs[2]? = some (.str file tf) ∧ ((P.main.file : Str) == file) = true
  cell : ∃ (cl : Value) (cld : Option Addr) (csl : Array (Option Value)), K.lookup cc = some ⟨cl, cld, .cell (some (.ref D)), csl⟩
  mro : PySem.W.mroIn K D (.ref D) = some true
  sup : PySem.W.ks_superIn K D D "__init__" = some (some (.builtin "ValueError.__init__"))
  ve : PySem.W.subIn K (.ref D) (.type "ValueError") = some true
  opq : PySem.W.nsIn K cStatics "thirdparty.any" = some none
  top : (P.main.scope.names.lookup ("super" : Str)).isSome = false
abbrev xnf (name qual : Str) (params : Arguments) (body : List Stmt) (scope : Scope) (cda cc : Addr) : NdefX.NF := ⟨name, qual, params, body, scope, [("__class__", cc)], cda⟩
section
variable {X : Cx} {D f cda cc : Addr} {name qual : Str} {params : Arguments} {body : List Stmt} {scope : Scope} {fd : FuncData} {s : Shared} {H : Hp} {σ : L2.St}
theorem wp_super (XD : XiD X.prog X.K D f name qual params body scope fd cda cc) (T : OexC X.K D) (I : Inv X [] σ H s) {a : Addr} (e : H a = some (exo a D none)) (hsup : X.mg "super" = none)
    (esc : X.env.scope = scope) (efn : X.env.func = some f) (eco : X.env.code = .ref cda) (ecl : X.env.cells = [(("__class__" : Str), cc)])
    (hk : scope.kind = .function) (hks : scope.names.lookup ("super" : Str) = some .globalImplicit) (hkc : scope.names.lookup ("__class__" : Str) = some .free) (hka : scope.names.lookup ("self" : Str) = some .local) (hpar : (params.posonlyargs ++ params.args).head?.map (·.arg) = some ("self" : Str))
    (hN : X.N[0]? = some ("self" : Str)) (hs0 : σ[0]? = some (some (.ref a))) {m : Str} {j : Nat} {p0 p1 p2 p3 p4 p5 : Pos} {Q : Flow → Shared → Prop} {pl : Env → Sem Bool}
    (h : ∀ s', Inv X [] σ H s' → Q .next s')
    (hcall : ∀ env : Env, eval (.Call (.Attribute (.Call (.Name "super" p0) [] [] p1) "__init__" p2) [.Constant (.str m) j p3] [] p4) env = (do
      let ov ← attributeBase (.Call (.Name "super" p0) [] [] p1) "__init__" env (eval (.Call (.Name "super" p0) [] [] p1) env)
      standAt p2.atName
      let (f, first) ← holding [ov] (getMethod ov "__init__" (pl env))
      callWith p4 f first (backTo p4 (starEach [.Constant (.str m) j p3] env)) []))
    (hsw : ∀ env : Env, swapsWith (.Call (.Attribute (.Call (.Name "super" p0) [] [] p1) "__init__" p2) [.Constant (.str m) j p3] [] p4) none p5.line env = pure false)
    (hpl : ∀ env : Env, (backTo p4 (starEach [.Constant (.str m) j p3] env)).any (·.1) = false := by intro _; rfl)
    (he : ∀ env : Env, starEach [.Constant (.str m) j p3] env = (false, eval (.Constant (.str m) j p3) env) :: starEach [] env := by intro _; rfl) :
    _root_.PySem.wpAt (model X.prog X.w) X.A (.func body X.env) (exec (.Expr (.Call (.Attribute (.Call (.Name "super" p0) [] [] p1) "__init__" p2) [.Constant (.str m) j p3] [] p4) p5) X.env) Q X.xe s := by
  obtain ⟨oc, od, kV, doc, pm, an, ct, osl, rfl, hf⟩ := XD.ex
  obtain ⟨ccl, cdd, vs, ccs, file, tf, hcda, hvs, hfile⟩ := XD.file
  obtain ⟨cl, cld, csl, hcc⟩ := XD.cell
  obtain ⟨nm, q, Nn, bs, bm, sn, sub, ab, col, dd, k0, k1, k2, k3, k5, hC, hbm⟩ := T.cls
  have hcl : PySem.W.clsIn X.K D = some { name := nm, bases := bs, mro := .ref D :: bm, ns := Nn, qualname := q, hasDict := true, slotNames := sn, subclasses := sub, abstract := ab, collection := col, hasDel := false } := by unfold PySem.W.clsIn; rw [hC] <;> rfl
  obtain ⟨ar, har, harg⟩ : ∃ ar, (params.posonlyargs ++ params.args).head? = some ar ∧ ar.arg = "self" := by
    cases z : (params.posonlyargs ++ params.args).head? with
    | none => rw [z] at hpar; cases hpar
    | some ar => rw [z] at hpar; exact ⟨ar, rfl, Option.some.inj hpar⟩
  refine ks_wpAt_Expr_any ?_ I.quiet (hsw _)
  refine ks_wpAt_MethodCall (pl := pl X.env) ?_ (hcall _)
  have KI := I.kIn
  refine ks_wpAt_super_base (env := X.env) (by rw [Env.kindOf, esc]; exact hks) (by rw [Env.kindOf, esc]; exact hkc) (by decide) efn (KI _ _ hf) rfl har eco (KI _ _ hcda) rfl hvs hfile XD.top ?_
  have kd : X.env.scope.kind = .function := by rw [esc]; exact hk
  obtain ⟨mb, hb1, hb2⟩ := I.mod.blt
  refine PySem.W.ks_loadName_global kd (by rw [Env.kindOf, esc]; exact hks) (Calls.loadGlobal_builtin (by rw [I.ok.glob]; exact I.mod.glob.keeps I.bk) hsup (by rw [I.ok.blt]; exact hb1.keeps I.bk) ((hb2 "super" (by decide)).trans PyProof.Rows.Boot.super) ⟨rfl, ?_⟩)
  refine wpAny_loadName_free kd (by rw [Env.kindOf, esc]; exact hkc) (by rw [ecl]; rfl) ⟨_, KI _ _ hcc, rfl⟩ ?_
  rw [harg]
  obtain ⟨ml, hns, hml⟩ := I.loc
  obtain ⟨u, ru, hlook⟩ := hml 0 "self" (.ref a) hN hs0 (.inl (by rw [esc]; exact hka))
  obtain rfl : u = Value.ref a := ru
  have hself : ml "self" = some (Value.ref a) := by
    rcases hlook with ⟨_, z⟩ | ⟨z, _⟩
    · exact z
    · rw [Env.kindOf, esc, hka] at z
      rcases z with z | z <;> cases z
  refine wpAny_loadName_local kd (by rw [Env.kindOf, esc]; exact hka) hns hself ?_
  have hD1 := KI _ _ hC
  refine ks_wpAny_isType_cls hD1 rfl ⟨rfl, ?_⟩
  obtain ⟨t1, ho⟩ := exo_at I.hok e
  obtain ⟨hp, g, dr, tk, os⟩ := s
  refine ks_wpAny_call_super hD1 rfl ho rfl (fun c z => by cases z) (PySem.W.looks_mroIn KI XD.mro) (fun h1 e1 k1 => ?_)
  have I1 := I.kept (t' := tk) k1
  have KI1 := I1.kIn
  have hoe1 := k1 _ _ ho
  have hs1 := XD.sup
  unfold PySem.W.ks_superIn at hs1
  rw [hcl, Option.bind_some] at hs1
  have ia : PySem.W.InstAt h1 a { cls := .ref D, dict := none, data := .fields #[.ref t1, .none, .none, .none, .bool false, .none] } D none := ⟨hoe1, rfl, rfl, trivial⟩
  have lk1 : ∀ {M : Model}, PySem.W.Looks M h1 (mroOf (.ref D)) (.ref D :: bm) := fun {M} A Q E s k q => wpAny_bind ((PySem.W.looks_clsIn KI1 hcl) A _ E s k (wpAny_pure q))
  refine PySem.W.kxs_getMethod PySem.W.kxs_ValueError e1 (PySem.W.looks_opaque KI1 XD.opq) lk1 rfl KI1 hs1 (ia.type.andThen (PySem.W.looks_subIn KI1 XD.ve)) (PySem.W.ks_ne KI1 ia hcl) (by decide) ?_
  have k2 : ∀ b o, h1.get? b = some o → (h1.push (PySem.W.kxs_mw "ValueError.__init__" a)).get? b = some o := fun b o z => Heap.get?_push_of_some _ z
  have I2 := I1.kept (t' := tk + 1) k2
  have gu : (h1.push (PySem.W.kxs_mw "ValueError.__init__" a)).get? h1.objs.size = some (PySem.W.kxs_mw "ValueError.__init__" a) := Heap.get?_push_at rfl rfl
  have I3 := I2.pins_of (pins' := [(h1.objs.size, PySem.W.kxs_mw "ValueError.__init__" a)]) fun p hp => by
    rcases List.mem_singleton.mp hp with rfl
    exact ⟨gu, I1.hok.fresh (Nat.le_refl _), fun z => absurd I1.lt (by rw [← z]; exact Nat.lt_irrefl _), I1.nofs (Nat.le_refl _), fun v z => by cases z⟩
  have ha : PA X [.Constant (.str m) j p3] (tCons (tC (.str m)) tNil) := pa_cons pe_str pa_nil (he _)
  refine xcallWith1 (i := "ValueError.__init__") (x := a) ?_ (he _) (hpl _)
  refine thn (ha.run p4 _ _ σ H (fun vs H1 => vs = [V.str m] ∧ H = H1) I3 ⟨rfl, rfl⟩) fun us s1 hh => ?_
  obtain ⟨vs', H1, J1, r1, ev, eH⟩ := hh
  subst ev
  rw [← eH] at J1
  have hu := (J1.pin (_, _) (List.mem_append_right _ (List.mem_singleton.mpr rfl))).1
  refine ⟨hu, ?_⟩
  obtain ⟨t2, ho2⟩ := exo_at J1.hok e
  refine xcall_bw (t := t2) PySem.F.excBase_ValueError (J1.kIn _ _ hC) hu ho2 (by
    have h1 : us.length = 1 := (Paired.length r1).symm
    show us.length ≤ _
    rw [h1, sizeLine_eq]; decide) fun h4 k4 e4 => ?_
  have J := J1.write (t' := s1.toks) (x := a) (e := a) (o := exo a D none) (by rw [e]; exact True.intro) (.inl rfl) k4 ⟨_, e4⟩ (exo_ok e4)
  have eu : upd H a (exo a D none) = H := by
    funext b
    by_cases hb : b = a
    · rw [hb, upd_same, e]
    · rw [upd_ne hb]
  rw [eu] at J
  exact h _ (J.pins_of fun p hp => by cases hp)
end
section
variable {P : Program} {w : World} {K : PySem.W.Frag} {mg : Str → Option Value} {base : Heap} {D f cda cc : Addr} {name qual : Str} {params : Arguments} {body rest : List Stmt} {scope : Scope} {fd : FuncData} {N ps : List Str} {k : Nat} {sp : Sp}
theorem xinit_run (XD : XiD P K D f name qual params body scope fd cda cc) (T : OexC K D) (S : NdefX.NScope N ps ["__class__"] scope) (hsup : mg "super" = none) (len : ∀ vs H Q E, sp vs H Q E → vs.length = ps.length)
    (hks : scope.names.lookup ("super" : Str) = some .globalImplicit) (hka : scope.names.lookup ("self" : Str) = some .local) (hpar : (params.posonlyargs ++ params.args).head?.map (·.arg) = some ("self" : Str)) (hN : N[0]? = some ("self" : Str))
    {m : Str} {j : Nat} {p0 p1 p2 p3 p4 p5 : Pos} {pl : Env → Sem Bool}
    (hcall : ∀ env : Env, eval (.Call (.Attribute (.Call (.Name "super" p0) [] [] p1) "__init__" p2) [.Constant (.str m) j p3] [] p4) env = (do
      let ov ← attributeBase (.Call (.Name "super" p0) [] [] p1) "__init__" env (eval (.Call (.Name "super" p0) [] [] p1) env)
      standAt p2.atName
      let (f, first) ← holding [ov] (getMethod ov "__init__" (pl env))
      callWith p4 f first (backTo p4 (starEach [.Constant (.str m) j p3] env)) []))
    (hsw : ∀ env : Env, swapsWith (.Call (.Attribute (.Call (.Name "super" p0) [] [] p1) "__init__" p2) [.Constant (.str m) j p3] [] p4) none p5.line env = pure false)
    (hbody : body = .Expr (.Call (.Attribute (.Call (.Name "super" p0) [] [] p1) "__init__" p2) [.Constant (.str m) j p3] [] p4) p5 :: rest)
    (hgo : ∀ (A : Around) (outer : List Env) (s : Shared) (H : Hp) (vs : List V) (Q : VK) (E : XK), sp vs H Q E → (∃ a ws, vs = .ref a :: ws ∧ H a = some (exo a D none)) ∧
      ∃ t, PSs (NdefX.ncx (L2.CX P w) P w K mg base N (xnf name qual params body scope cda cc) f A outer s H E) rest t ∧ t { nx := fun _ H' => Q .non H', rt := Q } (NdefX.startF N vs [none]) H) :
    FnOk P w K mg base (L2.CX P w) (k + 1) f fd ps sp := by
  refine ⟨len, fun A outer s H args us vs Q E hr e0 hb r hsp => ?_⟩
  have hl := len _ _ _ _ hsp
  obtain ⟨⟨a, ws, rfl, ha⟩, t, ht, hq⟩ := hgo A outer s H vs Q E hsp
  have KX : K.In s.heap := e0.mod.kin.keeps fun b o e => (e0.bs b o e).1
  have lim : s.heap.NoLimit := e0.mod.nolimit.keeps fun b o e => (e0.bs b o e).1
  have XD' := XD
  obtain ⟨oc, od, kV, doc, pm, an, ct, osl, rfl, lk⟩ := XD.ex
  have Cc : NdefX.CellsAt (xnf name qual params body scope cda cc).cl ["__class__"] [none] s.heap H := by
    obtain ⟨cl, cld, csl, hcc⟩ := XD.cell
    have hb := e0.bs cc _ (e0.mod.kin _ _ hcc)
    have one : ∀ y c, (xnf name qual params body scope cda cc).cl.lookup y = some c → y = ("__class__" : Str) ∧ c = cc := fun y c z => by
      have z : (match y == ("__class__" : Str) with | true => some cc | false => none) = some c := z
      cases q : y == ("__class__" : Str) with
      | true => rw [q] at z; cases z; exact ⟨eq_of_beq q, rfl⟩
      | false => rw [q] at z; cases z
    refine ⟨rfl, fun y c z => ?_, fun x y c z1 z2 => (one x c z1).1.trans (one y c z2).1.symm, fun i y z => ?_⟩
    · obtain ⟨_, rfl⟩ := one y c z
      exact ⟨hb.2, _, _, hb.1, rfl⟩
    · cases i with
      | zero =>
        cases z
        exact ⟨cc, rfl, fun v z => by cases z⟩
      | succ i => cases z
  refine ks_codeAny_call_defAt (body := body) (binds := ps.zip us) hr.depth (KX _ _ lk) rfl lim (PySem.W.codeRec_of KX XD.code) rfl hb S.nocell (fun ⟨n, _⟩ hy => S.par n (List.of_mem_zip hy).1) (fun h₁ hns kp => ?_) S.co S.gen S.kind
  have I : Inv (NdefX.ncx (L2.CX P w) P w K mg base N (xnf name qual params body scope cda cc) f A outer s H E) [] (NdefX.startF N (.ref a :: ws) [none]) H { s with heap := h₁, toks := s.toks + (ps.zip us).length } := NdefX.inv_startN S hr.hd e0 hl r Cc hns kp
  show _root_.PySem.wpAt (model P w) (NdefX.ncx (L2.CX P w) P w K mg base N (xnf name qual params body scope cda cc) f A outer s H E).A (.func body (NdefX.ncx (L2.CX P w) P w K mg base N (xnf name qual params body scope cda cc) f A outer s H E).env) (execs body (NdefX.ncx (L2.CX P w) P w K mg base N (xnf name qual params body scope cda cc) f A outer s H E).env) _ (NdefX.ncx (L2.CX P w) P w K mg base N (xnf name qual params body scope cda cc) f A outer s H E).xe _
  generalize hX : NdefX.ncx (L2.CX P w) P w K mg base N (xnf name qual params body scope cda cc) f A outer s H E = X at *
  have fin : ∀ {σ' : L2.St} {H' : Hp} {v : V} {u : Value} {s' : Shared}, Inv X [] σ' H' s' → L2.RelV v u → Q v H' → CE outer P w H s Q u s' := fun {σ' H' v u s'} J rv q => by
    subst hX
    exact ⟨v, H', J.os, J.bare, J.base, J.hok, rv, q⟩
  have x1 : X.prog = P := by rw [← hX]; rfl
  have x2 : X.K = K := by rw [← hX]; rfl
  have x3 : X.w = w := by rw [← hX]; rfl
  have x4 : X.mg = mg := by rw [← hX]; rfl
  have x5 : X.N = N := by rw [← hX]; rfl
  have x6 : X.env.scope = scope := by rw [← hX]; rfl
  have x7 : X.env.func = some f := by rw [← hX]; rfl
  have x8 : X.env.code = .ref cda := by rw [← hX]; rfl
  have x9 : X.env.cells = [(("__class__" : Str), cc)] := by rw [← hX]; rfl
  clear hX
  subst x1 x2 x3 x4 x5
  subst hbody
  have hsf : (NdefX.startF X.N (V.ref a :: ws) [none])[0]? = some (some (V.ref a)) := rfl
  refine ks_wpAt_execs_cons (ks_wpAt_mono (wp_super (Q := fun fl s' => fl = .next ∧ Inv X [] (NdefX.startF X.N (V.ref a :: ws) [none]) H s') XD' T I ha hsup x6 x7 x8 x9 S.kind hks (S.frk _ (List.mem_singleton.mpr rfl)) hka hpar hN hsf (fun s' J => ⟨rfl, J⟩) hcall hsw) (fun fl s' hh => ?_) fun _ _ z => z)
  obtain ⟨rfl, J⟩ := hh
  refine wpAt_of_wpAny (wpAny_mono (ht.run [] _ _ H _ J hq) (fun fl s' hs => ?_) fun e s' hs => hs)
  cases fl with
  | ret u =>
    obtain ⟨v, σ', H', J, rv, q⟩ := hs
    exact fin J rv q
  | next =>
    obtain ⟨σ', H', J, q⟩ := hs
    exact fin (v := V.non) (u := Value.none) J rfl q
  | brk =>
    obtain ⟨_, _, _, q⟩ := hs
    exact False.elim q
  | cont =>
    obtain ⟨_, _, _, q⟩ := hs
    exact False.elim q
end
end Py
set_option maxRecDepth 100000
set_option maxHeartbeats 2000000
namespace Py
open PySem PySem.Spec PyProof.Rows L2
section
variable {P : Program} {w : World} {K : PySem.W.Frag} {mg : Str → Option Value} {base : Heap} {f cda cc : Addr} {name qual : Str} {params : Arguments} {body rest : List Stmt} {scope : Scope} {fd : FuncData} {N ps : List Str} {k n : Nat} {sp : Sp}
theorem spX_len {vs : List V} {H : Hp} {Q : VK} {E : XK} (h : spX K n vs H Q E) : vs.length = (xnm n).length + 1 := by
  obtain ⟨a, ws, rfl, hl, _⟩ := h
  rw [List.length_cons, hl]
/-- __init__(self, at) -/
theorem xinit6 (XD : XiD P K (clK K 6) f name qual params body scope fd cda cc) (T : OexC K (clK K 6)) (S : NdefX.NScope ["self", "at", "__class__"] ["self", "at"] ["__class__"] scope) (hsup : mg "super" = none)
    (hks : scope.names.lookup ("super" : Str) = some .globalImplicit) (hka : scope.names.lookup ("self" : Str) = some .local) (hkb : scope.names.lookup ("at" : Str) = some .local) (hpar : (params.posonlyargs ++ params.args).head?.map (·.arg) = some ("self" : Str))
    {m : Str} {j : Nat} {p0 p1 p2 p3 p4 p5 a1 a2 a3 a4 : Pos} {pl : Env → Sem Bool}
    (hcall : ∀ env : Env, eval (.Call (.Attribute (.Call (.Name "super" p0) [] [] p1) "__init__" p2) [.Constant (.str m) j p3] [] p4) env = (do
      let ov ← attributeBase (.Call (.Name "super" p0) [] [] p1) "__init__" env (eval (.Call (.Name "super" p0) [] [] p1) env)
      standAt p2.atName
      let (f, first) ← holding [ov] (getMethod ov "__init__" (pl env))
      callWith p4 f first (backTo p4 (starEach [.Constant (.str m) j p3] env)) []))
    (hsw : ∀ env : Env, swapsWith (.Call (.Attribute (.Call (.Name "super" p0) [] [] p1) "__init__" p2) [.Constant (.str m) j p3] [] p4) none p5.line env = pure false)
    (hsw2 : ∀ env : Env, swapsWith (.Name "at" a3) (some (.Attribute (.Name "self" a1) "at" a2)) a4.line env = pure false)
    (hno : PySem.W.findIn K (.ref (clK K 6)) "at" = some none)
    (hbody : body = [.Expr (.Call (.Attribute (.Call (.Name "super" p0) [] [] p1) "__init__" p2) [.Constant (.str m) j p3] [] p4) p5, .Assign [.Attribute (.Name "self" a1) "at" a2] (.Name "at" a3) a4]) :
    FnOk P w K mg base (L2.CX P w) (k + 1) f fd ["self", "at"] (spX K 6) := by
  refine xinit_run XD T S hsup (fun vs H Q E h => spX_len h) hks hka hpar rfl hcall hsw hbody fun A outer s H vs Q E h => ?_
  obtain ⟨a, ws, rfl, hl, ha, q⟩ := h
  match ws, hl with
  | [v], _ =>
    refine ⟨⟨a, [v], rfl, ha⟩, _, pss_one (ps_ost (f := "at") (pe_var (i := 0) rfl (.inl hka) (by decide) (by decide)) (pe_var (i := 1) rfl (.inl hkb) (by decide) (by decide)) (hsw2 _)), ?_⟩
    refine ⟨v, rfl, .ref a, rfl, a, clK K 6, rfl, T, hno, .inl ⟨ha, fun dx hn hne => q dx _ hn hne (fun b h1 h2 => by rw [upd_ne h1, upd_ne h2]) upd_same (by rw [upd_ne hne, upd_same]; rfl)⟩⟩
/-- __init__(self, line, reason) -/
theorem xinit13 (XD : XiD P K (clK K 13) f name qual params body scope fd cda cc) (T : OexC K (clK K 13)) (S : NdefX.NScope ["self", "line", "reason", "__class__"] ["self", "line", "reason"] ["__class__"] scope) (hsup : mg "super" = none)
    (hks : scope.names.lookup ("super" : Str) = some .globalImplicit) (hka : scope.names.lookup ("self" : Str) = some .local) (hkb : scope.names.lookup ("line" : Str) = some .local) (hkd : scope.names.lookup ("reason" : Str) = some .local) (hpar : (params.posonlyargs ++ params.args).head?.map (·.arg) = some ("self" : Str))
    {m : Str} {j : Nat} {p0 p1 p2 p3 p4 p5 a1 a2 a3 a4 b1 b2 b3 b4 : Pos} {pl : Env → Sem Bool}
    (hcall : ∀ env : Env, eval (.Call (.Attribute (.Call (.Name "super" p0) [] [] p1) "__init__" p2) [.Constant (.str m) j p3] [] p4) env = (do
      let ov ← attributeBase (.Call (.Name "super" p0) [] [] p1) "__init__" env (eval (.Call (.Name "super" p0) [] [] p1) env)
      standAt p2.atName
      let (f, first) ← holding [ov] (getMethod ov "__init__" (pl env))
      callWith p4 f first (backTo p4 (starEach [.Constant (.str m) j p3] env)) []))
    (hsw : ∀ env : Env, swapsWith (.Call (.Attribute (.Call (.Name "super" p0) [] [] p1) "__init__" p2) [.Constant (.str m) j p3] [] p4) none p5.line env = pure false)
    (hsw2 : ∀ env : Env, swapsWith (.Name "line" a3) (some (.Attribute (.Name "self" a1) "line" a2)) a4.line env = pure false)
    (hsw3 : ∀ env : Env, swapsWith (.Name "reason" b3) (some (.Attribute (.Name "self" b1) "reason" b2)) b4.line env = pure false)
    (hno : PySem.W.findIn K (.ref (clK K 13)) "line" = some none) (hno2 : PySem.W.findIn K (.ref (clK K 13)) "reason" = some none)
    (hbody : body = [.Expr (.Call (.Attribute (.Call (.Name "super" p0) [] [] p1) "__init__" p2) [.Constant (.str m) j p3] [] p4) p5, .Assign [.Attribute (.Name "self" a1) "line" a2] (.Name "line" a3) a4, .Assign [.Attribute (.Name "self" b1) "reason" b2] (.Name "reason" b3) b4]) :
    FnOk P w K mg base (L2.CX P w) (k + 1) f fd ["self", "line", "reason"] (spX K 13) := by
  refine xinit_run XD T S hsup (fun vs H Q E h => spX_len h) hks hka hpar rfl hcall hsw hbody fun A outer s H vs Q E h => ?_
  obtain ⟨a, ws, rfl, hl, ha, q⟩ := h
  match ws, hl with
  | [v, u], _ =>
    refine ⟨⟨a, [v, u], rfl, ha⟩, _, pss_cons (ps_ost (f := "line") (pe_var (i := 0) rfl (.inl hka) (by decide) (by decide)) (pe_var (i := 1) rfl (.inl hkb) (by decide) (by decide)) (hsw2 _)) (pss_one (ps_ost (f := "reason") (pe_var (i := 0) rfl (.inl hka) (by decide) (by decide)) (pe_var (i := 2) rfl (.inl hkd) (by decide) (by decide)) (hsw3 _))), ?_⟩
    refine ⟨v, rfl, .ref a, rfl, a, clK K 13, rfl, T, hno, .inl ⟨ha, fun dx hn hne => ?_⟩⟩
    refine ⟨u, rfl, .ref a, rfl, a, clK K 13, rfl, T, hno2, .inr ⟨dx, [("line", v)], upd_same, by rw [upd_ne hne, upd_same], (by show 1 ≤ 900; decide), ?_⟩⟩
    refine q dx _ hn hne (fun b h1 h2 => by rw [upd_ne h2, upd_ne h1, upd_ne h2]) (by rw [upd_ne hne.symm, upd_same]) (by rw [upd_same]; rfl)
end
end Py
set_option maxRecDepth 100000
set_option maxHeartbeats 2000000
namespace Py
open PySem PySem.Spec PyProof.Rows L2
/-! ### a head that also tells of the error classes with an __init__ -/
/-- the class's number, its __init__ -/
structure IniD where
  n : Nat
  d : He.DefD
def iniA (K : PySem.W.Frag) (n : Nat) : Addr := He.ma K (clK K n) "__init__"
def inFd (K : PySem.W.Frag) (n : Nat) : Option FuncData := match K.lookup (iniA K n) with
  | some ⟨_, _, .func fd, _⟩ => some fd
  | _ => none
def iniC (K : PySem.W.Frag) (n : Nat) : Addr := match inFd K n with
  | some fd => (match fd.closure with
    | [(_, c)] => c
    | _ => 0)
  | none => 0
def iniK (K : PySem.W.Frag) (n : Nat) : Addr := match inFd K n with
  | some fd => (match fd.code with
    | .ref c => c
    | _ => 0)
  | none => 0
def fnC (K : PySem.W.Frag) (n : Nat) : He.FnW := (inFd K n).map fun fd => (fd.name, fd.qualname, fd.params, fd.body, fd.scope, fd.globals, [], fd.builtins)
def oexB (K : PySem.W.Frag) (C : Addr) : Bool := (match K.lookup C with
  | some ⟨.type "type", _, .cls cd, sl⟩ => (match cd.mro, sl.toList with
    | .ref C' :: bm, [_, _, _, _, some (.builtin n), _] => C' == C && (n == "ValueError.__new__" && (!cd.hasDel && (cd.hasDict && PySem.HandSPX.refsVE bm)))
    | _, _ => false)
  | _ => false) && (He.eqO (PySem.W.findIn K (.ref C) "__setattr__") (some (some (.builtin "object.__setattr__"))) && (decide (PySem.W.subIn K (.ref C) (.type "BaseException") = some true) && (decide (PySem.W.typeIn K (.ref C) = some (.type "type")) && PySem.W.keepIn K (.ref C))))
theorem oexB_ok {K : PySem.W.Frag} {C : Addr} (h : oexB K C = true) : OexC K C := by
  unfold oexB at h
  simp only [Bool.and_eq_true, decide_eq_true_eq] at h
  obtain ⟨h1, h2, h3, h4, h5⟩ := h
  refine ⟨?_, He.eqO_ok h2, h3, h4, h5⟩
  split at h1
  · rename_i dd cd sl ho
    split at h1
    · rename_i C' bm k0 k1 k2 k3 n k5 hm hs
      simp only [Bool.and_eq_true, beq_iff_eq, Bool.not_eq_true'] at h1
      obtain ⟨rfl, rfl, hdel, hdct, hbm⟩ := h1
      obtain ⟨nm, bs, mro, ns, qn, hd, sn, sb, ab, col, del⟩ := cd
      dsimp only at hm hdel hdct
      subst hm hdel hdct
      have hsl : sl = #[k0, k1, k2, k3, some (.builtin "ValueError.__new__"), k5] := by
        obtain ⟨l⟩ := sl
        simp only at hs
        rw [hs]
      subst hsl
      exact ⟨_, _, _, _, _, _, _, _, _, _, _, _, _, _, _, ho, hbm⟩
    · cases h1
  · cases h1
def iniB (file : Str) (K : PySem.W.Frag) (p : IniD) : Bool := oexB K (clK K p.n) && (He.eqO (PySem.W.findIn K (.ref (clK K p.n)) "__init__") (some (some (.ref (iniA K p.n)))) && (decide (PySem.W.typeIn K (.ref (iniA K p.n)) = some (.type "function")) &&
  ((match inFd K p.n with
    | some fd => decide (fd.closure = [(("__class__" : Str), iniC K p.n)]) && (decide (fd.defaults = .none) && decide (fd.code = .ref (iniK K p.n)))
    | none => false) && (PySem.W.codeIn K (.ref (iniK K p.n)) p.d.qual && ((match K.lookup (iniK K p.n) with
    | some ⟨_, _, .fields vs, _⟩ => (match (vs[2]? : Option Value) with
      | some (.str f _) => file == f
      | _ => false)
    | _ => false) && ((match K.lookup (iniC K p.n) with
    | some ⟨_, _, .cell (some v), _⟩ => decide (v = .ref (clK K p.n))
    | _ => false) && (decide (PySem.W.mroIn K (clK K p.n) (.ref (clK K p.n)) = some true) && (He.eqO (PySem.W.ks_superIn K (clK K p.n) (clK K p.n) "__init__") (some (some (.builtin "ValueError.__init__"))) && (decide (PySem.W.subIn K (.ref (clK K p.n)) (.type "ValueError") = some true) &&
  (He.eqO (PySem.W.nsIn K cStatics "thirdparty.any") (some none) && ((xnm p.n).all fun x => He.eqO (PySem.W.findIn K (.ref (clK K p.n)) x) (some none))))))))))))
/-- what follows -/
structure IniC (P : Program) (K : PySem.W.Frag) (p : IniD) : Prop where
  ox : OexC K (clK K p.n)
  at_ : PySem.W.findIn K (.ref (clK K p.n)) "__init__" = some (some (.ref (iniA K p.n)))
  ty : PySem.W.typeIn K (.ref (iniA K p.n)) = some (.type "function")
  noat : ∀ x ∈ xnm p.n, PySem.W.findIn K (.ref (clK K p.n)) x = some none
  xd : ∃ fd, XiD P K (clK K p.n) (iniA K p.n) p.d.name p.d.qual p.d.params p.d.body p.d.scope fd (iniK K p.n) (iniC K p.n)
theorem iniB_ok {P : Program} {K : PySem.W.Frag} {p : IniD} (h : iniB P.main.file K p = true) (e : fnC K p.n = p.d.val) (top : (P.main.scope.names.lookup ("super" : Str)).isSome = false) : IniC P K p := by
  unfold iniB at h
  simp only [Bool.and_eq_true, decide_eq_true_eq, List.all_eq_true] at h
  obtain ⟨h1, h2, h3, h4, h5, h6, h7, h8, h9, h10, h11, h12⟩ := h
  refine ⟨oexB_ok h1, He.eqO_ok h2, h3, fun x hx => He.eqO_ok (h12 x hx), ?_⟩
  unfold fnC at e
  have hfd : ∃ fd, inFd K p.n = some fd := by
    cases q : inFd K p.n with
    | none => rw [q] at h4; cases h4
    | some fd => exact ⟨fd, rfl⟩
  obtain ⟨fd, hfd⟩ := hfd
  rw [hfd] at h4 e
  simp only [Bool.and_eq_true, decide_eq_true_eq] at h4
  obtain ⟨c1, c2, c3⟩ := h4
  have hl : ∃ oc od osl, K.lookup (iniA K p.n) = some ⟨oc, od, .func fd, osl⟩ := by
    unfold inFd at hfd
    split at hfd
    · rename_i oc od fd' osl q
      cases hfd
      exact ⟨oc, od, osl, q⟩
    · cases hfd
  obtain ⟨oc, od, osl, hl⟩ := hl
  obtain ⟨y1, y2, y3, y4, y5, y6, y7, y8, y9, ya, yb, yc, yd, ye, yf⟩ := fd
  have ee : (some (y1, y2, y3, y4, y5, y6, [], yf) : He.FnW) = some (p.d.name, p.d.qual, p.d.params, .stmts p.d.body, p.d.scope, mainGlobals, [], builtinsNs) := e
  simp only [Prod.mk.injEq, Option.some.injEq] at ee
  obtain ⟨z1, z2, z3, z4, z5, z6, z7, z8⟩ := ee
  dsimp only at c1 c2 c3
  subst z1 z2 z3 z4 z5 z6 z8 c1 c2 c3
  refine ⟨_, ⟨oc, od, y9, ya, yb, yc, ye, osl, rfl, hl⟩, h5, ?_, ?_, h8, He.eqO_ok h9, h10, He.eqO_ok h11, top⟩
  · cases q : K.lookup (iniK K p.n) with
    | none => rw [q] at h6; cases h6
    | some o =>
      obtain ⟨oc, od, dt, osl⟩ := o
      rw [q] at h6
      cases dt with
      | fields vs =>
        have h6 : (match (vs[2]? : Option Value) with
          | some (.str f _) => P.main.file == f
          | _ => false) = true := h6
        cases q2 : vs[2]? with
        | none => rw [q2] at h6; cases h6
        | some v =>
          rw [q2] at h6
          cases v with
          | str f t => exact ⟨_, _, vs, _, f, t, rfl, q2, h6⟩
          | _ => cases h6
      | _ => cases h6
  · cases q : K.lookup (iniC K p.n) with
    | none => rw [q] at h7; cases h7
    | some o =>
      obtain ⟨oc, od, dt, osl⟩ := o
      rw [q] at h7
      cases dt with
      | cell v =>
        cases v with
        | none => cases h7
        | some v =>
          have h7 : decide (v = Value.ref (clK K p.n)) = true := h7
          have := of_decide_eq_true h7
          subst this
          exact ⟨_, _, _, rfl⟩
      | _ => cases h7
def valX (fn : List He.DefD) (ps : List PrD) (xs : List IniD) : He.AlD := (true, fn.map He.DefD.val ++ ps.map (fun p => p.d.val) ++ xs.map fun p => p.d.val)
def obsX (file : Str) (fa : List He.Fa) (fn : List He.DefD) (es : List Nat) (ps : List PrD) (xs : List IniD) (K : PySem.W.Frag) : He.AlD := ((obsQ fa fn es ps K).1 && xs.all (iniB file K), (obsQ fa fn es ps K).2 ++ xs.map fun p => fnC K p.n)
def SaysX (file : Str) (fa : List He.Fa) (fn : List He.DefD) (es : List Nat) (ps : List PrD) (xs : List IniD) (K : PySem.W.Frag) : Prop := obsX file fa fn es ps xs K = valX fn ps xs
theorem SaysX.q {file : Str} {fa : List He.Fa} {fn : List He.DefD} {es : List Nat} {ps : List PrD} {xs : List IniD} {K : PySem.W.Frag} (c : SaysX file fa fn es ps xs K) : SaysQ fa fn es ps K ∧ (∀ p ∈ xs, iniB file K p = true) ∧ xs.map (fun p => fnC K p.n) = xs.map fun p => p.d.val := by
  unfold SaysX obsX valX at c
  obtain ⟨c1, c2⟩ := Prod.mk.inj c
  rw [Bool.and_eq_true] at c1
  obtain ⟨e1, e2⟩ := List.append_inj c2 (by unfold obsQ obsP; simp)
  exact ⟨Prod.ext c1.1 e1, List.all_eq_true.mp c1.2, e2⟩
theorem SaysX.ini {P : Program} {file : Str} {fa : List He.Fa} {fn : List He.DefD} {es : List Nat} {ps : List PrD} {xs : List IniD} {K : PySem.W.Frag} (c : SaysX file fa fn es ps xs K) (hf : P.main.file = file) (top : (P.main.scope.names.lookup ("super" : Str)).isSome = false) (i : Nat) {p : IniD} (h : xs[i]? = some p) : IniC P K p := by
  subst hf
  obtain ⟨_, c2, c3⟩ := c.q
  have e2 : (xs.map fun p => fnC K p.n)[i]? = (xs.map fun p => p.d.val)[i]? := by rw [c3]
  rw [List.getElem?_map, List.getElem?_map, h] at e2
  exact iniB_ok (c2 p (List.mem_of_getElem? h)) (Option.some.inj e2) top
def obsXG (n : Nat) (file : Str) (fa : List He.Fa) (fn : List He.DefD) (es : List Nat) (ps : List PrD) (xs : List IniD) (g : Addr → Option Obj) : He.AlD := obsX file fa fn es ps xs (He.frG g (He.asD g n ++ [cStatics]))
def hookX (n : Nat) (file : Str) (fa : List He.Fa) (fn : List He.DefD) (es : List Nat) (ps : List PrD) (xs : List IniD) : PySem.W.Hook where
  α := He.AlD
  obs := fun s => obsXG n file fa fn es ps xs s.heap.get?
  val := fun _ => valX fn ps xs
  says := fun _ h => ∃ K : PySem.W.Frag, K.In h ∧ SaysX file fa fn es ps xs K
  of := fun _ _ e => ⟨_, He.frG_in, e⟩
  keeps := fun _ _ _ ⟨K, hK, c⟩ k => ⟨K, PySem.W.Frag.In.keeps hK k, c⟩
theorem obsXG_eq {n : Nat} {file : Str} {fa : List He.Fa} {fn : List He.DefD} {es : List Nat} {ps : List PrD} {xs : List IniD} {g : Addr → Option Obj} {s : Shared} (h : ∀ a, g a = s.heap.get? a) : obsXG n file fa fn es ps xs g = (hookX n file fa fn es ps xs).obs s := by
  have e : g = s.heap.get? := funext h
  rw [e] <;> rfl
end Py
set_option maxRecDepth 100000
set_option maxHeartbeats 2000000
namespace Py
open PySem PySem.Spec PyProof.Rows L2
section
variable {P : Program} {w : World} {K : PySem.W.Frag} {mg : Str → Option Value} {base : Heap}
theorem IniC.xr {p : IniD} {ps : List Str} (c : IniC P K p)
    (hb : ∀ (kV doc pm : Value) (an : Option Addr) (cda cc : Addr) (ct : Value) (us : List Value), us.length = ps.length → bindArgs (PySem.W.fnX p.d.name p.d.qual p.d.params p.d.body p.d.scope [("__class__", cc)] .none kV doc pm an (.ref cda) ct) ⟨us, []⟩ = pure (ps.zip us))
    (hF : ∀ fd, XiD P K (clK K p.n) (iniA K p.n) p.d.name p.d.qual p.d.params p.d.body p.d.scope fd (iniK K p.n) (iniC K p.n) → FnOk P w K mg base (L2.CX P w) 1 (iniA K p.n) fd ps (spX K p.n)) : XrC P w K mg base p.n := by
  obtain ⟨fd, xd⟩ := c.xd
  refine ⟨c.ox, ⟨_, fd, ps, c.at_, c.ty, ?_, hF fd xd⟩, c.noat⟩
  obtain ⟨oc, od, kV, doc, pm, an, ct, osl, rfl, lk⟩ := xd.ex
  exact .all fun us hl => hb kV doc pm an _ _ ct us hl
end
/-! ### raise C(e, ..) -/
theorem mko_fin {K : PySem.W.Frag} {n : Nat} {vs : List V} {H1 : Hp} {Q : XK} (hl : vs.length = (xnm n).length) (h : ∀ d, H1 d = none → Q (.ref (clK K n)) (some d) (upd H1 d (.xd ((xnm n).zip vs).reverse))) :
    vs.length ≤ 1000 ∧ ∀ a, H1 a = none → spX K n (.ref a :: (vs ++ [])) (upd H1 a (exo a (clK K n) none))
      (fun v H2 => v = .non ∧ ∃ (d : Addr) (fs : List (Str × V)), H2 a = some (exo a (clK K n) (some d)) ∧ H2 d = some (exd d fs) ∧ H1 d = none ∧ Q (.ref (clK K n)) (some d) (upd (L2.del H2 a) d (.xd fs))) (fun _ _ _ => False) := by
  refine ⟨by rw [hl]; unfold xnm; split <;> decide, fun a ha => ⟨a, vs, by rw [List.append_nil], hl, upd_same, fun d H' hd hne h3 h4 h5 => ⟨rfl, d, _, h4, h5, by rw [upd_ne hne] at hd; exact hd, ?_⟩⟩⟩
  rw [upd_ne hne] at hd
  have e : upd (L2.del H' a) d (.xd ((xnm n).zip vs).reverse) = upd H1 d (.xd ((xnm n).zip vs).reverse) := by
    funext b
    by_cases hb : b = d
    · rw [hb, upd_same, upd_same]
    · rw [upd_ne hb, upd_ne hb]
      by_cases hba : b = a
      · rw [hba, L2.del_same, ha]
      · rw [L2.del_ne hba, h3 b hba hb, upd_ne hba]
  rw [e]
  exact h d hd
def rsi (r : List Nat) : Option Nat := [0, 1, 2, 3, 4, 5].find? fun j => rsn j == r
/-- the code of an error that is made -/
def xcode (n : Nat) (ds : List D) : Option Nat := if n = 6 then (match ds with
    | [.int i] => if 0 ≤ i then some (100 + 2 * i.toNat) else none
    | _ => none) else (match ds with
    | [.int i, .str r] => if 0 ≤ i then (rsi r).map fun j => 100 + 2 * (i.toNat * 6 + j) + 1 else none
    | _ => none)
theorem rsi_some {r : List Nat} {j : Nat} (h : rsi r = some j) : j < 6 ∧ rsn j = r := by
  unfold rsi at h
  have h1 := List.find?_some h
  have h2 := List.mem_of_find?_eq_some h
  refine ⟨?_, eq_of_beq h1⟩
  simp only [List.mem_cons, List.not_mem_nil, or_false] at h2
  omega
theorem repL_one {K : PySem.W.Frag} {M : Addr → Prop} {H : Hp} {vs : List V} {d : D} (r : RepL K M H vs [d]) : ∃ v, vs = [v] ∧ Rep K M H v d := by
  cases r with
  | cons r1 t => cases t; exact ⟨_, rfl, r1⟩
theorem repL_two {K : PySem.W.Frag} {M : Addr → Prop} {H : Hp} {vs : List V} {d e : D} (r : RepL K M H vs [d, e]) : ∃ v u, vs = [v, u] ∧ Rep K M H v d ∧ Rep K M H u e := by
  cases r with
  | cons r1 t =>
    obtain ⟨u, rfl, r2⟩ := repL_one t
    exact ⟨_, u, rfl, r1, r2⟩
/-- what the code tells -/
theorem xcode_ok {K : PySem.W.Frag} {M : Addr → Prop} {H : Hp} {n c : Nat} {ds : List D} {vs : List V} (hn : (n == 6 || n == 13) = true) (h : xcode n ds = some c) (r : RepL K M H vs ds) : 100 ≤ c ∧ bc c = n ∧ vs.length = (xnm n).length ∧ ((xnm n).zip vs).reverse = xfs c := by
  unfold xcode at h
  by_cases h6 : n = 6
  · rw [if_pos h6] at h
    subst h6
    split at h
    · rename_i i
      obtain ⟨v, rfl, rv⟩ := repL_one r
      cases rv
      split at h
      · rename_i hi
        cases h
        have e1 : (100 + 2 * i.toNat) % 2 = 0 := by omega
        have e2 : (((100 + 2 * i.toNat : Nat) : Int) - 100) / 2 = i := by
          have := Int.toNat_of_nonneg hi
          omega
        refine ⟨by omega, ?_, rfl, ?_⟩
        · unfold bc; rw [if_neg (by omega), if_pos e1]
        · unfold xfs; rw [if_pos e1, e2]; rfl
      · cases h
    · cases h
  · rw [if_neg h6] at h
    have hn' : n = 13 := by
      simp only [Bool.or_eq_true, beq_iff_eq] at hn
      omega
    subst hn'
    split at h
    · rename_i i x
      obtain ⟨v, u, rfl, rv, ru⟩ := repL_two r
      cases rv
      cases ru
      split at h
      · rename_i hi
        cases q : rsi x with
        | none => rw [q] at h; cases h
        | some j =>
          rw [q] at h
          cases h
          obtain ⟨hj, hx⟩ := rsi_some q
          have e1 : ¬ (100 + 2 * (i.toNat * 6 + j) + 1) % 2 = 0 := by omega
          have e2 : ((((100 + 2 * (i.toNat * 6 + j) + 1 : Nat) : Int) - 100) / 2) / 6 = i := by
            have := Int.toNat_of_nonneg hi
            omega
          have e3 : (((100 + 2 * (i.toNat * 6 + j) + 1) - 100) / 2) % 6 = j := by omega
          show 100 ≤ (100 + 2 * (i.toNat * 6 + j) + 1) ∧ bc (100 + 2 * (i.toNat * 6 + j) + 1) = 13 ∧ _ ∧ _ = xfs (100 + 2 * (i.toNat * 6 + j) + 1)
          refine ⟨by omega, ?_, rfl, ?_⟩
          · unfold bc; rw [if_neg (by omega), if_neg e1]
          · unfold xfs; rw [if_neg e1, e3, e2, hx]; rfl
      · cases h
    · cases h
section
variable {X : Cx} {W : WX} {s : Sx} {T : Tab} {pos : Pos}
/-- raise C(e, ..): C an error class with fields -/
theorem ps_raiseX (cx : CtxOk s T X) (tk : Takes X W) (n : Nat) (hn : (n == 6 || n == 13) = true) {x : Str} {e : Expr} {es : List Expr} {ta : TA} {q p : Pos} (hx : nameN n = x) (he : T.er n = true) (hg : s.sc.names.lookup x = some .globalImplicit) (hk : 2 ≤ T.k) (ha : PA X (e :: es) ta) (hdb : (x == ("__debug__" : Str)) = false)
    (hs : starEach (e :: es) X.env = (false, eval e X.env) :: starEach es X.env) (hpl : (backTo p (starEach es X.env)).any (·.1) = false) :
    L2.PS X (.Raise (some (.Call (.Name x q) (e :: es) [] p)) none pos) (fun _ σ H => tMkO (clK X.K n) (spX X.K n) [] ta σ H fun cls d H' => W cls d σ H') := by
  have ec := cx.fac.er n he
  have xc := cx.fac.xr n he hn
  obtain ⟨f, fd, ps, h1, h2, h3, h4⟩ := xc.ini
  have gl : Gl X x := by show X.env.scope.names.lookup x = _; rw [cx.sc]; exact hg
  exact ps_raise cx.calm tk (pmk_oex xc.ox h1 h2 h4 (cx.room.mono hk) h3 .nil (fun pins σ H s e s' I c => tk e s' (XE.of_call I (fun _ _ _ h => h.elim) c)) gl (hx ▸ ec.glo) ha hdb hs hpl)
def sRaiseX (n : Nat) (da : DnL) : SDn := fun p => onR (da p) fun xs p1 => match (reps xs).bind (xcode n) with
  | some c => .exc c p1
  | none => .bad
theorem vs_raiseX (n : Nat) {x : Str} {e : Expr} {es : List Expr} {da : DnL} {q p : Pos} (hx : nameN n = x) (hn : (n == 6 || n == 13) = true) (he : T.er n = true) (hg : s.sc.names.lookup x = some .globalImplicit) (hk : 2 ≤ T.k) (ha : VL s T (e :: es) da) (hdb : (x == ("__debug__" : Str)) = false := by decide)
    (hs : ∀ env, starEach (e :: es) env = (false, eval e env) :: starEach es env := by intro _; rfl) (hpl : ∀ env, (backTo p (starEach es env)).any (·.1) = false := by intro _; rfl) :
    VS s T (.Raise (some (.Call (.Name x q) (e :: es) [] p)) none pos) (sRaiseX n da) := fun X W c tk => by
  refine PSt.of (ps_raiseX c.1 tk n hn hx he hg hk (ha X W c.1 tk) hdb (hs _) (hpl _)) fun D σ H h => ?_
  obtain ⟨G, p, o, h⟩ := h
  refine tsl_bind o h fun v p1 us H1 s1 r1 h => ?_
  cases hr : reps v with
  | none => rw [hr] at h; exact h.elim
  | some ds =>
    rw [hr, Option.bind_some] at h
    cases hc : xcode n ds with
    | none => rw [hc] at h; exact h.elim
    | some cc =>
      rw [hc] at h
      have rr := reps_ok r1 hr
      obtain ⟨k1, k2, k3, k4⟩ := xcode_ok hn hc rr
      refine mko_fin (Q := fun cls d H' => W cls d σ H') k3 fun d hd => ?_
      rw [k4]
      have h := h σ (upd H1 d (.xd (xfs cc))) (StpE.grow s1.ok (same_upd hd)).1
      unfold FlyX at h
      rw [if_neg (by omega)] at h
      have h := h d hd upd_same
      rw [clK_bc X.K cc, k2] at h
      exact h
/-! ### e.f, e an error that is held -/
def tXv (K : PySem.W.Frag) (f : Str) (te : TE) : TE := fun σ H Q => te σ H fun x H1 => ∃ (a C dd : Addr) (fs : List (Str × V)) (v : V), x = .ref a ∧ XfC K C ∧ PySem.W.findIn K (.ref C) f = some none ∧ H1 a = some (ErD C a (some dd)) ∧ H1 dd = some (.xd fs) ∧ fs.lookup f = some v ∧ Q v H1
theorem pe_xv {e : Expr} {te : TE} {n : Str} (he : PE X e te) (hb : attributeBase e n X.env (eval e X.env) = eval e X.env) : PE X (.Attribute e n pos) (tXv X.K n te) := by
  refine ⟨fun pins s σ H Q I h => ?_⟩
  refine attr_of hb (thn (he.run pins s σ H _ I h) fun u s1 hh => ?_)
  obtain ⟨x, H1, I1, rx, a, C, dd, fs, v, ex, T, hno, ea, ed, l, q⟩ := hh
  subst ex
  obtain rfl : u = Value.ref a := rx
  obtain ⟨⟨oe, vs, ho, hz, hd⟩, _, _⟩ := I1.hok a _ ea
  have hx : ObjOk X.prog X.w H1 s1.heap dd (.xd fs) := I1.hok dd _ ed
  obtain ⟨mA, hns, hr⟩ := hx
  obtain ⟨od, ho2, hl⟩ := lookIn_ns hns
  obtain ⟨u, hu, ru⟩ := RelO.some_of (v := v) (o := mA n) (by rw [← l]; exact hr n)
  have J : PySem.W.InstAt s1.heap a oe C (some od) := ⟨ho, hz.1, by unfold PySem.W.notCls; rw [hd] <;> rfl, by rw [hz.2]; exact ho2⟩
  exact HandSPX.exc_get I1.kIn J T.ga T.gg T.exC (PySem.W.findObj_own T.hdC hno rfl (by rw [hl, hu])) (handed_of ru) ⟨v, H1, I1.tok _, ru, q⟩
def xfl (c : Nat) (f : Str) : Option D := if c % 2 = 0 then (if f = ("at" : Str) then some (.int ((c - 100) / 2)) else none) else (if f = ("line" : Str) then some (.int (((c - 100) / 2) / 6)) else if f = ("reason" : Str) then some (.str (rsn (((c - 100) / 2) % 6))) else none)
theorem xfl_ok {K : PySem.W.Frag} {M : Addr → Prop} {H : Hp} {c : Nat} {f : Str} {d : D} (hc : 100 ≤ c) (h : xfl c f = some d) : f ∈ xnm (bc c) ∧ ∃ v, (xfs c).lookup f = some v ∧ Rep K M H v d := by
  unfold xfl at h
  unfold xfs bc
  rw [if_neg (show ¬ c < 100 by omega)]
  by_cases h2 : c % 2 = 0
  · rw [if_pos h2] at h ⊢
    rw [if_pos h2]
    split at h
    · rename_i e
      subst e
      cases h
      exact ⟨by decide, _, rfl, .int⟩
    · cases h
  · rw [if_neg h2] at h ⊢
    rw [if_neg h2]
    split at h
    · rename_i e
      subst e
      cases h
      exact ⟨by decide, _, rfl, .int⟩
    · split at h
      · rename_i e
        subst e
        cases h
        exact ⟨by decide, _, rfl, .str⟩
      · cases h
def opXf (er : Nat → Bool) (f : Str) : D → Option Rv
  | .err c => if 100 ≤ c ∧ er (bc c) = true then (xfl c f).map .sh else none
  | _ => none
theorem v_xfld (er : Nat → Bool) {f : Str} {e : Expr} {da : Dn} (her : T.er = er) (ha : VE s T e da) (hb : ∀ env : Env, attributeBase e f env (eval e env) = eval e env) : VE s T (.Attribute e f pos) (d1 (opXf er f) da) := fun X W cx tk => by
  subst her
  refine PE.of (pe_xv (ha X W cx tk) (hb _)) fun σ H Q h => ?_
  obtain ⟨G, p, o, h⟩ := h
  refine te_bind o h fun v p1 u H1 s1 r1 h => ?_
  unfold fin1 at h
  cases e1 : opd v p1 with
  | none => rw [e1] at h; exact h.elim
  | some a =>
    rw [e1] at h
    cases a with
    | err k =>
      have h : Post X.K (clK X.K) W G σ H1 p1 Q (give (if 100 ≤ k ∧ T.er (bc k) = true then (xfl k f).map .sh else none) p1) := h
      by_cases hk : 100 ≤ k ∧ T.er (bc k) = true
      · rw [if_pos hk] at h
        cases hx : xfl k f with
        | none => rw [hx] at h; exact h.elim
        | some d =>
          rw [hx] at h
          obtain ⟨hm, v', l, rv⟩ := xfl_ok (K := X.K) (M := Mu G σ p1.env) (H := H1) hk.1 hx
          have ec := (cx.fac.er (bc k) hk.2).ec
          have hbk : (bc k == 6 || bc k == 13) = true := by
            unfold bc
            rw [if_neg (show ¬ k < 100 by omega)]
            split <;> rfl
          have xc := cx.fac.xr (bc k) hk.2 hbk
          have r := r1.rdb s1.ok e1
          rcases r with r | ⟨a, rfl, r⟩
          · cases r with
            | err hlt _ _ => omega
            | erf _ ha hd _ _ =>
              refine ⟨_, _, _, _, v', rfl, ⟨(clK_bc X.K k).symm ▸ ec.hg, (clK_bc X.K k).symm ▸ ec.hk, (clK_bc X.K k).symm ▸ ec.hs, (clK_bc X.K k).symm ▸ ec.hd⟩, (clK_bc X.K k).symm ▸ xc.noat f hm, ha, hd, l, ?_⟩
              exact h _ H1 (.refl s1.ok) rv
          · exact r.elim
      · rw [if_neg hk] at h; exact h.elim
    | _ => exact h.elim
end
end Py
set_option maxRecDepth 100000
set_option maxHeartbeats 2000000
namespace Py
open PySem PySem.Spec PyProof.Rows L2
/-! ### x, y, z = a, b, c: what is shared -/
def sPar3 (i j l : Nat) (da : DnL) : SDn := fun p => onR (da p) fun xs p1 => match reps xs with
  | some [a, b, c] => (asgn i (.sh a) p1).bind fun p2 => (asgn j (.sh b) p2).bind fun p3 => asgn l (.sh c) p3
  | _ => .bad
theorem asgn_sh (i : Nat) (d : D) (p : PS) : asgn i (.sh d) p = .bad ∨ ∃ p', asgn i (.sh d) p = .nx p' := by
  unfold asgn
  cases e : setSl i (.sh d) p.env with
  | none => exact .inl (by simp only [e])
  | some e' => exact .inr ⟨⟨e', p.src⟩, by simp only [e]⟩
section
variable {s : Sx} {T : Tab} {pos : Pos}
theorem vs_par3 (i j l : Nat) {x y z : Str} {a b c : Expr} {da : DnL} {px py pz pt pt2 : Pos} {kt k2 : Nat} (hi : s.N[i]? = some x) (hj : s.N[j]? = some y) (hl : s.N[l]? = some z) (hij : i ≠ j) (hil : i ≠ l) (hjl : j ≠ l) (hx : s.sc.names.lookup x = some .local) (hy : s.sc.names.lookup y = some .local) (hz : s.sc.names.lookup z = some .local) (ha : VL s T [a, b, c] da)
    (hw : ∀ env : Env, env.scope = s.sc → swappedStores [.Tuple [.Name x px, .Name y py, .Name z pz] kt pt] (.Tuple [a, b, c] k2 pt2) env = pure (some [x, y, z]))
    (hs : ∀ env, swapsWithSole [.Tuple [.Name x px, .Name y py, .Name z pz] kt pt] (.Tuple [a, b, c] k2 pt2) pos.line env = pure false := by intro _; rfl) :
    VS s T (.Assign [.Tuple [.Name x px, .Name y py, .Name z pz] kt pt] (.Tuple [a, b, c] k2 pt2) pos) (sPar3 i j l da) := fun X W cx tk => by
  refine PSt.of (ps_par3 (i := i) (j := j) (l := l) cx.1.calm (by rw [cx.1.N]; exact cx.1.nd) (by rw [cx.1.N]; exact hi) (by rw [cx.1.N]; exact hj) (by rw [cx.1.N]; exact hl) hij hil hjl (by rw [cx.1.sc]; exact hx) (by rw [cx.1.sc]; exact hy) (by rw [cx.1.sc]; exact hz) (ha X W cx.1 tk) (hw _ cx.1.sc) (hs _)) fun D σ H h => ?_
  obtain ⟨G, p, o, h⟩ := h
  refine tsl_bind o h fun v p1 us H1 s1 r1 h => ?_
  cases hr : reps v with
  | none => rw [hr] at h; exact h.elim
  | some ds =>
    rw [hr] at h
    have rr := reps_ok r1 hr
    match ds, rr with
    | [], _ => exact h.elim
    | [_], _ => exact h.elim
    | [_, _], _ => exact h.elim
    | _ :: _ :: _ :: _ :: _, _ => exact h.elim
    | [da, db, dc], rr =>
      obtain ⟨ua, us2, rfl, ra, t⟩ : ∃ ua us2, us = ua :: us2 ∧ Rep X.K (Mu G σ p1.env) H1 ua da ∧ RepL X.K (Mu G σ p1.env) H1 us2 [db, dc] := by
        cases rr with
        | cons r t => exact ⟨_, _, rfl, r, t⟩
      obtain ⟨ub, uc, rfl, rb, rc⟩ := repL_two t
      refine ⟨ua, ub, uc, rfl, ?_⟩
      have h : PostS X.K (clK X.K) W G σ H1 p1 D ((asgn i (.sh da) p1).bind fun p2 => (asgn j (.sh db) p2).bind fun p3 => asgn l (.sh dc) p3) := h
      rcases asgn_sh i da p1 with e1 | ⟨p2, e1⟩
      · rw [e1] at h; exact h.elim
      rw [e1] at h
      simp only [Out.bind_nx] at h
      have t1 := asgn_st s1.ok ra e1
      have rb2 := t1.rep rb
      have rc2 := t1.rep rc
      rcases asgn_sh j db p2 with e2 | ⟨p3, e2⟩
      · rw [e2] at h; exact h.elim
      rw [e2] at h
      simp only [Out.bind_nx] at h
      have t2 := asgn_st t1.ok rb2 e2
      have rc3 := t2.rep rc2
      rcases asgn_sh l dc p3 with e3 | ⟨p4, e3⟩
      · rw [e3] at h; exact h.elim
      rw [e3] at h
      exact h _ _ (t1.trans (t2.trans (asgn_st t2.ok rc3 e3)))
end
end Py
set_option maxRecDepth 100000
set_option maxHeartbeats 2000000
namespace Py
open PySem PySem.Spec PyProof.Rows L2
/-! ### C(..), an error as a value -/
theorem erO_ok {P : Program} {w : World} {H : Hp} {h : Heap} {a C : Addr} {d : Option Addr} {oe : Obj} {vs : Array Value} (e : h.get? a = some oe) (z : Zc (.ref C) d oe) (hd : oe.data = .fields vs) : ObjOk P w H h a (ErD C a d) :=
  ⟨⟨oe, vs, e, z, hd⟩, ⟨oe, e⟩, fun _ _ ⟨o, v, q, r⟩ k => ⟨o, v, k o q, r⟩⟩
section
variable {X : Cx} {C : Addr} {bmB : List Value} {B newId initId : String}
theorem pe_mk0 {x : Str} {p pos : Pos} (F : ExcBaseFacts B newId initId bmB) (q : PySem.W.excIn X.K C bmB newId = true) (gC : X.mg x = some (.ref C)) (kC : PySem.W.keepIn X.K (.ref C) = true) (hg : Gl X x)
    (hdb : (x == ("__debug__" : Str)) = false) : PE X (.Call (.Name x p) [] [] pos) (fun _ H Q => ∀ a, H a = none → Q (.ref a) (upd H a (ErD C a none))) := by
  refine ⟨fun pins s σ H Q I h => ?_⟩
  refine wpAny_Call_Name_kw (ld_glob I hg gC ?_ hdb)
  refine PySem.W.callWith_K0 I.kIn kC ?_
  show wpAny _ _ (call (.ref C) []) _ _ _
  obtain ⟨bm, N, nm, qn, bs, hdct, sn, sub, ab, col, dd, k0, k1, k2, k3, k5, mN, hC, hN, hni, T⟩ := exc_obj I.kIn q
  refine wpAny_call_exc_subT F T hC hN hni (fun h' a hm => ?_) (Nat.zero_le _)
  have hn : H a = none := I.hok.gone hm.new
  obtain ⟨t, ht, _, _⟩ := hm.there
  exact ⟨.ref a, upd H a (ErD C a none), I.laidN hm.keeps hm.new hn (erO_ok ht ⟨rfl, rfl⟩ rfl), rfl, h a hn⟩
theorem pe_mk1 {x : Str} {e : Expr} {te : TE} {p pos : Pos} (F : ExcBaseFacts B newId initId bmB) (q : PySem.W.excIn X.K C bmB newId = true) (gC : X.mg x = some (.ref C)) (kC : PySem.W.keepIn X.K (.ref C) = true) (hg : Gl X x)
    (he : PE X e te) (hs : starEach [e] X.env = (false, eval e X.env) :: starEach [] X.env) (hdb : (x == ("__debug__" : Str)) = false) :
    PE X (.Call (.Name x p) [e] [] pos) (fun σ H Q => te σ H fun _ H1 => ∀ a, H1 a = none → Q (.ref a) (upd H1 a (ErD C a none))) := by
  refine ⟨fun pins s σ H Q I h => ?_⟩
  refine wpAny_Call_Name_kw (ld_glob I hg gC ?_ hdb)
  refine PySem.W.callWith_K (h₀ := X.base) I.ok.mod.kin kC ?_ hs (by rfl)
  rw [hs]
  show wpAny _ _ (spliced ((false, eval e X.env) :: backTo pos (starEach [] X.env))) _ _ s
  refine Calls.spliced_cons (thn (he.run pins s σ H _ I h) fun u s1 ⟨v, H1, I1, r1, q1⟩ => ?_)
  refine Calls.spliced_nil ⟨I1.kIn, ?_⟩
  show wpAny _ _ (call (.ref C) [u]) _ _ _
  obtain ⟨bm, N, nm, qn, bs, hdct, sn, sub, ab, col, dd, k0, k1, k2, k3, k5, mN, hC, hN, hni, T⟩ := exc_obj I1.kIn q
  refine wpAny_call_exc_subT F T hC hN hni (fun h' a hm => ?_) (by show 1 ≤ sizeLine; rw [sizeLine_eq]; omega)
  have hn : H1 a = none := I1.hok.gone hm.new
  obtain ⟨t, ht, _, _⟩ := hm.there
  exact ⟨.ref a, upd H1 a (ErD C a none), I1.laidN hm.keeps hm.new hn (erO_ok ht ⟨rfl, rfl⟩ rfl), rfl, q1 a hn⟩
end
section
variable {X : Cx}
/-- the end of C(e, ..): the exception stands as an error, its dict as an error's dict -/
theorem mk_endT {pins : List (Addr × Obj)} {σ : L2.St} {H1 H2 : Hp} {hp hp2 h2 : Heap} {g1 g2 : Array GenState} {d1 d2 : Drawn} {t1 t2 : Nat} {os1 os2 : OsState} {a C d : Addr} {fs : List (Str × V)} (I1 : Inv X pins σ H1 ⟨hp, g1, d1, t1, os1⟩)
    (ha : hp.objs.size ≤ a) (k : ∀ b o, hp.get? b = some o → hp2.get? b = some o) (un : Un (frs X.stack) [] (upd H1 a (exo a C none)) H2 hp2 h2) (hok : HOk X.prog X.w H2 h2) (ho : os2 = os1) (hb : AllBare g2)
    (ea : H2 a = some (exo a C (some d))) (ed : H2 d = some (exd d fs)) (hd1 : H1 d = none) :
    d ≠ a ∧ Inv X pins σ (upd (upd H2 a (ErD C a (some d))) d (.xd fs)) ⟨h2, g2, d2, t2, os2⟩ := by
  obtain ⟨t0, hoe⟩ := exo_at hok ea
  obtain ⟨mA, hns, rel⟩ := exd_at hok ed
  have hn : H1 a = none := I1.hok.fresh ha
  have hda : d ≠ a := fun z => by
    obtain ⟨o, es, ep, e1, e2, _⟩ := hns
    rw [z, hoe] at e1
    have z2 := Option.some.inj e1
    subst z2
    cases e2
  have nha : ∀ {b : Addr} {o : Obj}, hp.get? b = some o → b ≠ a := fun {b o} z => Nat.ne_of_lt (Nat.lt_of_lt_of_le (Heap.lt_size z) ha)
  have up : ∀ {b : Addr}, b ≠ a → H1 b = none → upd H1 a (exo a C none) b = none := fun {b} hb n => by rw [upd_ne hb]; exact n
  have nd : ∀ {b : Addr} {o : Obj}, hp.get? b = some o → H1 b = none → b ≠ d := fun {b o} z n e => by
    have y := un.free b o (k b o z) (up (nha z) n) (by simp)
    rw [e, ed] at y
    cases y
  have U : Un (frs X.stack) [] H1 (upd (upd H2 a (ErD C a (some d))) d (.xd fs)) hp h2 := {
    keep := fun b o z n hf hx => un.keep b o (k b o z) (up (nha z) n) hf hx
    slot := fun b o z n hf hx => un.slot b o (k b o z) (up (nha z) n) hf hx
    free := fun b o z n hx => by
      rw [upd_ne (nd z n), upd_ne (nha z)]
      exact un.free b o (k b o z) (up (nha z) n) hx
    there := fun b o z hx => un.there b o (k b o z) hx
    tups := fun b xs z => by
      rw [upd_ne (ne_of_none z hd1), upd_ne (ne_of_none z hn)]
      exact un.tups b xs (by rw [upd_ne (ne_of_none z hn)]; exact z)
    frzs := fun b o v z => by
      rw [upd_ne (ne_of_none z hd1), upd_ne (ne_of_none z hn)]
      exact un.frzs b o v (by rw [upd_ne (ne_of_none z hn)]; exact z)
    tbls := fun b ps z => by
      rw [upd_ne (ne_of_none z hd1), upd_ne (ne_of_none z hn)]
      exact un.tbls b ps (by rw [upd_ne (ne_of_none z hn)]; exact z) }
  have hok3 : HOk X.prog X.w (upd (upd H2 a (ErD C a (some d))) d (.xd fs)) h2 := fun b o z => by
    by_cases hbd : b = d
    · subst hbd
      rw [upd_same] at z
      cases z
      exact ⟨mA, hns, rel⟩
    · rw [upd_ne hbd] at z
      by_cases hba : b = a
      · subst hba
        rw [upd_same] at z
        cases z
        exact erO_ok hoe ⟨rfl, rfl⟩ rfl
      · rw [upd_ne hba] at z
        have noa : ∀ {c : Addr}, H2 c = some (.own b) → c ≠ a := fun {c} hc => at_ne ea hc exo_own
        exact (hok b o z).stay (fun c v hc y => y) (fun c hc => by rw [upd_ne (at_ne ed hc exd_own), upd_ne (noa hc)]; exact hc) (fun c xs hc => by rw [upd_ne (at_ne ed hc exd_tup), upd_ne (at_ne ea hc exo_tup)]; exact hc)
  exact ⟨hda, I1.call' (ch := []) ho U hok3 hb (fun b z => absurd z (by simp))⟩
theorem pe_mkX {CX : CXT} {x : Str} {C fI : Addr} {k : Nat} {fd : FuncData} {ps : List Str} {sp : Sp} {e : Expr} {es : List Expr} {ta : TA} {p pos : Pos} (T : OexC X.K C) (iC : PySem.W.findIn X.K (.ref C) "__init__" = some (some (.ref fI))) (tI : PySem.W.typeIn X.K (.ref fI) = some (.type "function"))
    (F1 : FnOk X.prog X.w X.K X.mg X.base CX k fI fd ps sp) (hr : Room (k + 1) X.A) (hb : Binds X.K fd ps []) (hx : Passes CX X (fun _ _ _ => False)) (hg : Gl X x) (hm : X.mg x = some (.ref C)) (ha : PA X (e :: es) ta)
    (hdb : (x == ("__debug__" : Str)) = false) (he : starEach (e :: es) X.env = (false, eval e X.env) :: starEach es X.env) (hpl : (backTo pos (starEach es X.env)).any (·.1) = false) :
    PE X (.Call (.Name x p) (e :: es) [] pos) (fun σ H Q => ta σ H fun vs H1 => vs.length ≤ 1000 ∧ ∀ a, H1 a = none → sp (.ref a :: vs) (upd H1 a (exo a C none))
      (fun v H2 => v = .non ∧ ∃ (d : Addr) (fs : List (Str × V)), H2 a = some (exo a C (some d)) ∧ H2 d = some (exd d fs) ∧ H1 d = none ∧ (d ≠ a → Q (.ref a) (upd (upd H2 a (ErD C a (some d))) d (.xd fs)))) (fun _ _ _ => False)) := by
  refine ⟨fun pins s σ H Q I h => ?_⟩
  obtain ⟨nm, q, N, bs, bm, sn, sub, ab, col, dd, k0, k1, k2, k3, k5, hC, hbm⟩ := T.cls
  refine wpAny_Call_Name_kw (ld_glob I hg hm ?_ hdb)
  refine PySem.W.callWith_K (h₀ := X.base) I.ok.mod.kin T.kC (thn (ha.run pos pins s σ H _ I h) fun us s1 ⟨vs, H1, I1, r1, hz, q1⟩ => ⟨I1.kIn, ?_⟩) he hpl
  show wpAny _ _ (call (.ref C) us) _ _ _
  obtain ⟨hp, g, dr, tk, os⟩ := s1
  have hsz : hp.objs.size ≤ hp.objs.size + 1 := Nat.le_succ _
  have hn : H1 (hp.objs.size + 1) = none := I1.hok.fresh hsz
  have hq := q1 (hp.objs.size + 1) hn
  have kk : ∀ b o, hp.get? b = some o → ((hp.push (PySem.W.kdv_tup us)).push (PySem.HandSPX.excO C hp.objs.size)).get? b = some o := fun b o e => Heap.get?_push_of_some _ (Heap.get?_push_of_some _ e)
  have hget : ((hp.push (PySem.W.kdv_tup us)).push (PySem.HandSPX.excO C hp.objs.size)).get? (hp.objs.size + 1) = some (PySem.HandSPX.excO C hp.objs.size) := by heap_get
  have I2 : Inv X pins σ (upd H1 (hp.objs.size + 1) (exo (hp.objs.size + 1) C none)) ⟨(hp.push (PySem.W.kdv_tup us)).push (PySem.HandSPX.excO C hp.objs.size), g, dr, tk, os⟩ :=
    I1.laid (t' := tk) (a := hp.objs.size + 1) (o := exo (hp.objs.size + 1) C none) (h' := (hp.push (PySem.W.kdv_tup us)).push (PySem.HandSPX.excO C hp.objs.size)) kk hsz (exo_ok hget)
  have r2 : Vals (V.ref (hp.objs.size + 1) :: vs) (Value.ref (hp.objs.size + 1) :: us) := .cons rfl r1
  have hl : (Value.ref (hp.objs.size + 1) :: us ++ []).length = ps.length := by
    have e := r2.length
    rw [F1.len _ _ _ _ hq] at e
    rw [List.append_nil]
    exact e.symm
  have hus : us.length ≤ sizeLine := by
    rw [← Paired.length r1, sizeLine_eq]
    omega
  have hrun := F1.run _ X.stack _ _ ⟨Value.ref (hp.objs.size + 1) :: us, []⟩ (Value.ref (hp.objs.size + 1) :: us) _ _ (fun _ _ _ => False) (hr.make C us []) (I2.env0.make C us []) (by have := hb _ (Value.ref (hp.objs.size + 1) :: us) I2.kIn hl; rwa [List.append_nil] at this) r2 hq
  refine wpAny_call (PySem.HandSPX.call_own F.excBase_ValueError (fun Y => PySem.HandSPX.refsVE_contains Y bm hbm) (I1.kIn _ _ hC) (PySem.W.looks_findIn I1.kIn iC) (fun self => PySem.W.bind_fn I1.kIn self tI) hus
    (codeAny_mono hrun fun r s' hq' => ?_))
  cases r with
  | error er => exact hx pins σ _ _ er s' I2 hq'
  | ok fl =>
    cases fl with
    | ret u =>
      obtain ⟨v, H2, os2, bare2, un2, hok2, rv, ev, d, fs, ea, ed, hd1, q2⟩ := hq'
      subst ev
      obtain ⟨h2, g2, d2, t2, os'⟩ := s'
      obtain ⟨hda, J⟩ := mk_endT (d2 := d2) (t2 := t2) I1 hsz kk un2 hok2 os2 bare2 ea ed hd1
      exact ⟨rv, .ref (hp.objs.size + 1), _, J, rfl, q2 hda⟩
    | next => exact False.elim hq'
    | brk => exact False.elim hq'
    | cont => exact False.elim hq'
end
/-! ### the rules -/
section
variable {s : Sx} {T : Tab} {pos : Pos}
def dMk0 (n : Nat) : Dn := fun p => .ok (.sh (.err n)) p
def dMk1 (n : Nat) (da : Dn) : Dn := fun p => (da p).bind fun _ p1 => .ok (.sh (.err n)) p1
def dMkX (n : Nat) (da : DnL) : Dn := fun p => (da p).bind fun xs p1 => match (reps xs).bind (xcode n) with
  | some c => .ok (.sh (.err c)) p1
  | none => .bad
theorem er_fin {K : PySem.W.Frag} {G : Gh} {σ : L2.St} {H H1 : Hp} {p p1 : PS} {Q : VK} {W : WX} {n : Nat} (s1 : StpE K G σ p H p1 H1) (hlt : n < 100) (h : Post K (clK K) W G σ H1 p1 Q (.ok (.sh (.err n)) p1)) {a : Addr} (ha : H1 a = none) : Q (.ref a) (upd H1 a (ErD (clK K n) a none)) :=
  h _ _ (.grow s1.1.ok (same_upd ha)) (.err hlt upd_same fun z => s1.1.ok.dom z ha)
theorem v_mk0 (n : Nat) {x : Str} {q : Pos} (hx : nameN n = x) (he : T.er n = true) (hg : s.sc.names.lookup x = some .globalImplicit) (hdb : (x == ("__debug__" : Str)) = false := by decide) (hlt : n < 100 := by decide) (hno : (n == 6 || n == 13) = false := by decide) : VE s T (.Call (.Name x q) [] [] pos) (dMk0 n) := fun X W c tk => by
  have e := c.fac.er n he
  have gl : Gl X x := by show X.env.scope.names.lookup x = _; rw [c.sc]; exact hg
  refine PE.of (pe_mk0 PySem.F.excBase_ValueError (e.ei hno) (hx ▸ e.glo) e.kp gl hdb) fun σ H Q h a ha => ?_
  obtain ⟨G, p, o, h⟩ := h
  exact er_fin (.refl o) hlt h ha
theorem v_mk1 (n : Nat) {x : Str} {e : Expr} {da : Dn} {q : Pos} (hx : nameN n = x) (he : T.er n = true) (hg : s.sc.names.lookup x = some .globalImplicit) (ha : VE s T e da) (hdb : (x == ("__debug__" : Str)) = false := by decide) (hlt : n < 100 := by decide) (hno : (n == 6 || n == 13) = false := by decide)
    (hs : ∀ env, starEach [e] env = (false, eval e env) :: starEach [] env := by intro _; rfl) : VE s T (.Call (.Name x q) [e] [] pos) (dMk1 n da) := fun X W c tk => by
  have er := c.fac.er n he
  have gl : Gl X x := by show X.env.scope.names.lookup x = _; rw [c.sc]; exact hg
  refine PE.of (pe_mk1 PySem.F.excBase_ValueError (er.ei hno) (hx ▸ er.glo) er.kp gl (ha X W c tk) (hs _) hdb) fun σ H Q h => ?_
  obtain ⟨G, p, o, h⟩ := h
  exact te_bind o h fun v p1 u H1 s1 r1 h a hn => er_fin s1 hlt h hn
theorem v_mkX (n : Nat) {x : Str} {e : Expr} {es : List Expr} {da : DnL} {q : Pos} (hx : nameN n = x) (hn : (n == 6 || n == 13) = true) (he : T.er n = true) (hg : s.sc.names.lookup x = some .globalImplicit) (hk : 2 ≤ T.k) (ha : VL s T (e :: es) da) (hdb : (x == ("__debug__" : Str)) = false := by decide)
    (hs : ∀ env, starEach (e :: es) env = (false, eval e env) :: starEach es env := by intro _; rfl) (hpl : ∀ env, (backTo pos (starEach es env)).any (·.1) = false := by intro _; rfl) : VE s T (.Call (.Name x q) (e :: es) [] pos) (dMkX n da) := fun X W c tk => by
  have ec := c.fac.er n he
  have xc := c.fac.xr n he hn
  obtain ⟨f, fd, ps, h1, h2, h3, h4⟩ := xc.ini
  have gl : Gl X x := by show X.env.scope.names.lookup x = _; rw [c.sc]; exact hg
  refine PE.of (pe_mkX xc.ox h1 h2 h4 (c.room.mono hk) h3 (fun pins σ H s e s' I c => tk e s' (XE.of_call I (fun _ _ _ h => h.elim) c)) gl (hx ▸ ec.glo) (ha X W c tk) hdb (hs _) (hpl _)) fun σ H Q h => ?_
  obtain ⟨G, p, o, h⟩ := h
  refine tl_bind o h fun v p1 us H1 s1 r1 h => ?_
  cases hr : reps v with
  | none => rw [hr] at h; exact h.elim
  | some ds =>
    rw [hr, Option.bind_some] at h
    cases hc : xcode n ds with
    | none => rw [hc] at h; exact h.elim
    | some cc =>
      rw [hc] at h
      have rr := reps_ok r1 hr
      obtain ⟨k1, k2, k3, k4⟩ := xcode_ok hn hc rr
      refine ⟨by rw [k3]; unfold xnm; split <;> decide, fun a ha => ⟨a, us, rfl, k3, upd_same, fun d H' hd hne h3 h4 h5 => ⟨rfl, d, _, h4, h5, by rw [upd_ne hne] at hd; exact hd, fun _ => ?_⟩⟩⟩
      rw [upd_ne hne] at hd
      rw [k4]
      have e : upd (upd H' a (ErD (clK X.K n) a (some d))) d (.xd (xfs cc)) = upd (upd H1 a (ErD (clK X.K n) a (some d))) d (.xd (xfs cc)) := by
        funext b
        by_cases hb : b = d
        · rw [hb, upd_same, upd_same]
        · rw [upd_ne hb, upd_ne hb]
          by_cases hba : b = a
          · rw [hba, upd_same, upd_same]
          · rw [upd_ne hba, upd_ne hba, h3 b hba hb, upd_ne hba]
      rw [e]
      have hd2 : upd H1 a (ErD (clK X.K n) a (some d)) d = none := by rw [upd_ne hne]; exact hd
      have sm : Same H1 (upd (upd H1 a (ErD (clK X.K n) a (some d))) d (.xd (xfs cc))) := fun b x e => same_upd hd2 b x (same_upd ha b x e)
      have ek : clK X.K n = clK X.K cc := by rw [clK_bc X.K cc, k2]
      exact h _ _ (.grow s1.1.ok sm) (.erf k1 (by rw [upd_ne hne.symm, upd_same, ek]) upd_same (fun z => s1.1.ok.dom z ha) (fun z => s1.1.ok.dom z hd))
end
end Py
set_option maxRecDepth 100000
namespace Py
open PySem PySem.Spec PyProof.Rows L2
/-! ### d[k], d a dict; and lists, tuples, texts -/
def rIxDk : R2 := fun x y H Q => ∃ a v, x = .ref a ∧ DGet H a y (some v) ∧ Q v H
theorem ix_dct {X : Cx} (hu : X.A.units + 1 < cLine) : IxR X rIxDk := by
  intro value slice pins s σ H x y v u Q I rx ry h hs
  obtain ⟨a, w, rfl, g, q⟩ := h
  cases rx
  exact tail_any (dict_typeIs I g) PySem.F.slot_dict_getitem.lookup (d_getItem hu I g ry fun w' s3 I3 rw' => ⟨w, H, I3, rw', q⟩) hs
def opIxA (d k : D) : Option Rv := match d with
  | .dic kvs => (keyD k).bind fun key => (lookK kvs key).map .sh
  | d => opIx d k
def rIxA (K : PySem.W.Frag) : R2 := fun x y H Q => rIx K x y H Q ∨ rIxDk x y H Q
theorem ix_all {X : Cx} (hu : X.A.units + 1 < cLine) : IxR X (rIxA X.K) := ix_seq.or (ix_dct hu)
theorem look_repV {K : PySem.W.Frag} {M : Addr → Prop} {H : Hp} {k : Key} {kvs : List (Key × V)} {ds : List (D × D)} {d : D} (r : RepK K M H kvs ds) (h : lookK ds k = some d) : ∃ v, valV kvs k = some v ∧ Rep K M H v d := by
  obtain ⟨l1, l2⟩ := look_rep (k := k) r
  cases e : valV kvs k with
  | none => rw [l2 e] at h; cases h
  | some v =>
    obtain ⟨d', h1, h2⟩ := l1 v e
    rw [h] at h1; cases h1
    exact ⟨v, rfl, h2⟩
theorem op2_ixA {K : PySem.W.Frag} : Op2 K opIxA (rIxA K) := by
  intro M H x y a b v Q dom ra rb h
  cases a with
  | dic kvs =>
    have h : ((keyD b).bind fun key => (lookK kvs key).map Rv.sh) = some v := h
    cases ek : keyD b with
    | none => rw [ek] at h; cases h
    | some key =>
      rw [ek, Option.bind_some] at h
      cases el : lookK kvs key with
      | none => rw [el] at h; cases h
      | some d =>
        rw [el] at h; cases h
        obtain ⟨p, xs, rfl, h1, h2⟩ := ra.dic_
        obtain ⟨u, hu, ru⟩ := look_repV h2 el
        have ey := key_of rb ek
        subst ey
        refine ⟨rfl, fun q => .inr ⟨p, u, rfl, ?_, res_same ru q⟩⟩
        rw [← hu]
        exact DGet.k h1
  | _ =>
    obtain ⟨h1, h2⟩ := op2_ix M H x y _ b v Q dom ra rb h
    exact ⟨h1, fun q => .inl (h2 q)⟩
end Py

set_option maxRecDepth 100000
set_option maxHeartbeats 2000000
namespace Py
open PySem PySem.Spec PyProof.Rows L2

/-! ### a reader: an object with two lists of its own -/
def strD (ws : List (List Nat)) : List D := ws.map .str
def strV (ws : List (List Nat)) : List V := ws.map fun w => .str (S w)
def fixD (f : List (List Nat)) : D := .tup (strD f)
theorem repL_strD {K : PySem.W.Frag} {M : Addr → Prop} {H : Hp} : ∀ ws : List (List Nat), RepL K M H (strV ws) (strD ws)
  | [] => .nil
  | _ :: ws => .cons .str (repL_strD ws)
theorem repL_strD_inv {K : PySem.W.Frag} {M : Addr → Prop} {H : Hp} : ∀ {ws : List (List Nat)} {xs : List V}, RepL K M H xs (strD ws) → xs = strV ws
  | [], _, .nil => rfl
  | _ :: _, _, .cons r t => by
    rw [repL_strD_inv t]
    cases r
    rfl
structure RdrAt (K : PySem.W.Frag) (M : Addr → Prop) (H : Hp) (r a b : Addr) (fx : List (List (List Nat))) (tx : List (List Nat)) : Prop where
  ob : ∃ dx n, H r = some (.ins (clA K 2) dx [("fixes", .ref a), ("texts", .ref b), ("line", .int n)])
  ft : ∃ xs, H a = some (.lst xs) ∧ RepL K M H xs (fx.map fixD)
  tt : H b = some (.lst (strV tx))
  mr : M r
  ma : M a
  mb : M b
  ab : a ≠ b
  fl : fx.length ≤ 5
  tl : tx.length ≤ 1
section
variable {K : PySem.W.Frag} {M M' : Addr → Prop} {H H' : Hp} {r a b : Addr} {fx : List (List (List Nat))} {tx : List (List Nat)}
theorem RdrAt.ra (x : RdrAt K M H r a b fx tx) : r ≠ a ∧ r ≠ b := by
  obtain ⟨dx, n, h1⟩ := x.ob
  obtain ⟨xs, h2, _⟩ := x.ft
  have h3 := x.tt
  refine ⟨fun e => ?_, fun e => ?_⟩
  · rw [e, h2] at h1; cases h1
  · rw [e, h3] at h1; cases h1
theorem RdrAt.mono (x : RdrAt K M H r a b fx tx) (hH : ∀ c o, H c = some o → ¬ M c → H' c = some o) (hr : H' r = H r) (ha : H' a = H a) (hb : H' b = H b) (hM : ∀ c, M' c → M c ∨ H c = none) (mr : M' r) (ma : M' a) (mb : M' b) : RdrAt K M' H' r a b fx tx := by
  obtain ⟨dx, n, h1⟩ := x.ob
  obtain ⟨xs, h2, h3⟩ := x.ft
  exact ⟨⟨dx, n, by rw [hr]; exact h1⟩, ⟨xs, by rw [ha]; exact h2, RepL.mono K hH hM h3⟩, by rw [hb]; exact x.tt, mr, ma, mb, x.ab, x.fl, x.tl⟩
/-- a step of the method: what is handed in is told by stp -/
def spStep (K : PySem.W.Frag) (stp : List (List Nat) → List (List (List Nat)) → List (List Nat) → Option (List (List (List Nat)) × List (List Nat))) : Sp := fun vs H Q E =>
  ∃ (M : Addr → Prop) (r a b w : Addr) (ws : List (List Nat)) (fx : List (List (List Nat))) (tx : List (List Nat)) (fx' : List (List (List Nat))) (tx' : List (List Nat)), vs = [.ref r, .ref w] ∧ RdrAt K M H r a b fx tx ∧ M w ∧ w ≠ a ∧ w ≠ b ∧ H w = some (.lst (strV ws)) ∧ (∀ c, M c → H c ≠ none) ∧
    stp ws fx tx = some (fx', tx') ∧ ∀ H', (∀ c o, H c = some o → c ≠ a → c ≠ b → H' c = some o) → (∀ c, H' c = none → H c = none) → RdrAt K M H' r a b fx' tx' → Q .non H'
/-- the frame of such a method -/
def mG (M : Addr → Prop) (r w : Addr) : Gh := ⟨fun c => M c ∧ c ≠ r ∧ c ≠ w, none⟩
def mP (ws : List (List Nat)) (n : Nat) : PS := ⟨.own false true .bx :: .own true false (.lst (strD ws)) :: List.replicate n .no, ([], 0)⟩
theorem entry_two {N : List Str} {n : Nat} {w : Addr} {ws : List (List Nat)} (hN : N.length = n + 2) (x : RdrAt K M H r a b fx tx) (hw : M w) (hv : H w = some (.lst (strV ws))) (dom : ∀ c, M c → H c ≠ none) :
    Ok K (mG M r w) (L2.start N [.ref r, .ref w]) H (mP ws n) ∧ Mu (mG M r w) (L2.start N [.ref r, .ref w]) (mP ws n).env = M := by
  have hst : L2.start N [.ref r, .ref w] = some (.ref r) :: some (.ref w) :: List.replicate n none := by
    unfold L2.start
    rw [show N.length - [V.ref r, V.ref w].length = n by simp; omega]
    rfl
  rw [hst]
  have hrw : r ≠ w := by
    obtain ⟨dx, n, h1⟩ := x.ob
    intro e
    rw [e, hv] at h1; cases h1
  have own : ∀ (i : Nat) (l z : Bool) (d : D), (mP ws n).env[i]? = some (.own l z d) → (i = 0 ∧ l = false ∧ z = true ∧ d = .bx) ∨ (i = 1 ∧ l = true ∧ z = false ∧ d = .lst (strD ws)) := fun i l z d h => by
    match i, h with
    | 0, h => cases h; exact .inl ⟨rfl, rfl, rfl, rfl⟩
    | 1, h => cases h; exact .inr ⟨rfl, rfl, rfl, rfl⟩
    | i + 2, h =>
      have h : (List.replicate n Sl.no)[i]? = some (.own l z d) := h
      rw [List.getElem?_replicate] at h
      split at h <;> cases h
  have nsh : ∀ (i : Nat) (x : Sl), (mP ws n).env[i]? = some x → (∀ l z d, x ≠ .own l z d) → x = .no := fun i x h nx => by
    match i, h with
    | 0, h => cases h; exact absurd rfl (nx _ _ _)
    | 1, h => cases h; exact absurd rfl (nx _ _ _)
    | i + 2, h =>
      have h : (List.replicate n Sl.no)[i]? = some x := h
      rw [List.getElem?_replicate] at h
      split at h <;> cases h; rfl
  have mu : Mu (mG M r w) (some (.ref r) :: some (.ref w) :: List.replicate n none) (mP ws n).env = M := by
    funext c
    apply propext
    constructor
    · rintro (z | ⟨q, e, _⟩ | ⟨i, l, z, d, h1, h2⟩)
      · exact z.1
      · cases e
      · rcases own i l z d h1 with ⟨rfl, _⟩ | ⟨rfl, _⟩
        · cases h2; exact x.mr
        · cases h2; exact hw
    · intro z
      by_cases e1 : c = r
      · exact .inr (.inr ⟨0, false, true, .bx, rfl, by rw [e1]; rfl⟩)
      · by_cases e2 : c = w
        · exact .inr (.inr ⟨1, true, false, _, rfl, by rw [e2]; rfl⟩)
        · exact .inl ⟨z, e1, e2⟩
  refine ⟨⟨?_, fun i d h => ?_, fun i l z d h => ?_, fun i j l z d l' z' d' c h1 h2 h3 h4 => ?_, fun i h => ?_, fun c z => dom c z.1, fun q e => by cases e⟩, mu⟩
  · simp [mP]
  · have := nsh i _ h (fun _ _ _ e => by cases e); cases this
  · rw [mu]
    rcases own i l z d h with ⟨rfl, rfl, rfl, rfl⟩ | ⟨rfl, rfl, rfl, rfl⟩
    · obtain ⟨dx, m, h1⟩ := x.ob
      exact ⟨r, rfl, ⟨_, h1⟩, fun z => z.2.1 rfl, fun ⟨q, e, _⟩ => by cases e⟩
    · exact ⟨w, rfl, ⟨_, hv, repL_strD ws⟩, fun z => z.2.2 rfl, fun ⟨q, e, _⟩ => by cases e⟩
  · rcases own i l z d h1 with ⟨rfl, _⟩ | ⟨rfl, _⟩ <;> rcases own j l' z' d' h2 with ⟨rfl, _⟩ | ⟨rfl, _⟩
    · rfl
    · cases h3; cases h4; exact absurd rfl hrw
    · cases h3; cases h4; exact absurd rfl hrw
    · rfl
  · have := nsh i _ h (fun _ _ _ e => by cases e); cases this
end
/-! ### readings whose answer is known -/
section
variable {K : PySem.W.Frag} {cl : Nat → Addr} {W : WX} {G : Gh} {σ : L2.St} {H : Hp} {p p' : PS} {den : Dn} {dS : SDn}
theorem tb_known {b : Bool} {Q : Bool → Hp → Prop} (o : Ok K G σ H p) (hd : den p = .ok (.sh (.bl b)) p') (k : ∀ H', StpE K G σ p H p' H' → Q b H') : tB (tE K cl W den) σ H Q :=
  ⟨G, p, o, by
    rw [hd]
    intro u H' s r
    cases (show Rep K _ H' u (.bl b) from r)
    exact ⟨b, rfl, k H' s⟩⟩
theorem ts_known {D : Ends} (o : Ok K G σ H p) (hd : dS p = .nx p') (k : ∀ σ' H', Stp K G σ p H σ' p' H' → D.nx σ' H') : tS K cl W dS D σ H :=
  ⟨G, p, o, by rw [hd]; exact k⟩
theorem te_known {v : D} {Q : VK} (o : Ok K G σ H p) (hd : den p = .ok (.sh v) p') (k : ∀ u H', StpE K G σ p H p' H' → Rep K (Mu G σ p'.env) H' u v → Q u H') : tE K cl W den σ H Q :=
  ⟨G, p, o, by rw [hd]; exact fun u H' s r => k u H' s r⟩
end
end Py
set_option maxRecDepth 100000
set_option maxHeartbeats 2000000
namespace Py
open PySem PySem.Spec PyProof.Rows L2

/-! ### the methods' frames -/
def noOwn : Sl → Bool
  | .own _ _ _ => false
  | _ => true
/-- slot 0 the reader, slot 1 the words, nothing else of one's own -/
def mE (ws : List (List Nat)) (rest : List Sl) : List Sl := .own false true .bx :: .own true false (.lst (strD ws)) :: rest
theorem mE_own {ws : List (List Nat)} {rest : List Sl} (h : rest.all noOwn = true) {i : Nat} {l z : Bool} {d : D} (e : (mE ws rest)[i]? = some (.own l z d)) : (i = 0 ∧ l = false ∧ z = true) ∨ (i = 1 ∧ l = true ∧ z = false) := by
  match i, e with
  | 0, e => cases e; exact .inl ⟨rfl, rfl, rfl⟩
  | 1, e => cases e; exact .inr ⟨rfl, rfl, rfl⟩
  | i + 2, e =>
    have e : rest[i]? = some (.own l z d) := e
    rw [List.all_eq_true] at h
    have := h _ (List.mem_of_getElem? e)
    cases this
structure MSt (K : PySem.W.Frag) (M : Addr → Prop) (H0 : Hp) (r a b w : Addr) (ws : List (List Nat)) (fx : List (List (List Nat))) (tx : List (List Nat)) (rest : List Sl) (σ : L2.St) (H : Hp) : Prop where
  ok : Ok K (mG M r w) σ H ⟨mE ws rest, ([], 0)⟩
  no : rest.all noOwn = true
  s0 : σ[0]? = some (some (.ref r))
  s1 : σ[1]? = some (some (.ref w))
  mw : M w
  rd : RdrAt K M H r a b fx tx
  wa : w ≠ a
  wb : w ≠ b
  hw : H w = some (.lst (strV ws))
  fr : ∀ c o, H0 c = some o → H c = some o
  dom : ∀ c, H c = none → H0 c = none
section
variable {K : PySem.W.Frag} {M : Addr → Prop} {H0 H H' : Hp} {r a b w : Addr} {ws : List (List Nat)} {fx : List (List (List Nat))} {tx : List (List Nat)} {rest rest' : List Sl} {σ σ' : L2.St} {p p' : PS}
theorem MSt.start {N : List Str} {n : Nat} (hN : N.length = n + 2) (x : RdrAt K M H r a b fx tx) (hw : M w) (wa : w ≠ a) (wb : w ≠ b) (hv : H w = some (.lst (strV ws))) (dom : ∀ c, M c → H c ≠ none) : MSt K M H r a b w ws fx tx (List.replicate n .no) (L2.start N [.ref r, .ref w]) H := by
  obtain ⟨h1, h2⟩ := entry_two (n := n) hN x hw hv dom
  refine ⟨h1, ?_, ?_, ?_, hw, x, wa, wb, hv, fun _ _ e => e, fun _ e => e⟩
  · rw [List.all_eq_true]
    intro y hy
    rw [(List.mem_replicate.mp hy).2]; rfl
  · unfold L2.start; rfl
  · unfold L2.start; rfl
theorem mG_mu (x : RdrAt K M H r a b fx tx) (mw : M w) (no : rest.all noOwn = true) (s0 : σ[0]? = some (some (.ref r))) (s1 : σ[1]? = some (some (.ref w))) : Mu (mG M r w) σ (mE ws rest) = M := by
  funext c; apply propext
  constructor
  · rintro (z | ⟨q, e, _⟩ | ⟨i, l, z, d, k1, k2⟩)
    · exact z.1
    · cases e
    · rcases mE_own no k1 with ⟨rfl, _⟩ | ⟨rfl, _⟩
      · rw [s0] at k2; cases k2; exact x.mr
      · rw [s1] at k2; cases k2; exact mw
  · intro z
    by_cases e1 : c = r
    · exact .inr (.inr ⟨0, false, true, .bx, rfl, by rw [e1]; exact s0⟩)
    · by_cases e2 : c = w
      · exact .inr (.inr ⟨1, true, false, _, rfl, by rw [e2]; exact s1⟩)
      · exact .inl ⟨z, e1, e2⟩
theorem MSt.mu (s : MSt K M H0 r a b w ws fx tx rest σ H) : Mu (mG M r w) σ (mE ws rest) = M := mG_mu s.rd s.mw s.no s.s0 s.s1
theorem MSt.lm (s : MSt K M H0 r a b w ws fx tx rest σ H) {c : Addr} (h : Lm (mG M r w) σ (mE ws rest) c) : c = w := by
  rcases h with ⟨q, e, _⟩ | ⟨i, l, d, h1, h2⟩
  · cases e
  · rcases mE_own s.no h1 with ⟨rfl, _, e⟩ | ⟨rfl, _⟩
    · cases e
    · rw [s.s1] at h2; cases h2; rfl
/-- a step of the general layer -/
theorem MSt.step (s : MSt K M H0 r a b w ws fx tx rest σ H) (t : Stp K (mG M r w) σ ⟨mE ws rest, ([], 0)⟩ H σ' ⟨mE ws rest', ([], 0)⟩ H') (hl : rest'.all noOwn = true) : MSt K M H0 r a b w ws fx tx rest' σ' H' := by
  obtain ⟨d0, g0, q0⟩ := t.lk 0 false .bx rfl
  obtain ⟨z1, d1, g1, q1⟩ := t.lent 1 false _ rfl
  have ok := t.ok
  have hw' : H' w = some (.lst (strV ws)) := by
    obtain ⟨c, k1, k2, _⟩ := ok.ow 1 true false (.lst (strD ws)) rfl
    rw [q1, s.s1] at k1; cases k1
    obtain ⟨xs, k3, k4⟩ := k2
    rw [repL_strD_inv k4] at k3; exact k3
  have fr : ∀ c o, H c = some o → H' c = some o := fun c o e => by
    by_cases hc : c = w
    · subst hc; rw [s.hw] at e; cases e; exact hw'
    · exact t.fr c o e fun z => hc (s.lm z)
  have hr : H' r = H r := by obtain ⟨dx, n, e⟩ := s.rd.ob; rw [e]; exact fr _ _ e
  have ha : H' a = H a := by obtain ⟨xs, e, _⟩ := s.rd.ft; rw [e]; exact fr _ _ e
  have hb : H' b = H b := by rw [s.rd.tt]; exact fr _ _ s.rd.tt
  exact ⟨ok, hl, by rw [q0]; exact s.s0, by rw [q1]; exact s.s1, s.mw, s.rd.mono (fun c o e _ => fr c o e) hr ha hb (fun _ z => .inl z) s.rd.mr s.rd.ma s.rd.mb, s.wa, s.wb, hw', fun c o e => fr c o (s.fr c o e), fun c e => s.dom c (t.dom c e)⟩
theorem MSt.rep (s : MSt K M H0 r a b w ws fx tx rest σ H) {i : Nat} {d : D} (h : rest[i]? = some (.sh d)) : ∃ v, σ[i + 2]? = some (some v) ∧ Rep K M H v d := by
  obtain ⟨v, h1, h2⟩ := s.ok.sh (i + 2) d h
  rw [s.mu] at h2
  exact ⟨v, h1, h2⟩
end
/-! ### readings of the reader's fields -/
section
variable {K : PySem.W.Frag} {M : Addr → Prop} {H : Hp} {r a b : Addr} {fx : List (List (List Nat))} {tx : List (List Nat)} {σ : L2.St} {mg : Str → Option Value} {i : Nat}
theorem fld_fixes (c : ClsC K mg 2) (x : RdrAt K M H r a b fx tx) (hs : σ[i]? = some (some (.ref r))) {Q : VK} (h : Q (.ref a) H) : tFld K (tVar i) "fixes" σ H Q := by
  obtain ⟨dx, n, e⟩ := x.ob
  exact ⟨_, hs, r, _, dx, _, _, rfl, e, c.cls, c.noat _ (by decide), rfl, h⟩
theorem fld_texts (c : ClsC K mg 2) (x : RdrAt K M H r a b fx tx) (hs : σ[i]? = some (some (.ref r))) {Q : VK} (h : Q (.ref b) H) : tFld K (tVar i) "texts" σ H Q := by
  obtain ⟨dx, n, e⟩ := x.ob
  exact ⟨_, hs, r, _, dx, _, _, rfl, e, c.cls, c.noat _ (by decide), rfl, h⟩
/-- len(reader.fixes) == 5 -/
theorem len_fixes (c : ClsC K mg 2) (x : RdrAt K M H r a b fx tx) (hs : σ[i]? = some (some (.ref r))) {k : Int} {Q : Bool → Hp → Prop} (h : Q (decide ((fx.length : Int) = k)) H) :
    tTest (tOp rEq (tCB (fun xs H Q => ∃ x n, xs = [x] ∧ LenV K x H n ∧ Q (.int n) H) (tCons (tFld K (tVar i) "fixes") tNil)) (tC (.int k))) σ H Q := by
  refine fld_fixes c x hs ?_
  obtain ⟨xs, e, q⟩ := x.ft
  refine ⟨_, fx.length, rfl, .inl ⟨xs, .inl (.inl e), ?_⟩, rfl, ?_⟩
  · rw [q.length, List.length_map]
  · exact ⟨_, rfl, by rw [show decide (V.int (fx.length : Nat) = V.int k) = decide ((fx.length : Int) = k) from by rw [dec_int]; rfl]; exact h⟩
theorem len_textsE (c : ClsC K mg 2) (x : RdrAt K M H r a b fx tx) (hs : σ[i]? = some (some (.ref r))) {k : Int} {Q : Bool → Hp → Prop} (h : Q (decide ((tx.length : Int) = k)) H) :
    tTest (tOp rEq (tCB (fun xs H Q => ∃ x n, xs = [x] ∧ LenV K x H n ∧ Q (.int n) H) (tCons (tFld K (tVar i) "texts") tNil)) (tC (.int k))) σ H Q := by
  refine fld_texts c x hs ?_
  refine ⟨_, tx.length, rfl, .inl ⟨_, .inl (.inl x.tt), by unfold strV; rw [List.length_map]⟩, rfl, ?_⟩
  exact ⟨_, rfl, by rw [show decide (V.int (tx.length : Nat) = V.int k) = decide ((tx.length : Int) = k) from by rw [dec_int]; rfl]; exact h⟩
theorem len_textsG (c : ClsC K mg 2) (x : RdrAt K M H r a b fx tx) (hs : σ[i]? = some (some (.ref r))) {k : Int} {Q : Bool → Hp → Prop} (h : Q (decide (k < (tx.length : Int))) H) :
    tTest (tOp (rI0 fun i j => .bl (decide (j < i))) (tCB (fun xs H Q => ∃ x n, xs = [x] ∧ LenV K x H n ∧ Q (.int n) H) (tCons (tFld K (tVar i) "texts") tNil)) (tC (.int k))) σ H Q := by
  refine fld_texts c x hs ?_
  refine ⟨_, tx.length, rfl, .inl ⟨_, .inl (.inl x.tt), by unfold strV; rw [List.length_map]⟩, _, _, rfl, rfl, _, rfl, h⟩
end
end Py
set_option maxRecDepth 100000
set_option maxHeartbeats 2000000
namespace Py
open PySem PySem.Spec PyProof.Rows L2

abbrev rLenB (K : PySem.W.Frag) (i : Nat) (f : Str) : TE := tCB (fun xs H Q => ∃ x n, xs = [x] ∧ LenV K x H n ∧ Q (.int n) H) (tCons (tFld K (tVar i) f) tNil)
section
variable {s : Sx} {T : Tab} {X : Cx} {W : WX}
theorem cl_of (c : CtxOk s T X) (hob : T.ob 2 = true) : ClsC X.K X.mg 2 := c.fac.ob 2 hob
/-- len(x.f) == K, K a constant of the module -/
theorem pt_lenEq (c : CtxOk s T X) {i : Nat} {x f C : Str} {k : Int} {l1 l2 l3 l4 l5 l6 : Pos} (hN : s.N[i]? = some x) (hv : visB s.sc x = true) (hd : (x == ("__debug__" : Str)) = false) (hcd : (x == ("__classdict__" : Str)) = false) (hg : glB s.sc "len" = true) (hf : T.free "len" = true) (hC : T.con C = some (.int k)) (hgC : glB s.sc C = true) :
    PT X (.Compare (.Call (.Name "len" l1) [.Attribute (.Name x l2) f l3] [] l4) [.Eq] [.Name C l5] l6) (tTest (tOp rEq (rLenB X.K i f) (tC (.int k)))) := by
  obtain ⟨hdb, v, u, h1, h2, h3⟩ := c.fac.con C _ hC
  obtain rfl : v = .int k := by
    have := h3 (fun _ => False) (fun _ => none)
    cases this; rfl
  exact pt_cmpR op_eq (pe_callB call_len (gl_cx c hg) (c.fac.free _ hf) (by decide +kernel) (pa_cons (pe_fld (pe_var (i := i) (by rw [c.N]; exact hN) (by rw [c.sc]; exact vis_of hv) hd hcd) rfl) pa_nil)) (pe_glob (gl_cx c hgC) h1 h2 hdb) rfl
theorem pt_lenEqI (c : CtxOk s T X) {i j : Nat} {x f : Str} {k : Int} {l1 l2 l3 l4 l5 l6 : Pos} (hN : s.N[i]? = some x) (hv : visB s.sc x = true) (hd : (x == ("__debug__" : Str)) = false) (hcd : (x == ("__classdict__" : Str)) = false) (hg : glB s.sc "len" = true) (hf : T.free "len" = true) :
    PT X (.Compare (.Call (.Name "len" l1) [.Attribute (.Name x l2) f l3] [] l4) [.Eq] [.Constant (.int k) j l5] l6) (tTest (tOp rEq (rLenB X.K i f) (tC (.int k)))) :=
  pt_cmpR op_eq (pe_callB call_len (gl_cx c hg) (c.fac.free _ hf) (by decide +kernel) (pa_cons (pe_fld (pe_var (i := i) (by rw [c.N]; exact hN) (by rw [c.sc]; exact vis_of hv) hd hcd) rfl) pa_nil)) pe_int rfl
theorem pt_lenGtI (c : CtxOk s T X) {i j : Nat} {x f : Str} {k : Int} {l1 l2 l3 l4 l5 l6 : Pos} (hN : s.N[i]? = some x) (hv : visB s.sc x = true) (hd : (x == ("__debug__" : Str)) = false) (hcd : (x == ("__classdict__" : Str)) = false) (hg : glB s.sc "len" = true) (hf : T.free "len" = true) :
    PT X (.Compare (.Call (.Name "len" l1) [.Attribute (.Name x l2) f l3] [] l4) [.Gt] [.Constant (.int k) j l5] l6) (tTest (tOp (rI0 fun i j => .bl (decide (j < i))) (rLenB X.K i f) (tC (.int k)))) :=
  pt_cmpR op_gt (pe_callB call_len (gl_cx c hg) (c.fac.free _ hf) (by decide +kernel) (pa_cons (pe_fld (pe_var (i := i) (by rw [c.N]; exact hN) (by rw [c.sc]; exact vis_of hv) hd hcd) rfl) pa_nil)) pe_int rfl
/-- self.f.append(e) -/
theorem ps_appF (c : CtxOk s T X) {i : Nat} {x f : Str} {e : Expr} {te : TE} {m1 m2 m3 m5 m6 : Pos} (hN : s.N[i]? = some x) (hv : visB s.sc x = true) (hd : (x == ("__debug__" : Str)) = false) (hcd : (x == ("__classdict__" : Str)) = false) (he : PE X e te) (hline : (m3.endLine == m5.line) = true)
    (hs : starEach [e] X.env = (false, eval e X.env) :: starEach [] X.env) (hfew : ((backTo m5 (starEach [e] X.env)).all (fun x => !x.1) && (backToKw m5 (keywordEach [] X.env)).all (fun x => x.1.isSome) && decide (([e] : List Expr).length + ([] : List Keyword).length + (if ([] : List Keyword).isEmpty then 0 else 1) < 30)) = true)
    (hsw : swapsWith (.Call (.Attribute (.Attribute (.Name x m1) f m2) "append" m3) [e] [] m5) none m6.line X.env = pure false) :
    L2.PS X (.Expr (.Call (.Attribute (.Attribute (.Name x m1) f m2) "append" m3) [e] [] m5) m6) (tDrop (tBM X.K "list" rAppend (tFld X.K (tVar i) f) (tCons te tNil))) :=
  ps_expr (pe_bm PySem.F.plainAttrs_list PySem.F.slot_list_append PySem.F.type_list_append mt_append (pe_fld (pe_var (i := i) (by rw [c.N]; exact hN) (by rw [c.sc]; exact vis_of hv) hd hcd) rfl) (pa_cons he pa_nil hs) rfl hfew hline hs rfl) hsw
end
section
variable {K : PySem.W.Frag} {M : Addr → Prop} {H0 H H' : Hp} {r a b w : Addr} {ws : List (List Nat)} {fx : List (List (List Nat))} {tx : List (List Nat)} {rest : List Sl} {σ : L2.St} {mg : Str → Option Value}
/-- self.fixes.append(e): e a fix -/
theorem app_fixes (c : ClsC K mg 2) (s : MSt K M H0 r a b w ws fx tx rest σ H) {i : Nat} (hs : σ[i]? = some (some (.ref r))) {te : TE} {D : Ends} {v : V} {f : List (List Nat)} (hl : fx.length < 5) (he : ∀ Q : VK, Q v H → te σ H Q) (hv : Rep K M H v (fixD f))
    (k : ∀ H', (∀ c o, H0 c = some o → c ≠ a → c ≠ b → H' c = some o) → (∀ c, H' c = none → H0 c = none) → RdrAt K M H' r a b (fx ++ [f]) tx → D.nx σ H') :
    tDrop (tBM K "list" rAppend (tFld K (tVar i) "fixes") (tCons te tNil)) D σ H := by
  obtain ⟨xs, e1, e2⟩ := s.rd.ft
  have x := s.rd
  unfold tDrop tBM
  refine fld_fixes c s.rd hs ?_
  refine ⟨.inl ⟨rfl, xs, .inl (.inl e1)⟩, he _ ?_⟩
  have hxl : xs.length = fx.length := by rw [e2.length, List.length_map]
  refine ⟨a, xs, v, rfl, rfl, e1, by rw [sizeLine_eq, hxl]; omega, ?_⟩
  refine k _ (fun c o e h1 h2 => by rw [upd_ne h1]; exact s.fr c o e) (fun c e => ?_) ?_
  · by_cases hc : c = a
    · subst hc; rw [upd_same] at e; cases e
    · rw [upd_ne hc] at e; exact s.dom c e
  · have keep : ∀ c o, H c = some o → ¬ M c → upd H a (.lst (xs ++ [v])) c = some o := fun c o e n => by rw [upd_ne (fun z => n (by rw [z]; exact x.ma))]; exact e
    obtain ⟨dx, n, o1⟩ := x.ob
    obtain ⟨n1, n2⟩ := x.ra
    refine ⟨⟨dx, n, by rw [upd_ne n1]; exact o1⟩, ⟨_, upd_same, ?_⟩, by rw [upd_ne x.ab.symm]; exact x.tt, x.mr, x.ma, x.mb, x.ab, by rw [List.length_append]; simp; omega, x.tl⟩
    rw [List.map_append]
    exact (RepL.mono K keep (fun _ z => .inl z) e2).append (.cons (Rep.mono K keep (fun _ z => .inl z) hv) .nil)
/-- self.texts.append(e): e a text -/
theorem app_texts (c : ClsC K mg 2) (s : MSt K M H0 r a b w ws fx tx rest σ H) {i : Nat} (hs : σ[i]? = some (some (.ref r))) {te : TE} {D : Ends} {y : List Nat} (hl : tx.length < 1)
    (he : ∀ Q : VK, (∀ H1, MSt K M H0 r a b w ws fx tx rest σ H1 → Q (.str (S y)) H1) → te σ H Q)
    (k : ∀ H', (∀ c o, H0 c = some o → c ≠ a → c ≠ b → H' c = some o) → (∀ c, H' c = none → H0 c = none) → RdrAt K M H' r a b fx (tx ++ [y]) → D.nx σ H') :
    tDrop (tBM K "list" rAppend (tFld K (tVar i) "texts") (tCons te tNil)) D σ H := by
  unfold tDrop tBM
  refine fld_texts c s.rd hs ?_
  refine ⟨.inl ⟨rfl, _, .inl (.inl s.rd.tt)⟩, he _ fun H1 s1 => ?_⟩
  have x := s1.rd
  refine ⟨b, _, .str (S y), rfl, rfl, x.tt, by unfold strV; rw [sizeLine_eq, List.length_map]; omega, ?_⟩
  refine k _ (fun c o e h1 h2 => by rw [upd_ne h2]; exact s1.fr c o e) (fun c e => ?_) ?_
  · by_cases hc : c = b
    · subst hc; rw [upd_same] at e; cases e
    · rw [upd_ne hc] at e; exact s1.dom c e
  · have keep : ∀ c o, H1 c = some o → ¬ M c → upd H1 b (.lst (strV tx ++ [.str (S y)])) c = some o := fun c o e n => by rw [upd_ne (fun z => n (by rw [z]; exact x.mb))]; exact e
    obtain ⟨dx, n, o1⟩ := x.ob
    obtain ⟨n1, n2⟩ := x.ra
    obtain ⟨xs, e1, e2⟩ := x.ft
    refine ⟨⟨dx, n, by rw [upd_ne n2]; exact o1⟩, ⟨xs, by rw [upd_ne x.ab]; exact e1, RepL.mono K keep (fun _ z => .inl z) e2⟩, ?_, x.mr, x.ma, x.mb, x.ab, x.fl, by rw [List.length_append, List.length_singleton]; omega⟩
    rw [upd_same]
    unfold strV
    rw [List.map_append]; rfl
end
end Py
set_option maxRecDepth 100000
set_option maxHeartbeats 2000000
namespace Py
open PySem PySem.Spec PyProof.Rows L2

abbrev Fxs := List (List (List Nat))
abbrev Txs := List (List Nat)
def s0P (ws : Txs) (rest : List Sl) : PS := ⟨mE ws rest, ([], 0)⟩
def stpFix (okF : Txs → Bool) (fixOf : Txs → Txs) (ws : Txs) (fx : Fxs) (tx : Txs) : Option (Fxs × Txs) := if okF ws = true ∧ fx.length < 5 then some (fx ++ [fixOf ws], tx) else none
def stpText (okT : Txs → Bool) (txtOf : Txs → List Nat) (ws : Txs) (fx : Fxs) (tx : Txs) : Option (Fxs × Txs) := if okT ws = true ∧ tx.length < 1 then some (fx, tx ++ [txtOf ws]) else none
def rTakeFix (K : PySem.W.Frag) (cl : Nat → Addr) (W : WX) (d1 : Dn) (d2 : SDn) (d3 : Dn) : TS :=
  tSeq (tIfS (tB (tE K cl W d1)) tNever tNext) (tSeq (tS K cl W d2) (tSeq (tIfS (tB (tE K cl W d3)) tNever tNext) (tSeq (tIfS (tTest (tOp rEq (rLenB K 0 "fixes") (tC (.int 5)))) tNever tNext) (tSeq (tDrop (tBM K "list" rAppend (tFld K (tVar 0) "fixes") (tCons (tVar 2) tNil))) tNext))))
def rTakeText (K : PySem.W.Frag) (cl : Nat → Addr) (W : WX) (d1 d2 d3 : Dn) : TS :=
  tSeq (tIfS (tB (tE K cl W d1)) tNever tNext) (tSeq (tIfS (tB (tE K cl W d2)) tNever tNext) (tSeq (tDrop (tBM K "list" rAppend (tFld K (tVar 0) "texts") (tCons (tE K cl W d3) tNil))) tNext))
section
variable {P : Program} {w : World} {K : PySem.W.Frag} {mg : Str → Option Value} {base : Heap} {x qual : Str} {params : Arguments} {body : List Stmt} {scope : Scope} {f : Addr} {fd : FuncData} {T : Tab} {N : List Str}
theorem spStep_len {stp : Txs → Fxs → Txs → Option (Fxs × Txs)} {vs : List V} {H : Hp} {Q : VK} {E : XK} (h : spStep K stp vs H Q E) : vs.length = 2 := by
  obtain ⟨_, _, _, _, _, _, _, _, _, _, rfl, _⟩ := h
  rfl
theorem takeFix_ok (F : FunD K x qual params body scope [] [] f fd) (S : FnScope N ["self", "words"] scope) (hN : N.length = 4) (fac : Facts T P w K mg base) (hob : T.ob 2 = true) (okF : Txs → Bool) (fixOf : Txs → Txs) {d1 d3 : Dn} {d2 : SDn}
    (hP : ∀ X W, CtxS ⟨N, scope, fun _ => true⟩ T X → Takes X W → PSs X body (rTakeFix X.K (clK X.K) W d1 d2 d3))
    (h1 : ∀ ws, okF ws = true → d1 (s0P ws [.no, .no]) = .ok (.sh (.bl false)) (s0P ws [.no, .no]))
    (h2 : ∀ ws, okF ws = true → d2 (s0P ws [.no, .no]) = .nx (s0P ws [.sh (fixD (fixOf ws)), .no]))
    (h3 : ∀ ws, okF ws = true → d3 (s0P ws [.sh (fixD (fixOf ws)), .no]) = .ok (.sh (.bl false)) (s0P ws [.sh (fixD (fixOf ws)), .no])) :
    FnOk P w K mg base (L2.CX P w) (T.k + 1) f fd ["self", "words"] (spStep K (stpFix okF fixOf)) := by
  refine F.ok S (fun vs H Q E hs => spStep_len hs) (fun cdv A outer st H vs Q E hr hs => ?_)
  obtain ⟨M, r, a, b, wd, ws, fx, tx, fx', tx', rfl, rd, mw, wa, wb, hw, dom, hst, q⟩ := hs
  have cx : CtxS ⟨N, scope, fun _ => true⟩ T (cxOf (L2.CX P w) P w K mg base N qual scope f cdv A outer st H E) := ⟨⟨rfl, rfl, S.nd, rfl, hr, fun _ _ => rfl, fac⟩, passes_of rfl, rfl, rfl, rfl⟩
  refine ⟨_, hP _ (fun cls d _ H => E cls d H) cx (takes_of rfl rfl rfl rfl), ?_⟩
  have c := fac.ob 2 hob
  unfold stpFix at hst
  split at hst
  · rename_i hk
    obtain ⟨hk, hl⟩ := hk
    cases hst
    have s0 : MSt K M H r a b wd ws fx tx [.no, .no] (L2.start N [.ref r, .ref wd]) H := MSt.start (n := 2) hN rd mw wa wb hw dom
    unfold rTakeFix tSeq tIfS
    refine tb_known s0.ok (h1 ws hk) fun H1 t1 => ?_
    have s1 := s0.step t1.1 rfl
    rw [if_neg Bool.false_ne_true]
    show tS K (clK K) _ d2 _ _ H1
    refine ts_known s1.ok (h2 ws hk) fun σ2 H2 t2 => ?_
    have s2 := s1.step t2 rfl
    show tB (tE K (clK K) _ d3) σ2 H2 _
    refine tb_known s2.ok (h3 ws hk) fun H3 t3 => ?_
    have s3 := s2.step t3.1 rfl
    rw [if_neg Bool.false_ne_true]
    show tTest (tOp rEq (rLenB K 0 "fixes") (tC (.int 5))) σ2 H3 _
    refine len_fixes c s3.rd s3.s0 ?_
    rw [if_neg (by rw [decide_eq_true_eq]; omega)]
    show tDrop (tBM K "list" rAppend (tFld K (tVar 0) "fixes") (tCons (tVar 2) tNil)) _ σ2 H3
    obtain ⟨v, hv1, hv2⟩ := s3.rep (i := 0) rfl
    exact app_fixes c s3 s3.s0 hl (fun Q hq => ⟨v, hv1, hq⟩) hv2 fun H' f1 f2 f3 => q H' f1 f2 f3
  · cases hst
theorem takeText_ok (F : FunD K x qual params body scope [] [] f fd) (S : FnScope N ["self", "words"] scope) (hN : N.length = 2) (fac : Facts T P w K mg base) (hob : T.ob 2 = true) (okT : Txs → Bool) (txtOf : Txs → List Nat) {d1 d2 d3 : Dn}
    (hP : ∀ X W, CtxS ⟨N, scope, fun _ => true⟩ T X → Takes X W → PSs X body (rTakeText X.K (clK X.K) W d1 d2 d3))
    (h1 : ∀ ws, okT ws = true → d1 (s0P ws []) = .ok (.sh (.bl false)) (s0P ws []))
    (h2 : ∀ ws, okT ws = true → d2 (s0P ws []) = .ok (.sh (.bl false)) (s0P ws []))
    (h3 : ∀ ws, okT ws = true → d3 (s0P ws []) = .ok (.sh (.str (txtOf ws))) (s0P ws [])) :
    FnOk P w K mg base (L2.CX P w) (T.k + 1) f fd ["self", "words"] (spStep K (stpText okT txtOf)) := by
  refine F.ok S (fun vs H Q E hs => spStep_len hs) (fun cdv A outer st H vs Q E hr hs => ?_)
  obtain ⟨M, r, a, b, wd, ws, fx, tx, fx', tx', rfl, rd, mw, wa, wb, hw, dom, hst, q⟩ := hs
  have cx : CtxS ⟨N, scope, fun _ => true⟩ T (cxOf (L2.CX P w) P w K mg base N qual scope f cdv A outer st H E) := ⟨⟨rfl, rfl, S.nd, rfl, hr, fun _ _ => rfl, fac⟩, passes_of rfl, rfl, rfl, rfl⟩
  refine ⟨_, hP _ (fun cls d _ H => E cls d H) cx (takes_of rfl rfl rfl rfl), ?_⟩
  have c := fac.ob 2 hob
  unfold stpText at hst
  split at hst
  · rename_i hk
    obtain ⟨hk, hl⟩ := hk
    cases hst
    have s0 : MSt K M H r a b wd ws fx tx [] (L2.start N [.ref r, .ref wd]) H := MSt.start (n := 0) hN rd mw wa wb hw dom
    unfold rTakeText tSeq tIfS
    refine tb_known s0.ok (h1 ws hk) fun H1 t1 => ?_
    have s1 := s0.step t1.1 rfl
    rw [if_neg Bool.false_ne_true]
    show tB (tE K (clK K) _ d2) _ H1 _
    refine tb_known s1.ok (h2 ws hk) fun H2 t2 => ?_
    have s2 := s1.step t2.1 rfl
    rw [if_neg Bool.false_ne_true]
    show tDrop (tBM K "list" rAppend (tFld K (tVar 0) "texts") (tCons (tE K (clK K) _ d3) tNil)) _ _ H2
    refine app_texts c s2 s2.s0 hl (fun Q hq => te_known s2.ok (h3 ws hk) fun u H' t3 r3 => ?_) fun H' f1 f2 f3 => q H' f1 f2 f3
    cases r3
    exact hq H' (s2.step t3.1 rfl)
  · cases hst
end
end Py
set_option maxRecDepth 100000
set_option maxHeartbeats 2000000
namespace Py
open PySem PySem.Spec PyProof.Rows L2

abbrev noE : XK := fun _ _ _ => False
theorem passes_no {X : Cx} {P : Program} {w : World} : Passes (L2.CX P w) X noE := fun pins σ H s e s' I h => by
  obtain ⟨_, _, _, _, _, _, _, _, _, _, _, _, h⟩ := (show L2.CX P w X.stack H s noE e s' from h)
  exact h.elim
abbrev StpT := Txs → Fxs → Txs → Option (Fxs × Txs)
def stpLine (okW isF isT : Txs → Bool) (sF sT : StpT) : StpT := fun ws fx tx => if okW ws = false ∨ tx ≠ [] then none else if isF ws = true then sF ws fx tx else if isT ws = true then sT ws fx tx else none
def rTakeLine (K : PySem.W.Frag) (cl : Nat → Addr) (W : WX) (d1 d2 : Dn) (sF sT : StpT) : TS :=
  tSeq (tIfS (tTest (tOp (rI0 fun i j => .bl (decide (j < i))) (rLenB K 0 "texts") (tC (.int 0)))) tNever tNext) (tSeq (tIfS (tB (tE K cl W d1)) (tSeq (tDrop (tMeth (clA K 2) "take_fix" (spStep K sF) [] noE (tVar 0) (tCons (tVar 1) tNil))) tNext)
    (tSeq (tIfS (tB (tE K cl W d2)) (tSeq (tDrop (tMeth (clA K 2) "take_text" (spStep K sT) [] noE (tVar 0) (tCons (tVar 1) tNil))) tNext) tNever) tNext)) tNext)
section
variable {K : PySem.W.Frag} {M : Addr → Prop} {H0 H H' : Hp} {r a b w : Addr} {ws : Txs} {fx : Fxs} {tx : Txs} {rest : List Sl} {σ : L2.St}
/-- self.m(words) -/
theorem call_step (s : MSt K M H0 r a b w ws fx tx rest σ H) {m : Str} (hm : m ∉ (["fixes", "texts", "line"] : List Str)) {stp : StpT} {fx' : Fxs} {tx' : Txs} (dom : ∀ c, M c → H c ≠ none) (hs : stp ws fx tx = some (fx', tx')) {D : Ends}
    (k : ∀ H', (∀ c o, H0 c = some o → c ≠ a → c ≠ b → H' c = some o) → (∀ c, H' c = none → H0 c = none) → RdrAt K M H' r a b fx' tx' → D.nx σ H') :
    tDrop (tMeth (clA K 2) m (spStep K stp) [] noE (tVar 0) (tCons (tVar 1) tNil)) D σ H := by
  obtain ⟨dx, n, e⟩ := s.rd.ob
  have hl : ([("fixes", V.ref a), ("texts", .ref b), ("line", .int n)] : List (Str × V)).lookup m = none := by
    have h1 : (m == ("fixes" : Str)) = false := by rw [beq_eq_false_iff_ne]; intro e; exact hm (by rw [e]; simp)
    have h2 : (m == ("texts" : Str)) = false := by rw [beq_eq_false_iff_ne]; intro e; exact hm (by rw [e]; simp)
    have h3 : (m == ("line" : Str)) = false := by rw [beq_eq_false_iff_ne]; intro e; exact hm (by rw [e]; simp)
    simp only [List.lookup, h1, h2, h3]
  refine ⟨_, s.s0, r, dx, _, rfl, e, hl, _, s.s1, M, r, a, b, w, ws, fx, tx, fx', tx', rfl, s.rd, s.mw, s.wa, s.wb, s.hw, dom, hs, fun H' f1 f2 f3 => ?_⟩
  exact k H' (fun c o e h1 h2 => f1 c o (s.fr c o e) h1 h2) (fun c e => s.dom c (f2 c e)) f3
end
section
variable {P : Program} {w : World} {K : PySem.W.Frag} {mg : Str → Option Value} {base : Heap} {x qual : Str} {params : Arguments} {body : List Stmt} {scope : Scope} {f : Addr} {fd : FuncData} {T : Tab} {N : List Str}
theorem takeLine_ok (F : FunD K x qual params body scope [] [] f fd) (S : FnScope N ["self", "words"] scope) (hN : N.length = 2) {j : Nat} (fac : Facts T P w K mg base) (hob : T.ob 2 = true) {okW isF isT : Txs → Bool} {sF sT : StpT} {d1 d2 : Dn}
    (hP : ∀ X W, CtxS ⟨N, scope, fun _ => true⟩ T X → X.K = K → X.prog = P → X.w = w → X.mg = mg → X.base = base → Room (T.k + j) X.A → Takes X W → PSs X body (rTakeLine X.K (clK X.K) W d1 d2 sF sT))
    (h1 : ∀ ws, okW ws = true → d1 (s0P ws []) = .ok (.sh (.bl (isF ws))) (s0P ws []))
    (h2 : ∀ ws, okW ws = true → d2 (s0P ws []) = .ok (.sh (.bl (isT ws))) (s0P ws [])) :
    FnOk P w K mg base (L2.CX P w) (T.k + j + 1) f fd ["self", "words"] (spStep K (stpLine okW isF isT sF sT)) := by
  refine F.ok S (fun vs H Q E hs => spStep_len hs) (fun cdv A outer st H vs Q E hr hs => ?_)
  obtain ⟨M, r, a, b, wd, ws, fx, tx, fx', tx', rfl, rd, mw, wa, wb, hw, dom, hst, q⟩ := hs
  have hr2 : Room T.k (A.deeper (envOfC qual scope st.heap.objs.size f cdv)) := hr.mono (Nat.le_add_right _ _)
  have cx : CtxS ⟨N, scope, fun _ => true⟩ T (cxOf (L2.CX P w) P w K mg base N qual scope f cdv A outer st H E) := ⟨⟨rfl, rfl, S.nd, rfl, hr2, fun _ _ => rfl, fac⟩, passes_of rfl, rfl, rfl, rfl⟩
  refine ⟨_, hP _ (fun cls d _ H => E cls d H) cx rfl rfl rfl rfl rfl hr (takes_of rfl rfl rfl rfl), ?_⟩
  have c := fac.ob 2 hob
  unfold stpLine at hst
  split at hst
  · cases hst
  · rename_i hk
    have hws : okW ws = true := by
      cases e : okW ws with
      | true => rfl
      | false => exact absurd (.inl e) hk
    have htx : tx = [] := Classical.byContradiction fun e => hk (.inr e)
    have s0 : MSt K M H r a b wd ws fx tx [] (L2.start N [.ref r, .ref wd]) H := MSt.start (n := 0) hN rd mw wa wb hw dom
    unfold rTakeLine tSeq tIfS
    refine len_textsG c s0.rd s0.s0 ?_
    rw [if_neg (by rw [decide_eq_true_eq, htx]; decide)]
    show tB (tE K (clK K) _ d1) _ H _
    refine tb_known s0.ok (h1 ws hws) fun H1 t1 => ?_
    have s1 := s0.step t1.1 rfl
    have dom1 : ∀ c, M c → H1 c ≠ none := fun c z e => dom c z (t1.1.dom c e)
    by_cases hF : isF ws = true
    · rw [if_pos hF] at hst ⊢
      exact call_step s1 (by decide) dom1 hst fun H' f1 f2 f3 => q H' f1 f2 f3
    · rw [if_neg hF] at hst ⊢
      show tB (tE K (clK K) _ d2) _ H1 _
      refine tb_known s1.ok (h2 ws hws) fun H2 t2 => ?_
      have s2 := s1.step t2.1 rfl
      have dom2 : ∀ c, M c → H2 c ≠ none := fun c z e => dom1 c z (t2.1.dom c e)
      by_cases hT : isT ws = true
      · rw [if_pos hT] at hst ⊢
        exact call_step s2 (by decide) dom2 hst fun H' f1 f2 f3 => q H' f1 f2 f3
      · rw [if_neg hT] at hst; cases hst
/-! ### __init__ -/
def spInit (K : PySem.W.Frag) : Sp := fun vs H Q E => ∃ (r dx : Addr), vs = [.ref r] ∧ H r = some (.ins (clA K 2) dx []) ∧ ∀ (a b : Addr) (H' : Hp), H a = none → H b = none → a ≠ b → (∀ c o, H c = some o → c ≠ r → H' c = some o) → (∀ c, H' c = none → H c = none) →
  H' r = some (.ins (clA K 2) dx [("fixes", .ref a), ("texts", .ref b), ("line", .int 0)]) → H' a = some (.lst []) → H' b = some (.lst []) → Q .non H'
def rInit (K : PySem.W.Frag) : TS := tSeq (sFld K (tVar 0) (tLst tNil) "fixes") (tSeq (sFld K (tVar 0) (tLst tNil) "texts") (tSeq (sFld K (tVar 0) (tC (.int 0)) "line") tNext))
theorem init_ok (F : FunD K x qual params body scope [] [] f fd) (S : FnScope N ["self"] scope) (fac : Facts T P w K mg base) (hob : T.ob 2 = true)
    (hP : ∀ X W, CtxS ⟨N, scope, fun _ => true⟩ T X → Takes X W → PSs X body (rInit X.K)) : FnOk P w K mg base (L2.CX P w) (T.k + 1) f fd ["self"] (spInit K) := by
  refine F.ok S (fun vs H Q E hs => by obtain ⟨_, _, rfl, _⟩ := hs; rfl) (fun cdv A outer st H vs Q E hr hs => ?_)
  obtain ⟨r, dx, rfl, e, q⟩ := hs
  have cx : CtxS ⟨N, scope, fun _ => true⟩ T (cxOf (L2.CX P w) P w K mg base N qual scope f cdv A outer st H E) := ⟨⟨rfl, rfl, S.nd, rfl, hr, fun _ _ => rfl, fac⟩, passes_of rfl, rfl, rfl, rfl⟩
  refine ⟨_, hP _ (fun cls d _ H => E cls d H) cx (takes_of rfl rfl rfl rfl), ?_⟩
  have c := fac.ob 2 hob
  have hs0 : (L2.start N [V.ref r])[0]? = some (some (.ref r)) := by unfold L2.start; rfl
  refine ⟨by decide, fun a ha => ?_⟩
  have nra : r ≠ a := fun z => by rw [z, ha] at e; cases e
  refine ⟨_, hs0, r, clA K 2, dx, [], rfl, by rw [upd_ne nra]; exact e, c.cls, c.noat _ (by decide), by decide, ?_⟩
  refine ⟨by decide, fun b hb => ?_⟩
  have hb0 : H b = none ∧ b ≠ a ∧ b ≠ r := by
    by_cases h1 : b = r
    · subst h1; rw [upd_same] at hb; cases hb
    · rw [upd_ne h1] at hb
      by_cases h2 : b = a
      · subst h2; rw [upd_same] at hb; cases hb
      · rw [upd_ne h2] at hb; exact ⟨hb, h2, h1⟩
  obtain ⟨hb1, hba, hbr⟩ := hb0
  refine ⟨_, hs0, r, clA K 2, dx, [("fixes", .ref a)], rfl, by rw [upd_ne hbr.symm, upd_same]; rfl, c.cls, c.noat _ (by decide), by show 1 < 1000; omega, ?_⟩
  refine ⟨_, hs0, r, clA K 2, dx, [("fixes", .ref a), ("texts", .ref b)], rfl, by rw [upd_same]; rfl, c.cls, c.noat _ (by decide), by show 2 < 1000; omega, ?_⟩
  refine q a b _ ha hb1 hba.symm (fun d o eo hd => ?_) (fun d ed => ?_) (by rw [upd_same]; rfl) ?_ ?_
  · rw [upd_ne hd, upd_ne hd, upd_ne (fun z => by rw [z, hb1] at eo; cases eo), upd_ne hd, upd_ne (fun z => by rw [z, ha] at eo; cases eo)]; exact eo
  · by_cases h1 : d = r
    · subst h1; rw [upd_same] at ed; cases ed
    · rw [upd_ne h1, upd_ne h1] at ed
      by_cases h2 : d = b
      · subst h2; rw [upd_same] at ed; cases ed
      · rw [upd_ne h2, upd_ne h1] at ed
        by_cases h3 : d = a
        · subst h3; rw [upd_same] at ed; cases ed
        · rw [upd_ne h3] at ed; exact ed
  · rw [upd_ne nra.symm, upd_ne nra.symm, upd_ne hba.symm, upd_ne nra.symm, upd_same]
  · rw [upd_ne hbr, upd_ne hbr, upd_same]
end
end Py
set_option maxRecDepth 100000
set_option maxHeartbeats 2000000
namespace Py
open PySem PySem.Spec PyProof.Rows L2

/-! ### the frame of read_paper -/
def gA (G : Gh) (a b : Addr) : Gh := ⟨fun c => G.mx c ∨ c = a ∨ c = b, G.ga⟩
theorem Ok.moreS {K : PySem.W.Frag} {G : Gh} {σ : L2.St} {H H' : Hp} {p : PS} {Z : Addr → Prop} (o : Ok K G σ H p) (s : Same H H') (hz : ∀ c, Z c → H c = none ∧ H' c ≠ none) : Ok K ⟨fun c => G.mx c ∨ Z c, G.ga⟩ σ H' p := by
  have mu : ∀ c, Mu ⟨fun c => G.mx c ∨ Z c, G.ga⟩ σ p.env c → Mu G σ p.env c ∨ H c = none := fun c z => by
    rcases z with (z | z) | z | z
    · exact .inl (.inl z)
    · exact .inr (hz c z).1
    · exact .inl (.inr (.inl z))
    · exact .inl (.inr (.inr z))
  refine ⟨o.len, fun i d h => ?_, fun i l z d h => ?_, o.inj, o.sr, fun c z => ?_, fun q e => ?_⟩
  · obtain ⟨v, h1, h2⟩ := o.sh i d h
    exact ⟨v, h1, Rep.mono K (fun a ob h _ => s a ob h) mu h2⟩
  · obtain ⟨c, h1, h2, h3, h4⟩ := o.ow i l z d h
    refine ⟨c, h1, h2.mono (fun a ob h _ => s a ob h) mu (fun ob h => s c ob h), ?_, h4⟩
    rintro (z | z)
    · exact h3 z
    · obtain ⟨ob, h2⟩ := h2.some_
      rw [(hz c z).1] at h2; cases h2
  · rcases z with z | z
    · cases q : H c with
      | none => exact absurd q (o.mx c z)
      | some ob => rw [s c ob q]; simp
    · exact (hz c z).2
  · obtain ⟨h1, h2, h3, h4, h5⟩ := o.ga q e
    refine ⟨h1, s _ _ h2, s _ _ h3, ?_, ?_⟩
    · rintro (z | z)
      · exact h4 z
      · rw [(hz _ z).1] at h2; cases h2
    · rintro (z | z)
      · exact h5 z
      · rw [(hz _ z).1] at h3; cases h3
structure RSt (K : PySem.W.Frag) (G : Gh) (src : List Int × Int) (Hb : Hp) (Mb : Addr → Prop) (r a b : Addr) (fx : Fxs) (tx : Txs) (env : List Sl) (σ : L2.St) (H : Hp) : Prop where
  ok : Ok K (gA G a b) σ H ⟨env, src⟩
  e1 : env[1]? = some (.own false true .bx)
  s1 : σ[1]? = some (some (.ref r))
  rd : RdrAt K (Mu (gA G a b) σ env) H r a b fx tx
  fr : ∀ c o, Hb c = some o → ¬ gaA G c → c ≠ r → c ≠ a → c ≠ b → H c = some o
  dom : ∀ c, H c = none → Hb c = none
  lm : ∀ c, Lm (gA G a b) σ env c → gaA G c ∨ Hb c = none
  mu : ∀ c, Mu (gA G a b) σ env c → Mb c ∨ Hb c = none
section
variable {K : PySem.W.Frag} {G : Gh} {src : List Int × Int} {Hb H H' H1 : Hp} {Mb : Addr → Prop} {r a b : Addr} {fx fx' : Fxs} {tx tx' : Txs} {env env' : List Sl} {σ σ' : L2.St}
theorem RSt.nr (s : RSt K G src Hb Mb r a b fx tx env σ H) : ¬ Lm (gA G a b) σ env r := by
  rintro (z | ⟨i, l, d, h1, h2⟩)
  · obtain ⟨c, k1, _, _, k2⟩ := s.ok.ow 1 _ _ _ s.e1
    rw [s.s1] at k1; cases k1
    exact k2 z
  · have := s.ok.inj _ _ _ _ _ _ _ _ _ h1 s.e1 h2 s.s1
    subst this
    have h1 : env[1]? = some (.own l false d) := h1
    rw [s.e1] at h1; cases h1
theorem RSt.step (s : RSt K G src Hb Mb r a b fx tx env σ H) (t : Stp K (gA G a b) σ ⟨env, src⟩ H σ' ⟨env', src⟩ H') (e1 : env'[1]? = some (.own false true .bx)) : RSt K G src Hb Mb r a b fx tx env' σ' H' := by
  obtain ⟨_, _, q1⟩ := t.lk 1 _ _ s.e1
  have s1 : σ'[1]? = some (some (.ref r)) := by rw [q1]; exact s.s1
  have na : ¬ Lm (gA G a b) σ env a := s.ok.mxL (.inr (.inl rfl))
  have nb : ¬ Lm (gA G a b) σ env b := s.ok.mxL (.inr (.inr rfl))
  have hr : H' r = H r := by obtain ⟨dx, n, e⟩ := s.rd.ob; rw [e]; exact t.fr _ _ e s.nr
  have ha : H' a = H a := by obtain ⟨xs, e, _⟩ := s.rd.ft; rw [e]; exact t.fr _ _ e na
  have hb : H' b = H b := by rw [s.rd.tt]; exact t.fr _ _ s.rd.tt nb
  refine ⟨t.ok, e1, s1, s.rd.mono (fun c o e n => t.fr c o e fun z => n z.mu) hr ha hb t.mu (.inr (.inr ⟨1, _, _, _, e1, s1⟩)) (.inl (.inr (.inl rfl))) (.inl (.inr (.inr rfl))), fun c o e h1 h2 h3 h4 => t.fr c o (s.fr c o e h1 h2 h3 h4) fun z => ?_, fun c e => s.dom c (t.dom c e), fun c z => ?_, fun c z => ?_⟩
  · rcases s.lm c z with z | z
    · exact h1 z
    · rw [e] at z; cases z
  · rcases t.lm c z with z | z
    · exact s.lm c z
    · exact .inr (s.dom c z)
  · rcases t.mu c z with z | z
    · exact s.mu c z
    · exact .inr (s.dom c z)
theorem RSt.grow (s : RSt K G src Hb Mb r a b fx tx env σ H) (g : Same H H') : RSt K G src Hb Mb r a b fx tx env σ H' := s.step (StpE.grow s.ok g).1 s.e1
/-- the reader is written -/
theorem RSt.chg (s : RSt K G src Hb Mb r a b fx tx env σ H) (fr : ∀ c o, H c = some o → c ≠ r → c ≠ a → c ≠ b → H' c = some o) (dom : ∀ c, H' c = none → H c = none) (rd : RdrAt K (Mu (gA G a b) σ env) H' r a b fx' tx') : RSt K G src Hb Mb r a b fx' tx' env σ H' := by
  have keep : ∀ c o, H c = some o → ¬ Mu (gA G a b) σ env c → H' c = some o := fun c o e n => fr c o e (fun z => n (by rw [z]; exact rd.mr)) (fun z => n (by rw [z]; exact rd.ma)) (fun z => n (by rw [z]; exact rd.mb))
  obtain ⟨_, k1, _, _, k2⟩ := s.ok.ow 1 _ _ _ s.e1
  rw [s.s1] at k1; cases k1
  have ok : Ok K (gA G a b) σ H' ⟨env, src⟩ := by
    refine ⟨s.ok.len, fun i d h => ?_, fun i l z d h => ?_, s.ok.inj, s.ok.sr, fun c z e => s.ok.mx c z (dom c e), fun q e => ?_⟩
    · obtain ⟨v, h1, h2⟩ := s.ok.sh i d h
      exact ⟨v, h1, Rep.mono K keep (fun _ z => .inl z) h2⟩
    · obtain ⟨c, h1, h2, h3, h4⟩ := s.ok.ow i l z d h
      refine ⟨c, h1, ?_, h3, h4⟩
      by_cases hi : i = 1
      · subst hi
        have h : env[1]? = some (.own l z d) := h
        rw [s.e1] at h; cases h
        rw [s.s1] at h1; cases h1
        obtain ⟨dx, n, e⟩ := rd.ob
        exact ⟨_, e⟩
      · refine h2.mono keep (fun _ z => .inl z) (fun o e => fr c o e (fun z => ?_) (fun z => h3 (.inr (.inl z))) (fun z => h3 (.inr (.inr z))))
        subst z
        exact hi (s.ok.inj _ _ _ _ _ _ _ _ _ h s.e1 h1 s.s1)
    · obtain ⟨h1, h2, h3, h4, h5⟩ := s.ok.ga q e
      have n1 : q.1 ≠ r := fun z => k2 ⟨q, e, .inl z.symm⟩
      have n2 : q.2 ≠ r := fun z => k2 ⟨q, e, .inr z.symm⟩
      exact ⟨h1, fr _ _ h2 n1 (fun z => h4 (.inr (.inl z))) (fun z => h4 (.inr (.inr z))), fr _ _ h3 n2 (fun z => h5 (.inr (.inl z))) (fun z => h5 (.inr (.inr z))), h4, h5⟩
  exact ⟨ok, s.e1, s.s1, rd, fun c o e h1 h2 h3 h4 => fr c o (s.fr c o e h1 h2 h3 h4) h2 h3 h4, fun c e => s.dom c (dom c e), s.lm, s.mu⟩
/-- reader.line = n -/
theorem RSt.line (s : RSt K G src Hb Mb r a b fx tx env σ H) {mg : Str → Option Value} (c : ClsC K mg 2) {tv : TE} {D : Ends} {n : Int} (hv : ∀ Q : VK, (∀ H1, RSt K G src Hb Mb r a b fx tx env σ H1 → Q (.int n) H1) → tv σ H Q)
    (k : ∀ H1, RSt K G src Hb Mb r a b fx tx env σ H1 → D.nx σ H1) : sFld K (tVar 1) tv "line" D σ H := by
  refine hv _ fun H1 s1 => ?_
  obtain ⟨dx, m, e⟩ := s1.rd.ob
  have x := s1.rd
  refine ⟨_, s1.s1, r, _, dx, _, rfl, e, c.cls, c.noat _ (by decide), by show 3 < 1000; omega, k _ (s1.chg (fun d o eo h1 _ _ => by rw [upd_ne h1]; exact eo) (fun d ed => ?_) ?_)⟩
  · by_cases h : d = r
    · subst h; rw [upd_same] at ed; cases ed
    · rw [upd_ne h] at ed; exact ed
  · obtain ⟨n1, n2⟩ := x.ra
    obtain ⟨xs, e1, e2⟩ := x.ft
    refine ⟨⟨dx, n, by rw [upd_same]; rfl⟩, ⟨xs, by rw [upd_ne n1.symm]; exact e1, RepL.mono K (fun d o eo nm => by rw [upd_ne (fun z => nm (by rw [z]; exact x.mr))]; exact eo) (fun _ z => .inl z) e2⟩, by rw [upd_ne n2.symm]; exact x.tt, x.mr, x.ma, x.mb, x.ab, x.fl, x.tl⟩
theorem RSt.join (s0 : RSt K G src Hb Mb r a b fx tx env σ H) (s : RSt K G src H (Mu (gA G a b) σ env) r a b fx' tx' env' σ' H') : RSt K G src Hb Mb r a b fx' tx' env' σ' H' where
  ok := s.ok
  e1 := s.e1
  s1 := s.s1
  rd := s.rd
  fr := fun c o e h1 h2 h3 h4 => s.fr c o (s0.fr c o e h1 h2 h3 h4) h1 h2 h3 h4
  dom := fun c e => s0.dom c (s.dom c e)
  lm := fun c z => (s.lm c z).imp id fun z => s0.dom c z
  mu := fun c z => (s.mu c z).elim (s0.mu c) fun z => .inr (s0.dom c z)
theorem RSt.base (s : RSt K G src Hb Mb r a b fx tx env σ H) (h : ∀ (i : Nat) (l : Bool) (d : D), env[i]? ≠ some (.own l false d)) : RSt K G src H (Mu (gA G a b) σ env) r a b fx tx env σ H where
  ok := s.ok
  e1 := s.e1
  s1 := s.s1
  rd := s.rd
  fr := fun _ _ e _ _ _ _ => e
  dom := fun _ e => e
  lm := fun c z => by
    rcases z with z | ⟨i, l, d, h1, _⟩
    · exact .inl z
    · exact absurd h1 (h i l d)
  mu := fun _ z => .inl z
/-- texts lists alone stay as they are told -/
theorem same_of {p : PS} (t : Stp K G σ p H σ p H') (o : Ok K G σ H p) (h : ∀ (i : Nat) (l : Bool) (d : D), p.env[i]? = some (.own l false d) → ∃ ws, d = .lst (strD ws)) : Same H H' := by
  intro c ob e
  by_cases hl : Lm G σ p.env c
  · rcases hl with ⟨q, hq, z⟩ | ⟨i, l, d, h1, h2⟩
    · obtain ⟨_, g1, g2, _⟩ := o.ga q hq
      obtain ⟨_, k1, k2, _⟩ := t.ok.ga q hq
      rcases z with rfl | rfl
      · rw [g1] at e; cases e; exact k1
      · rw [g2] at e; cases e; exact k2
    · obtain ⟨ws, rfl⟩ := h i l d h1
      obtain ⟨c1, g1, ⟨xs, g2, g3⟩, _⟩ := o.ow i l false _ h1
      obtain ⟨c2, k1, ⟨ys, k2, k3⟩, _⟩ := t.ok.ow i l false _ h1
      rw [h2] at g1 k1; cases g1; cases k1
      rw [repL_strD_inv g3] at g2
      rw [repL_strD_inv k3] at k2
      rw [g2] at e; cases e; exact k2
  · exact t.fr c ob e hl
end
end Py
set_option maxRecDepth 100000
set_option maxHeartbeats 2000000
namespace Py
open PySem PySem.Spec PyProof.Rows L2

def rE (x : List Nat) (s2 s3 s4 s5 : Sl) : List Sl := [.sh (.str x), .own false true .bx, s2, s3, s4, s5]
def rE0 (x : List Nat) (s1 s2 s3 s4 s5 : Sl) : List Sl := [.sh (.str x), s1, s2, s3, s4, s5]
section
variable {K : PySem.W.Frag} {G : Gh} {src : List Int × Int} {H0 H1 H2 : Hp} {x : List Nat} {σ : L2.St} {r dx a b : Addr}
/-- the reader is made -/
theorem RSt.init (o : Ok K G σ H1 ⟨rE0 x .no .no .no .no .no, src⟩) (hr : H1 r = none) (hd : H1 dx = none) (hne : dx ≠ r) (ha : (upd (upd H1 dx (.own r)) r (.ins (clA K 2) dx [])) a = none) (hb : (upd (upd H1 dx (.own r)) r (.ins (clA K 2) dx [])) b = none) (hab : a ≠ b)
    (fr : ∀ c o, (upd (upd H1 dx (.own r)) r (.ins (clA K 2) dx [])) c = some o → c ≠ r → H2 c = some o) (dom : ∀ c, H2 c = none → (upd (upd H1 dx (.own r)) r (.ins (clA K 2) dx [])) c = none)
    (h1 : H2 r = some (.ins (clA K 2) dx [("fixes", .ref a), ("texts", .ref b), ("line", .int 0)])) (h2 : H2 a = some (.lst [])) (h3 : H2 b = some (.lst [])) :
    RSt K G src H1 (Mu G σ (rE0 x .no .no .no .no .no)) r a b [] [] (rE x .no .no .no .no) (σ.set 1 (some (.ref r))) H2 := by
  have up : ∀ c, (upd (upd H1 dx (.own r)) r (.ins (clA K 2) dx [])) c = none → H1 c = none ∧ c ≠ r := fun c e => by
    by_cases e1 : c = r
    · subst e1; rw [upd_same] at e; cases e
    · rw [upd_ne e1] at e
      by_cases e2 : c = dx
      · subst e2; rw [upd_same] at e; cases e
      · rw [upd_ne e2] at e; exact ⟨e, e1⟩
  obtain ⟨ha1, har⟩ := up a ha
  obtain ⟨hb1, hbr⟩ := up b hb
  have sm : Same H1 H2 := fun c ob e => by
    have n1 : c ≠ r := fun z => by rw [z, hr] at e; cases e
    have n2 : c ≠ dx := fun z => by rw [z, hd] at e; cases e
    exact fr c ob (by rw [upd_ne n1, upd_ne n2]; exact e) n1
  have o2 := o.moreS (Z := fun c => c = a ∨ c = b ∨ c = r) sm (fun c z => by
    rcases z with rfl | rfl | rfl
    · exact ⟨ha1, by rw [h2]; simp⟩
    · exact ⟨hb1, by rw [h3]; simp⟩
    · exact ⟨hr, by rw [h1]; simp⟩)
  have o3 : Ok K ((gA G a b).more r) σ H2 ⟨rE0 x .no .no .no .no .no, src⟩ := o2.less rfl fun c z => by
    rcases z with (z | z | z) | z
    · exact .inl z
    · exact .inr (.inl z)
    · exact .inr (.inr (.inl z))
    · exact .inr (.inr (.inr z))
  have noown : ∀ {i : Nat} {l z : Bool} {d : D}, (rE0 x .no .no .no .no .no)[i]? = some (.own l z d) → False := fun {i l z d} h => by
    match i, h with
    | 0, h => cases h
    | 1, h => cases h
    | 2, h => cases h
    | 3, h => cases h
    | 4, h => cases h
    | 5, h => cases h
    | i + 6, h => cases h
  have nm : ¬ Mu (gA G a b) σ (rE0 x .no .no .no .no .no) r := by
    rintro ((z | z | z) | z | ⟨i, l, z, d, k, _⟩)
    · exact o.mx r z hr
    · exact har z.symm
    · exact hbr z.symm
    · obtain ⟨q, e, z⟩ := z
      obtain ⟨_, g1, g2, _⟩ := o.ga q e
      rcases z with z | z
      · rw [← z, hr] at g1; cases g1
      · rw [← z, hr] at g2; cases g2
    · exact noown k
  obtain ⟨o4, k2, k3, _⟩ := o3.putOw nm (i := 1) (d := .bx) (env' := rE0 x (.own false false .bx) .no .no .no .no) rfl ⟨_, h1⟩
  have o5 : Ok K (gA G a b) (σ.set 1 (some (.ref r))) H2 ⟨rE x .no .no .no .no, src⟩ := o4.zz (sameZ_set (i := 1) (l := false) (z := false) (z' := true) (d := .bx) rfl)
  have hlen : 1 < σ.length := by have := o.len; simp [rE0] at this; omega
  have s1 : (σ.set 1 (some (V.ref r)))[1]? = some (some (.ref r)) := by rw [List.getElem?_set_self hlen]
  have own1 : ∀ {i : Nat} {l z : Bool} {d : D}, (rE x .no .no .no .no)[i]? = some (.own l z d) → i = 1 ∧ z = true := fun {i l z d} h => by
    match i, h with
    | 0, h => cases h
    | 1, h => cases h; exact ⟨rfl, rfl⟩
    | 2, h => cases h
    | 3, h => cases h
    | 4, h => cases h
    | 5, h => cases h
    | i + 6, h => cases h
  refine ⟨o5, rfl, s1, ⟨⟨dx, 0, h1⟩, ⟨[], h2, .nil⟩, h3, .inr (.inr ⟨1, _, _, _, rfl, s1⟩), .inl (.inr (.inl rfl)), .inl (.inr (.inr rfl)), hab, by decide, by decide⟩, fun c ob e _ _ _ _ => sm c ob e, fun c e => (up c (dom c e)).1, fun c z => ?_, fun c z => ?_⟩
  · rcases z with z | ⟨i, l, d, k, _⟩
    · exact .inl z
    · have := (own1 k).2
      cases this
  · rcases z with (z | z | z) | z | ⟨i, l, z, d, k, k4⟩
    · exact .inl (.inl z)
    · subst z; exact .inr ha1
    · subst z; exact .inr hb1
    · exact .inl (.inr (.inl z))
    · obtain ⟨rfl, _⟩ := own1 k
      rw [s1] at k4; cases k4
      exact .inr hr
end
/-! ### what is read -/
def rdLines (okL : List Nat → Bool) (wordsIn : List Nat → Txs) (stp : StpT) : List (List Nat) → Fxs × Txs → Option (Fxs × Txs)
  | [], st => some st
  | l :: ls, st => if okL l = true then (if wordsIn l = [] then rdLines okL wordsIn stp ls st else match stp (wordsIn l) st.1 st.2 with
    | some st' => rdLines okL wordsIn stp ls st'
    | none => none) else none
def rdPaper (okX okL : List Nat → Bool) (linesOf : List Nat → List (List Nat)) (wordsIn : List Nat → Txs) (stp : StpT) (x : List Nat) : Option (Fxs × List Nat) := if okX x = true then (match rdLines okL wordsIn stp (linesOf x) ([], []) with
  | some (fx, [t]) => some (fx, t)
  | _ => none) else none
def rBody (K : PySem.W.Frag) (cl : Nat → Addr) (W : WX) (d4 : SDn) (d5 : Dn) (stp : StpT) : TS :=
  tSeq (sFld K (tVar 1) (tVar 3) "line") (tSeq (tS K cl W d4) (tSeq (tIfS (tB (tE K cl W d5)) (tSeq (tDrop (tMeth (clA K 2) "take_line" (spStep K stp) [] noE (tVar 1) (tCons (tVar 5) tNil))) tNext) tNext) tNext))
section
variable {K : PySem.W.Frag} {G : Gh} {src : List Int × Int} {H0 Hb H H1 H2 : Hp} {Mb : Addr → Prop} {x : List Nat} {σ : L2.St} {r a b : Addr} {fx fx' : Fxs} {tx tx' : Txs} {mg : Str → Option Value} {cl : Nat → Addr} {W : WX}
/-- one line -/
theorem body_run (c : ClsC K mg 2) {okL : List Nat → Bool} {wordsIn : List Nat → Txs} {stp : StpT} {d4 : SDn} {d5 : Dn} {ls : List (List Nat)}
    (h4 : ∀ (i : Nat) (l : List Nat) s5, okL l = true → (s5 = .no ∨ ∃ ws, s5 = .own false false (.lst (strD ws))) → d4 ⟨rE x (.own false true (.lst (strD ls))) (.sh (.int i)) (.sh (.str l)) s5, src⟩ = .nx ⟨rE x (.own false true (.lst (strD ls))) (.sh (.int i)) (.sh (.str l)) (.own false false (.lst (strD (wordsIn l)))), src⟩)
    (h5 : ∀ (i : Nat) (l : List Nat) ws, d5 ⟨rE x (.own false true (.lst (strD ls))) (.sh (.int i)) (.sh (.str l)) (.own false false (.lst (strD ws))), src⟩ = .ok (.sh (.bl (decide (ws ≠ [])))) ⟨rE x (.own false true (.lst (strD ls))) (.sh (.int i)) (.sh (.str l)) (.own false false (.lst (strD ws))), src⟩)
    {i : Nat} {l : List Nat} {s5 : Sl} (hs5 : s5 = .no ∨ ∃ ws, s5 = .own false false (.lst (strD ws))) (hl : okL l = true)
    (hst : (if wordsIn l = [] then some (fx, tx) else stp (wordsIn l) fx tx) = some (fx', tx'))
    (s : RSt K G src Hb Mb r a b fx tx (rE x (.own false true (.lst (strD ls))) (.sh (.int i)) (.sh (.str l)) s5) σ H) {D : Ends}
    (k : ∀ σ2 H2, RSt K G src Hb Mb r a b fx' tx' (rE x (.own false true (.lst (strD ls))) (.sh (.int i)) (.sh (.str l)) (.own false false (.lst (strD (wordsIn l))))) σ2 H2 → D.nx σ2 H2) : rBody K cl W d4 d5 stp D σ H := by
  unfold rBody tSeq tIfS
  refine s.line c (n := (i : Int)) (fun Q hq => ?_) fun H1 s1 => ?_
  · obtain ⟨v, g1, g2⟩ := s.ok.sh 3 (.int i) rfl
    cases g2
    exact ⟨_, g1, hq H s⟩
  · show tS K cl W d4 _ σ H1
    refine ts_known s1.ok (h4 i l s5 hl hs5) fun σ2 H2 t2 => ?_
    have s2 := s1.step t2 rfl
    show tB (tE K cl W d5) σ2 H2 _
    refine tb_known s2.ok (h5 i l (wordsIn l)) fun H3 t3 => ?_
    have s3 := s2.step t3.1 rfl
    by_cases hw : wordsIn l = []
    · rw [if_pos hw] at hst
      cases hst
      rw [if_neg (by rw [decide_eq_true_eq]; exact fun z => z hw)]
      exact k σ2 H3 s3
    · rw [if_neg hw] at hst
      rw [if_pos (by rw [decide_eq_true_eq]; exact hw)]
      obtain ⟨dx, n, e⟩ := s3.rd.ob
      obtain ⟨w, g1, ⟨xs, g2, g3⟩, g4, g5⟩ := s3.ok.ow 5 false false _ rfl
      rw [repL_strD_inv g3] at g2
      refine ⟨_, s3.s1, r, dx, _, rfl, e, rfl, _, g1, Mu (gA G a b) σ2 _, r, a, b, w, wordsIn l, fx, tx, fx', tx', rfl, s3.rd, .inr (.inr ⟨5, _, _, _, rfl, g1⟩), fun z => g4 (.inr (.inl z)), fun z => g4 (.inr (.inr z)), g2, fun d z => s3.ok.dom z, hst, fun H' f1 f2 f3 => ?_⟩
      exact k σ2 H' (s3.chg (fun d o eo _ h2 h3 => f1 d o eo h2 h3) f2 f3)
end
end Py
set_option maxRecDepth 100000
set_option maxHeartbeats 2000000
namespace Py
open PySem PySem.Spec PyProof.Rows L2

def shv (s : Sl) : Prop := s = .no ∨ ∃ d, s = .sh d
def wdv (s : Sl) : Prop := s = .no ∨ ∃ ws, s = .own false false (.lst (strD ws))
abbrev lkL (ls : List (List Nat)) : Sl := .own false true (.lst (strD ls))
section
variable {K : PySem.W.Frag} {G : Gh} {src : List Int × Int} {H0 Hb H H1 H2 : Hp} {Mb : Addr → Prop} {x : List Nat} {σ : L2.St} {r a b : Addr} {fx fx' : Fxs} {tx tx' : Txs} {mg : Str → Option Value} {cl : Nat → Addr} {W : WX}
theorem loop_run (c : ClsC K mg 2) {okL : List Nat → Bool} {wordsIn : List Nat → Txs} {stp : StpT} {d4 : SDn} {d5 : Dn} {ls : List (List Nat)} {di : PS → R Iv} {is : List Nat} {g : Tgd} {fxE : Fxs} {txE : Txs}
    (hi : di ⟨rE0 x .no (.own false false (.lst (strD ls))) .no .no .no, src⟩ = .ok ⟨some 2, enumL (strD ls)⟩ ⟨rE0 x .no (.own false false (.lst (strD ls))) .no .no .no, src⟩)
    (hg : ∀ (i : Int) (l : List Nat) s3 s4 s5, shv s3 → shv s4 → g (.tup [.int i, .str l]) (rE x (lkL ls) s3 s4 s5) = some (rE x (lkL ls) (.sh (.int i)) (.sh (.str l)) s5))
    (h4 : ∀ (i : Nat) (l : List Nat) s5, okL l = true → wdv s5 → d4 ⟨rE x (lkL ls) (.sh (.int i)) (.sh (.str l)) s5, src⟩ = .nx ⟨rE x (lkL ls) (.sh (.int i)) (.sh (.str l)) (.own false false (.lst (strD (wordsIn l)))), src⟩)
    (h5 : ∀ (i : Nat) (l : List Nat) ws, d5 ⟨rE x (lkL ls) (.sh (.int i)) (.sh (.str l)) (.own false false (.lst (strD ws))), src⟩ = .ok (.sh (.bl (decide (ws ≠ [])))) ⟨rE x (lkL ls) (.sh (.int i)) (.sh (.str l)) (.own false false (.lst (strD ws))), src⟩)
    (hrd : rdLines okL wordsIn stp ls (fx, tx) = some (fxE, txE)) (s : RSt K G src Hb Mb r a b fx tx (rE x (.own false false (.lst (strD ls))) .no .no .no) σ H) {D : Ends}
    (k : ∀ σ2 H2 s3 s4 s5, RSt K G src Hb Mb r a b fxE txE (rE x (lkL ls) s3 s4 s5) σ2 H2 → wdv s5 → D.nx σ2 H2) : tFor (tI K cl W di) (tG K is g) (rBody K cl W d4 d5 stp) D σ H := by
  obtain ⟨oB, _, _⟩ := s.ok.give (i := 1) (z := true) (d := .bx) s.e1 s.s1
  have oB : Ok K ((gA G a b).more r) σ H ⟨rE0 x .no (.own false false (.lst (strD ls))) .no .no .no, src⟩ := oB
  refine ⟨(gA G a b).more r, ⟨rE0 x .no (.own false false (.lst (strD ls))) .no .no .no, src⟩, oB, ?_⟩
  rw [hi]
  intro J H1 s1 w
  have sm : Same H H1 := same_of s1.1 oB fun i l d h => by
    match i, h with
    | 0, h => cases h
    | 1, h => cases h
    | 2, h => cases h; exact ⟨ls, rfl⟩
    | 3, h => cases h
    | 4, h => cases h
    | 5, h => cases h
    | i + 6, h => cases h
  have sA := s.grow sm
  have tL := stp_lock (z := some 2) sA.ok
  have sL : RSt K G src Hb Mb r a b fx tx (rE x (lkL ls) .no .no .no) σ H1 := sA.step tL rfl
  have sb := sL.base fun i l d h => by
    match i, h with
    | 0, h => cases h
    | 1, h => cases h
    | 2, h => cases h
    | 3, h => cases h
    | 4, h => cases h
    | 5, h => cases h
    | i + 6, h => cases h
  have hlen : (enumL (strD ls)).length = ls.length := by rw [enumL_len]; unfold strD; rw [List.length_map]
  refine ⟨fun i m σ' H' => m = ls.length - i ∧ i ≤ ls.length ∧ ∃ fx2 tx2 s3 s4 s5, shv s3 ∧ shv s4 ∧ wdv s5 ∧ RSt K G src H1 (Mu (gA G a b) σ (rE x (lkL ls) .no .no .no)) r a b fx2 tx2 (rE x (lkL ls) s3 s4 s5) σ' H' ∧ rdLines okL wordsIn stp (ls.drop i) (fx2, tx2) = some (fxE, txE),
    ⟨_, rfl, Nat.zero_le _, fx, tx, .no, .no, .no, .inl rfl, .inl rfl, .inl rfl, sb, by rw [List.drop_zero]; exact hrd⟩, ?_⟩
  rintro i m σ' H' ⟨rfl, hil, fx2, tx2, s3, s4, s5, q3, q4, q5, st, hr⟩
  obtain ⟨w1, w2, w3⟩ := w (Mu (gA G a b) σ' (rE x (lkL ls) s3 s4 s5)) H' (fun d o e n1 n2 => st.fr d o e (fun z => n1 (.inl z)) (fun z => n2 (.inr z)) (fun z => n2 (.inl (.inr (.inl z)))) (fun z => n2 (.inl (.inr (.inr z))))) (fun d z => by
    rcases st.mu d z with z | z
    · refine .inl ?_
      rcases z with z | z | ⟨j, l, zz, e, h1, h2⟩
      · exact .inl (.inl z)
      · exact .inr (.inl z)
      · match j, h1 with
        | 0, h1 => cases h1
        | 1, h1 =>
          rw [sL.s1] at h2; cases h2
          exact .inl (.inr rfl)
        | 2, h1 => exact .inr (.inr ⟨2, _, _, _, rfl, h2⟩)
        | 3, h1 => cases h1
        | 4, h1 => cases h1
        | 5, h1 => cases h1
        | j + 6, h1 => cases h1
    · exact .inr z) (fun d z => st.ok.dom z)
  by_cases hlt : i < ls.length
  · refine .inr ⟨w1 i (by rw [hlen]; exact hlt), fun σ2 H2 => ∃ fx2 tx2 s3 s4 s5, shv s3 ∧ shv s4 ∧ wdv s5 ∧ RSt K G src H1 (Mu (gA G a b) σ (rE x (lkL ls) .no .no .no)) r a b fx2 tx2 (rE x (lkL ls) s3 s4 s5) σ2 H2 ∧ rdLines okL wordsIn stp (ls.drop (i + 1)) (fx2, tx2) = some (fxE, txE), fun σ2 H2 z => ⟨_, by omega, rfl, hlt, z⟩, fun v H3 y => ?_⟩
    obtain ⟨d, hd, sm3, rd⟩ := w3 i v H3 (by rw [hlen]; exact hlt) y
    rw [List.drop_eq_getElem_cons hlt] at hr
    generalize hle : ls[i] = l at hr
    have hd2 : d = .tup [.int (i : Nat), .str l] := by
      have : (strD ls)[i]? = some (.str l) := by unfold strD; rw [List.getElem?_map, List.getElem?_eq_getElem hlt, hle]; rfl
      have := enumL_get this
      rw [this] at hd
      exact (Option.some.inj hd).symm
    subst hd2
    unfold rdLines at hr
    split at hr
    · rename_i hok
      have sG := st.grow sm3
      refine ⟨gA G a b, ⟨rE x (lkL ls) s3 s4 s5, src⟩, _, _, sG.ok, rd, hg i l s3 s4 s5 q3 q4, fun σ2 t2 _ _ => ?_⟩
      have s2 := sG.step t2 rfl
      by_cases hw : wordsIn l = []
      · rw [if_pos hw] at hr
        exact body_run c h4 h5 q5 hok (by rw [if_pos hw]) s2 fun σ5 H5 s5' => ⟨fx2, tx2, _, _, _, .inr ⟨_, rfl⟩, .inr ⟨_, rfl⟩, .inr ⟨_, rfl⟩, s5', hr⟩
      · rw [if_neg hw] at hr
        cases e : stp (wordsIn l) fx2 tx2 with
        | none => rw [e] at hr; cases hr
        | some q =>
          rw [e] at hr
          exact body_run (fx' := q.1) (tx' := q.2) c h4 h5 q5 hok (by rw [if_neg hw]; exact e) s2 fun σ5 H5 s5' => ⟨q.1, q.2, _, _, _, .inr ⟨_, rfl⟩, .inr ⟨_, rfl⟩, .inr ⟨_, rfl⟩, s5', hr⟩
    · cases hr
  · have hi' : i = ls.length := by omega
    rw [hi', List.drop_length] at hr
    cases hr
    exact .inl ⟨by rw [hi', ← hlen]; exact w2, k σ' H' s3 s4 s5 (sL.join st) q5⟩
end
end Py
set_option maxRecDepth 100000
set_option maxHeartbeats 2000000
namespace Py
open PySem PySem.Spec PyProof.Rows L2

abbrev rTupOf (K : PySem.W.Frag) : List V → Hp → VK → Prop := fun xs H Q => ∃ p ys, xs = [.ref p] ∧ ((SqL K H p ys ∧ ∀ l, H l = none → Q (.ref l) (upd H l (.tup ys))) ∨ (SqT K H p ys ∧ Q (.ref p) H))
def rRead (K : PySem.W.Frag) (cl : Nat → Addr) (W : WX) (d0 : Dn) (d3 : SDn) (di : PS → R Iv) (is : List Nat) (g : Tgd) (d4 : SDn) (d5 d6 : Dn) (stp : StpT) : TS :=
  tSeq (tIfS (tB (tE K cl W d0)) tNever tNext) (tSeq (tAsg (tMake (clA K 2) (spInit K) [] noE tNil) (gName 1)) (tSeq (tS K cl W d3) (tSeq (tFor (tI K cl W di) (tG K is g) (rBody K cl W d4 d5 stp))
    (tSeq (sFld K (tVar 1) (tE K cl W d6) "line") (tSeq (tIfS (tTest (tOp rEq (rLenB K 1 "texts") (tC (.int 0)))) tNever tNext)
      (tSeq (tRet (tTup (tCons (tCB (rTupOf K) (tCons (tFld K (tVar 1) "fixes") tNil)) (tCons (tOp (rIx K) (tFld K (tVar 1) "texts") (tC (.int 0))) tNil)))) tNext))))))
def semRead (rd : List Nat → Option (Fxs × List Nat)) (args : List Sl) (src : List Int × Int) : FR := match args with
  | [.sh (.str x)] => match rd x with
    | some (fx, t) => .ok false (.tup [.tup (fx.map fixD), .str t]) args src
    | none => .bad
  | _ => .bad
theorem semRead_cases (rd : List Nat → Option (Fxs × List Nat)) (args : List Sl) (src : List Int × Int) : semRead rd args src = .bad ∨ ∃ x fx t, args = [.sh (.str x)] ∧ rd x = some (fx, t) := by
  unfold semRead
  split
  · rename_i x
    cases e : rd x with
    | none => exact .inl rfl
    | some q => exact .inr ⟨x, q.1, q.2, rfl, e⟩
  · exact .inl rfl
section
variable {P : Program} {w : World} {K : PySem.W.Frag} {mg : Str → Option Value} {base : Heap} {nx qual : Str} {params : Arguments} {body : List Stmt} {scope : Scope} {f : Addr} {fd : FuncData} {T : Tab} {N : List Str}
theorem read_ok (F : FunD K nx qual params body scope [] [] f fd) (Sc : FnScope N ["text"] scope) (hN : N.length = 6) (fac : Facts T P w K mg base) (hob : T.ob 2 = true) (j : Nat) {d0 : Dn} {d3 : SDn} {di : PS → R Iv} {is : List Nat} {g : Tgd} {d4 : SDn} {d5 d6 : Dn} {stp : StpT}
    {okX okL : List Nat → Bool} {linesOf : List Nat → List (List Nat)} {wordsIn : List Nat → Txs}
    (hP : ∀ X W, CtxS ⟨N, scope, fun _ => true⟩ T X → X.K = K → X.prog = P → X.w = w → X.mg = mg → X.base = base → Room (T.k + j) X.A → Takes X W → PSs X body (rRead X.K (clK X.K) W d0 d3 di is g d4 d5 d6 stp))
    (h0 : ∀ x src, okX x = true → d0 ⟨rE0 x .no .no .no .no .no, src⟩ = .ok (.sh (.bl false)) ⟨rE0 x .no .no .no .no .no, src⟩)
    (h3 : ∀ x src, okX x = true → d3 ⟨rE x .no .no .no .no, src⟩ = .nx ⟨rE x (.own false false (.lst (strD (linesOf x)))) .no .no .no, src⟩)
    (hi : ∀ x ls src, di ⟨rE0 x .no (.own false false (.lst (strD ls))) .no .no .no, src⟩ = .ok ⟨some 2, enumL (strD ls)⟩ ⟨rE0 x .no (.own false false (.lst (strD ls))) .no .no .no, src⟩)
    (hg : ∀ x ls (i : Int) (l : List Nat) s3 s4 s5, shv s3 → shv s4 → g (.tup [.int i, .str l]) (rE x (lkL ls) s3 s4 s5) = some (rE x (lkL ls) (.sh (.int i)) (.sh (.str l)) s5))
    (h4 : ∀ x ls src (i : Nat) (l : List Nat) s5, okL l = true → wdv s5 → d4 ⟨rE x (lkL ls) (.sh (.int i)) (.sh (.str l)) s5, src⟩ = .nx ⟨rE x (lkL ls) (.sh (.int i)) (.sh (.str l)) (.own false false (.lst (strD (wordsIn l)))), src⟩)
    (h5 : ∀ x ls src (i : Nat) (l : List Nat) ws, d5 ⟨rE x (lkL ls) (.sh (.int i)) (.sh (.str l)) (.own false false (.lst (strD ws))), src⟩ = .ok (.sh (.bl (decide (ws ≠ [])))) ⟨rE x (lkL ls) (.sh (.int i)) (.sh (.str l)) (.own false false (.lst (strD ws))), src⟩)
    (h6 : ∀ x ls src s3 s4 s5, d6 ⟨rE x (lkL ls) s3 s4 s5, src⟩ = .ok (.sh (.int (ls.length : Nat))) ⟨rE x (lkL ls) s3 s4 s5, src⟩) :
    FnOk P w K mg base (L2.CX P w) (T.k + j + 1) f fd ["text"] (spF K (clK K) 1 (semRead (rdPaper okX okL linesOf wordsIn stp))) := by
  refine F.ok Sc (fun vs H Q E hs => hs.1) (fun cdv A outer st H vs Q E hr hs => ?_)
  obtain ⟨hl, G, args, src, c0, hs⟩ := hs
  have hr2 : Room T.k (A.deeper (envOfC qual scope st.heap.objs.size f cdv)) := hr.mono (Nat.le_add_right _ _)
  have cx : CtxS ⟨N, scope, fun _ => true⟩ T (cxOf (L2.CX P w) P w K mg base N qual scope f cdv A outer st H E) := ⟨⟨rfl, rfl, Sc.nd, rfl, hr2, fun _ _ => rfl, fac⟩, passes_of rfl, rfl, rfl, rfl⟩
  refine ⟨_, hP _ (fun cls d _ H => E cls d H) cx rfl rfl rfl rfl rfl hr (takes_of rfl rfl rfl rfl), ?_⟩
  have c := fac.ob 2 hob
  have ha : ∃ x fx t, args = [.sh (.str x)] ∧ rdPaper okX okL linesOf wordsIn stp x = some (fx, t) := by
    rcases semRead_cases (rdPaper okX okL linesOf wordsIn stp) args src with e | e
    · rw [e] at hs; exact hs.elim
    · exact e
  obtain ⟨x, fx, t, rfl, hrd⟩ := ha
  have hs : ∀ u H', BackOk K G H vs [.sh (.str x)] [.sh (.str x)] src H' → Rep K (Ma G vs [.sh (.str x)]) H' u (.tup [.tup (fx.map fixD), .str t]) → Q u H' := by
    have e : semRead (rdPaper okX okL linesOf wordsIn stp) [.sh (.str x)] src = .ok false (.tup [.tup (fx.map fixD), .str t]) [.sh (.str x)] src := by
      unfold semRead
      simp only [hrd]
    rw [e] at hs
    exact hs
  unfold rdPaper at hrd
  split at hrd
  · rename_i hx
    have hrl : rdLines okL wordsIn stp (linesOf x) ([], []) = some (fx, [t]) := by
      split at hrd
      · rename_i e; cases hrd; exact e
      · cases hrd
    have o0 := entry_ok (N := N) c0 (by rw [hN]; show 1 ≤ 6; omega)
    have ee : ([Sl.sh (.str x)] ++ List.replicate (N.length - [Sl.sh (.str x)].length) Sl.no) = rE0 x .no .no .no .no .no := by rw [hN]; rfl
    rw [ee] at o0
    generalize hσ : L2.start N vs = σ0 at o0 ⊢
    unfold rRead
    unfold tSeq tIfS
    refine tb_known o0 (h0 x src hx) fun H1 t1 => ?_
    rw [if_neg Bool.false_ne_true]
    show tAsg (tMake (clA K 2) (spInit K) [] noE tNil) (gName 1) _ σ0 H1
    intro r dx hr1 hd1 hne
    refine ⟨r, dx, rfl, by rw [upd_same], fun a b H2 ha hb hab f1 f2 f3 f4 f5 => ⟨rfl, ?_⟩⟩
    have s2 := RSt.init (src := src) t1.ok hr1 hd1 hne ha hb hab f1 f2 f3 f4 f5
    have fr1 : ∀ d o, H d = some o → ¬ gaA G d → H1 d = some o := fun d o e n => t1.1.fr d o e fun z => by
      rcases z with z | ⟨i, l, d, k, _⟩
      · exact n z
      · match i, k with
        | 0, k => cases k
        | 1, k => cases k
        | 2, k => cases k
        | 3, k => cases k
        | 4, k => cases k
        | 5, k => cases k
        | i + 6, k => cases k
    show tS K (clK K) _ d3 _ _ H2
    refine ts_known s2.ok (h3 x src hx) fun σ3 H3 t3 => ?_
    have s3 := s2.step t3 rfl
    show tFor (tI K (clK K) _ di) (tG K is g) (rBody K (clK K) _ d4 d5 stp) _ σ3 H3
    refine loop_run c (hi x _ src) (hg x _) (h4 x _ src) (h5 x _ src) hrl s3 fun σ4 H4 a3 a4 a5 s4 q5 => ?_
    show sFld K (tVar 1) (tE K (clK K) _ d6) "line" _ σ4 H4
    refine s4.line c (n := ((linesOf x).length : Nat)) (fun Q' hq => te_known s4.ok (h6 x _ src a3 a4 a5) fun u H' t5 r5 => ?_) fun H5 s5 => ?_
    · cases r5
      exact hq H' (s4.step t5.1 rfl)
    · show tTest (tOp rEq (rLenB K 1 "texts") (tC (.int 0))) σ4 H5 _
      refine len_textsE c s5.rd s5.s1 ?_
      rw [if_neg (by rw [decide_eq_true_eq]; simp)]
      show tTup (tCons (tCB (rTupOf K) (tCons (tFld K (tVar 1) "fixes") tNil)) (tCons (tOp (rIx K) (tFld K (tVar 1) "texts") (tC (.int 0))) tNil)) σ4 H5 Q
      unfold tTup tCons tCB
      refine fld_fixes c s5.rd s5.s1 ?_
      obtain ⟨xs, e1, e2⟩ := s5.rd.ft
      refine ⟨a, xs, rfl, .inl ⟨.inl (.inl e1), fun l hl => ?_⟩⟩
      have s6 := s5.grow (same_upd (o := .tup xs) hl)
      show tOp (rIx K) (tFld K (tVar 1) "texts") (tC (.int 0)) σ4 _ _
      refine fld_texts c s6.rd s6.s1 ?_
      refine .inl ⟨b, _, 0, .str (S t), rfl, rfl, .inl (.inl s6.rd.tt), rfl, ?_⟩
      refine ⟨by rw [sizeLine_eq]; show 2 ≤ 16777216; omega, fun p hp => ?_⟩
      have s7 := s6.grow (same_upd (o := .tup [.ref l, .str (S t)]) hp)
      have hfr : ∀ d o, H d = some o → ¬ gaA G d → (upd (upd H5 l (.tup xs)) p (.tup [.ref l, .str (S t)])) d = some o := fun d o e n => by
        have e1 := fr1 d o e n
        refine s7.fr d o e1 n ?_ ?_ ?_
        · intro z; rw [z, hr1] at e1; cases e1
        · intro z
          have : H1 a = none := by
            by_cases z1 : a = r
            · rw [z1]; exact hr1
            · rw [upd_ne z1] at ha
              by_cases z2 : a = dx
              · rw [z2]; exact hd1
              · rw [upd_ne z2] at ha; exact ha
          rw [z, this] at e1; cases e1
        · intro z
          have : H1 b = none := by
            by_cases z1 : b = r
            · rw [z1]; exact hr1
            · rw [upd_ne z1] at hb
              by_cases z2 : b = dx
              · rw [z2]; exact hd1
              · rw [upd_ne z2] at hb; exact hb
          rw [z, this] at e1; cases e1
      have hdom : ∀ d, (upd (upd H5 l (.tup xs)) p (.tup [.ref l, .str (S t)])) d = none → H d = none := fun d e => t1.1.dom d (s7.dom d e)
      have back : BackOk K G H vs [.sh (.str x)] [.sh (.str x)] src (upd (upd H5 l (.tup xs)) p (.tup [.ref l, .str (S t)])) := by
        refine ⟨fun d o e n => hfr d o e fun z => n (.inl z), hdom, .refl _, fun i l0 z0 d0 a0 k _ => ?_, fun q e => ?_⟩
        · match i, k with
          | 0, k => cases k
          | i + 1, k => cases k
        · obtain ⟨_, g1, g2, _⟩ := s7.ok.ga q e
          exact ⟨g1, g2⟩
      have mdom : ∀ d, Ma G vs [.sh (.str x)] d → H d ≠ none := fun d z => by
        rcases z with z | ⟨q, e, z⟩ | ⟨i, l0, z0, d0, k, _⟩
        · exact c0.mx d z
        · obtain ⟨_, g1, g2, _⟩ := c0.ga q e
          rcases z with rfl | rfl
          · rw [g1]; simp
          · rw [g2]; simp
        · match i, k with
          | 0, k => cases k
          | i + 1, k => cases k
      have h5n : ∀ d, H5 d = none → H d = none := fun d e => t1.1.dom d (s5.dom d e)
      have h6n : ∀ d, (upd H5 l (.tup xs)) d = none → H d = none := fun d e => t1.1.dom d (s6.dom d e)
      have hpl : l ≠ p := fun z => by rw [← z, upd_same] at hp; cases hp
      have hla : a ≠ l := fun z => by rw [z] at e1; rw [e1] at hl; cases hl
      have hpa : a ≠ p := fun z => by rw [← z, upd_ne hla, e1] at hp; cases hp
      have hlx : (upd (upd H5 l (.tup xs)) p (.tup [.ref l, .str (S t)])) l = some (.tup xs) := by rw [upd_ne hpl, upd_same]
      have hrx : RepL K (Ma G vs [.sh (.str x)]) (upd (upd H5 l (.tup xs)) p (.tup [.ref l, .str (S t)])) xs (fx.map fixD) := by
        obtain ⟨ys, k1, k2⟩ := s7.rd.ft
        rw [upd_ne hpa, upd_ne hla, e1] at k1
        cases k1
        refine RepL.mono K (fun _ _ e _ => e) (fun d z => .inl ?_) k2
        rcases z with z | z | ⟨i, l0, z0, d0, k, _⟩
        · exact .inl (.inl z)
        · exact .inr (.inl z)
        · match i, k with
          | 0, k => cases k
          | i + 1, k => cases k
      exact hs _ _ back (.tup (.inl ⟨.inl (by rw [upd_same]), fun z => mdom p z (h6n p hp)⟩) (.cons (.tup (.inl ⟨.inl hlx, fun z => mdom l z (h5n l hl)⟩) hrx) (.cons .str .nil)))
  · cases hrd
end
end Py
set_option maxRecDepth 100000
set_option maxHeartbeats 2000000
namespace Py
open PySem PySem.Spec PyProof.Rows L2

section
variable {s : Sx} {T : Tab} {X : Cx} {W : WX} {sc : Scope}
theorem pvar (c : CtxOk s T X) (i : Nat) {x : Str} {pos : Pos} (hN : s.N[i]? = some x) (hv : visB s.sc x = true) (hd : (x == ("__debug__" : Str)) = false := by decide) (hcd : (x == ("__classdict__" : Str)) = false := by decide) : PE X (.Name x pos) (tVar i) :=
  pe_var (i := i) (by rw [c.N]; exact hN) (by rw [c.sc]; exact vis_of hv) hd hcd
theorem pset (c : CtxOk s T X) (i : Nat) {x : Str} {e : Expr} {te : TE} {q pos : Pos} (hN : s.N[i]? = some x) (hl : locB s x = true) (he : PE X e te) (hs : swapsWith e (some (.Name x q)) pos.line X.env = pure false) : L2.PS X (.Assign [.Name x q] e pos) (tAsg te (gName i)) := by
  obtain ⟨h1, h2⟩ := loc_of c hl
  exact ps_set (i := i) (by rw [c.N]; exact c.nd) (by rw [c.N]; exact hN) h1 he hs h2
theorem pss_takeFix {c1 c3 : Expr} {st2 : Stmt} {x1 x3 x4 : List Stmt} {d1 d3 : Dn} {d2 : SDn} {q1 q3 q4 l1 l2 l3 l4 l5 l6 m1 m2 m3 m4 m5 m6 : Pos} (c : CtxS s T X) (tk : Takes X W) (hN : s.N[0]? = some ("self" : Str)) (hN2 : s.N[2]? = some ("fix" : Str)) (hv : visB s.sc "self" = true) (hv2 : visB s.sc "fix" = true) (hg : glB s.sc "len" = true) (hf : T.free "len" = true) (hC : T.con "MOST_FIXES" = some (.int 5)) (hgC : glB s.sc "MOST_FIXES" = true)
    (v1 : VT s T c1 d1) (v2 : VS s T st2 d2) (v3 : VT s T c3 d3) (hline : (m3.endLine == m5.line) = true) :
    PSs X (.If c1 x1 [] q1 :: st2 :: .If c3 x3 [] q3 :: .If (.Compare (.Call (.Name "len" l1) [.Attribute (.Name "self" l2) "fixes" l3] [] l4) [.Eq] [.Name "MOST_FIXES" l5] l6) x4 [] q4 :: [.Expr (.Call (.Attribute (.Attribute (.Name "self" m1) "fixes" m2) "append" m3) [.Name "fix" m4] [] m5) m6])
      (rTakeFix X.K (clK X.K) W d1 d2 d3) :=
  pss_cons (ps_if (v1 X W c.1 tk) pss_never pss_nil) (pss_cons (v2 X W c tk) (pss_cons (ps_if (v3 X W c.1 tk) pss_never pss_nil) (pss_cons (ps_if (pt_lenEq c.1 hN hv (by decide) (by decide) hg hf hC hgC) pss_never pss_nil)
    (pss_cons (ps_appF c.1 hN hv (by decide) (by decide) (pvar c.1 2 hN2 hv2) hline rfl rfl rfl) pss_nil))))
theorem pss_takeText {c1 c2 e : Expr} {x1 x2 : List Stmt} {d1 d2 d3 : Dn} {q1 q2 m1 m2 m3 m5 m6 : Pos} (c : CtxS s T X) (tk : Takes X W) (hN : s.N[0]? = some ("self" : Str)) (hv : visB s.sc "self" = true)
    (v1 : VT s T c1 d1) (v2 : VT s T c2 d2) (v3 : VE s T e d3) (hline : (m3.endLine == m5.line) = true) (hs : starEach [e] X.env = (false, eval e X.env) :: starEach [] X.env) (hfew : ((backTo m5 (starEach [e] X.env)).all (fun x => !x.1) && (backToKw m5 (keywordEach [] X.env)).all (fun x => x.1.isSome) && decide (([e] : List Expr).length + ([] : List Keyword).length + (if ([] : List Keyword).isEmpty then 0 else 1) < 30)) = true)
    (hsw : swapsWith (.Call (.Attribute (.Attribute (.Name "self" m1) "texts" m2) "append" m3) [e] [] m5) none m6.line X.env = pure false) :
    PSs X (.If c1 x1 [] q1 :: .If c2 x2 [] q2 :: [.Expr (.Call (.Attribute (.Attribute (.Name "self" m1) "texts" m2) "append" m3) [e] [] m5) m6]) (rTakeText X.K (clK X.K) W d1 d2 d3) :=
  pss_cons (ps_if (v1 X W c.1 tk) pss_never pss_nil) (pss_cons (ps_if (v2 X W c.1 tk) pss_never pss_nil) (pss_cons (ps_appF c.1 hN hv (by decide) (by decide) (v3 X W c.1 tk) hline hs hfew hsw) pss_nil))
theorem pss_init {p1 p2 p3 p4 p5 p6 p7 p8 p9 pa pb pc : Pos} {j : Nat} (c : CtxS s T X) (hN : s.N[0]? = some ("self" : Str)) (hv : visB s.sc "self" = true) :
    PSs X (.Assign [.Attribute (.Name "self" p1) "fixes" p2] (.List [] p3) p4 :: .Assign [.Attribute (.Name "self" p5) "texts" p6] (.List [] p7) p8 :: [.Assign [.Attribute (.Name "self" p9) "line" pa] (.Constant (.int 0) j pb) pc]) (rInit X.K) :=
  pss_cons (ps_fld (pvar c.1 0 hN hv) (pe_lst pa_nil) rfl) (pss_cons (ps_fld (pvar c.1 0 hN hv) (pe_lst pa_nil) rfl) (pss_cons (ps_fld (pvar c.1 0 hN hv) pe_int rfl) pss_nil))
/-- self.m(words) -/
theorem ps_callM {i j k : Nat} {x y m : Str} {f : Addr} {fd : FuncData} {sp : Sp} {p1 p2 p3 p4 p5 : Pos} (c : CtxS s T X) (hob : T.ob 2 = true) (hN : s.N[i]? = some x) (hv : visB s.sc x = true) (hN2 : s.N[j]? = some y) (hv2 : visB s.sc y = true) (h1 : (x == ("__debug__" : Str)) = false) (h2 : (x == ("__classdict__" : Str)) = false) (h3 : (y == ("__debug__" : Str)) = false) (h4 : (y == ("__classdict__" : Str)) = false)
    (hm : Meth X.K (clA X.K 2) m f) (F : FnOk X.prog X.w X.K X.mg X.base (L2.CX X.prog X.w) k f fd ["self", "words"] sp) (hr : Room k X.A) (hb : Binds X.K fd ["self", "words"] []) (hsw : swapsWith (.Call (.Attribute (.Name x p1) m p2) [.Name y p3] [] p4) none p5.line X.env = pure false) {pl : Sem Bool}
    (ht : eval (.Call (.Attribute (.Name x p1) m p2) [.Name y p3] [] p4) X.env = (do
      let ov ← eval (.Name x p1) X.env
      standAt p2.atName
      let (f, first) ← holding [ov] (getMethod ov m pl)
      callWith p4 f first (backTo p4 (starEach [.Name y p3] X.env)) (backToKw p4 (keywordEach [] X.env)))) :
    L2.PS X (.Expr (.Call (.Attribute (.Name x p1) m p2) [.Name y p3] [] p4) p5) (tDrop (tMeth (clA X.K 2) m sp [] noE (tVar i) (tCons (tVar j) tNil))) :=
  ps_expr (pe_meth (pl := pl) (pvar c.1 i hN hv h1 h2) (c.1.fac.ob 2 hob).cls hm F hr hb .nil passes_no (pa_cons (pvar c.1 j hN2 hv2 h3 h4) pa_nil rfl) rfl rfl ht) hsw
end
end Py
set_option maxRecDepth 100000
namespace Py
open PySem PySem.Spec PyProof.Rows L2

/-! ### reckoning meanings: comprehensions, calls, draws -/
theorem argSls_sh (p : PS) : ∀ ds : List D, argSls p (ds.map Rv.sh) = some (ds.map Sl.sh)
  | [] => rfl
  | d :: ds => by
    show (match argSl p (.sh d), argSls p (ds.map Rv.sh) with | some a, some as => some (a :: as) | _, _ => none) = _
    rw [argSls_sh p ds]; rfl
theorem lentI_sh : ∀ ds : List D, lentI (ds.map Rv.sh) = []
  | [] => rfl
  | _ :: ds => lentI_sh ds
theorem putBack_sh (env : List Sl) : ∀ (ds : List D) (bs : List Sl), putBack env (ds.map Rv.sh) bs = env
  | [], bs => by cases bs <;> rfl
  | d :: ds, [] => rfl
  | d :: ds, b :: bs => putBack_sh env ds bs
theorem call_pure {k : Nat} {sem : List Sl → List Int × Int → FR} {da : DnL} {p : PS} {ds : List D} {fresh : Bool} {d : D} {back : List Sl} {src' : List Int × Int} (hda : da p = .ok (ds.map .sh) p) (hlen : ds.length = k) (hs : sem (ds.map .sh) p.src = .ok fresh d back src') :
    dCall k sem da p = .ok (if fresh then .ow d else .sh d) ⟨p.env, src'⟩ := by
  unfold dCall
  rw [hda, R.bind_ok]
  unfold finC
  rw [if_pos ⟨by rw [lentI_sh]; exact List.nodup_nil, by rw [List.length_map]; exact hlen⟩, argSls_sh]
  show finS (sem (ds.map .sh) p.src) _ p = _
  rw [hs]
  show R.ok _ ⟨putBack p.env (ds.map Rv.sh) back, src'⟩ = _
  rw [putBack_sh]
theorem call_src {k : Nat} {sem : List Sl → List Int × Int → FR} {da : DnL} {p p1 : PS} {ds : List D} {fresh : Bool} {d : D} {back : List Sl} {src' : List Int × Int} (hda : da p = .ok (.sr :: ds.map .sh) p1) (hlen : ds.length + 1 = k) (hs : sem (.src :: ds.map .sh) p1.src = .ok fresh d (.src :: back) src') :
    dCall k sem da p = .ok (if fresh then .ow d else .sh d) ⟨p1.env, src'⟩ := by
  unfold dCall
  rw [hda, R.bind_ok]
  unfold finC
  rw [if_pos ⟨by show (lentI (ds.map Rv.sh)).Nodup; rw [lentI_sh]; exact List.nodup_nil, by simp [hlen]⟩]
  have e : argSls p1 (Rv.sr :: ds.map Rv.sh) = some (.src :: ds.map Sl.sh) := by
    show (match argSl p1 .sr, argSls p1 (ds.map Rv.sh) with | some a, some as => some (a :: as) | _, _ => none) = _
    rw [argSls_sh p1 ds]; rfl
  rw [e]
  show finS (sem (.src :: ds.map .sh) p1.src) _ p1 = _
  rw [hs]
  show R.ok _ ⟨putBack p1.env (ds.map Rv.sh) back, src'⟩ = _
  rw [putBack_sh]
/-- n draws are left -/
def Dr (n : Nat) (src : List Int × Int) : Prop := 0 < src.1.length ∧ src.1.length ≤ 16777216 ∧ 0 ≤ src.2 ∧ src.2 + n < 2 ^ 60
theorem Dr.mono {n m : Nat} {src : List Int × Int} (h : Dr n src) (hm : m ≤ n) : Dr m src := ⟨h.1, h.2.1, h.2.2.1, by have := h.2.2.2; omega⟩
theorem draw_step {n : Nat} {src : List Int × Int} {limit : Int} (h : Dr (n + 1) src) (h1 : 0 < limit) (h2 : limit < 1073741824) : ∃ (k : Nat) (src' : List Int × Int), semDraw [.src, .sh (.int limit)] src = .ok false (.int (k : Int)) [.src, .sh (.int limit)] src' ∧ (k : Int) < limit ∧ Dr n src' := by
  obtain ⟨a1, a2, a3, a4⟩ := h
  obtain ⟨b1, b2⟩ := drawN_lt (src := src) h1
  have e : semDraw [.src, .sh (.int limit)] src = .ok false (.int (drawN limit src)) [.src, .sh (.int limit)] (drawS limit src) := by
    rcases draw_cases [.src, .sh (.int limit)] src with ⟨l, e, _, h⟩ | h
    · have el : l = limit := by
        injection e with _ e; injection e with e _; injection e with e; injection e with e; exact e.symm
      rw [el] at h; exact h
    · exfalso
      have : semDraw [.src, .sh (.int limit)] src = .ok false (.int (drawN limit src)) [.src, .sh (.int limit)] (drawS limit src) := if_pos (sb_iff.mpr ⟨h1, h2, a1, a2, a3, by omega⟩)
      rw [this] at h; cases h
  refine ⟨(drawN limit src).toNat, drawS limit src, ?_, ?_, ?_⟩
  · rw [Int.toNat_of_nonneg b1]; exact e
  · rw [Int.toNat_of_nonneg b1]; exact b2
  · unfold drawS
    refine ⟨?_, ?_, ?_, ?_⟩
    · dsimp only; split
      · rw [List.length_set]; exact a1
      · exact a1
    · dsimp only; split
      · rw [List.length_set]; exact a2
      · exact a2
    · dsimp only; omega
    · dsimp only; omega
theorem compL_pure {α : Type} {own : List Nat} {tg : Tgd} {dt de : Dn} {env : List Sl} {src : List Int × Int} {enc e : α → D} {t : α → Bool} : ∀ (xs : List α) (acc : List D),
    (∀ x ∈ xs, ∃ env', tg (enc x) env = some env' ∧ clrE env' own = env ∧ dt ⟨env', src⟩ = .ok (.sh (.bl (t x))) ⟨env', src⟩ ∧ (t x = true → ∃ v, de ⟨env', src⟩ = .ok v ⟨env', src⟩ ∧ v.soft = .sh (e x))) →
    compL own tg dt de (xs.map enc) acc ⟨env, src⟩ = .ok (acc ++ (xs.filter t).map e) ⟨env, src⟩
  | [], acc, _ => by simp [compL]
  | x :: xs, acc, h => by
    obtain ⟨env', h1, h2, h3, h4⟩ := h x List.mem_cons_self
    have ih := fun acc => compL_pure xs acc fun y hy => h y (List.mem_cons_of_mem _ hy)
    rw [List.map_cons]
    unfold compL
    simp only [h1, h3, bindN_ok]
    cases ht : t x with
    | false =>
      show compL own tg dt de (xs.map enc) acc ⟨clrE env' own, src⟩ = _
      rw [h2, ih, List.filter_cons_of_neg (by rw [ht]; exact Bool.false_ne_true)]
    | true =>
      obtain ⟨v, h5, h6⟩ := h4 ht
      show (bindN (de ⟨env', src⟩) fun v p2 => match v.soft with | .sh e => compL own tg dt de (xs.map enc) (acc ++ [e]) ⟨clrE p2.env own, p2.src⟩ | _ => .bad) = _
      rw [h5, bindN_ok]
      simp only [h6]
      rw [h2, ih, List.filter_cons_of_pos ht]
      simp
theorem comp_pure {α : Type} {own : List Nat} {di : PS → R Iv} {tg : Tgd} {dt de : Dn} {env : List Sl} {src : List Int × Int} {enc e : α → D} {t : α → Bool} {xs : List α} (hdi : di ⟨env, src⟩ = .ok ⟨none, xs.map enc⟩ ⟨env, src⟩) (hf : freeOwn own env = true) (hl : xs.length ≤ 16777216)
    (hb : ∀ x ∈ xs, ∃ env', tg (enc x) (clrE env own) = some env' ∧ clrE env' own = clrE env own ∧ dt ⟨env', src⟩ = .ok (.sh (.bl (t x))) ⟨env', src⟩ ∧ (t x = true → ∃ v, de ⟨env', src⟩ = .ok v ⟨env', src⟩ ∧ v.soft = .sh (e x)))
    (hr : resE env (clrE env own) own = env) : dComp own di tg dt de ⟨env, src⟩ = .ok (.ow (.lst ((xs.filter t).map e))) ⟨env, src⟩ := by
  unfold dComp
  rw [hdi, R.bind_ok, if_pos ⟨hf, rfl, by rw [List.length_map]; exact hl⟩]
  show bindN (compL own tg dt de (xs.map enc) [] ⟨clrE env own, src⟩) _ = _
  rw [compL_pure xs [] hb, bindN_ok]
  show R.ok (Rv.ow (.lst ([] ++ (xs.filter t).map e))) ⟨resE env (clrE env own) own, src⟩ = _
  rw [hr, List.nil_append]
theorem comp_map {α : Type} {own : List Nat} {di : PS → R Iv} {tg : Tgd} {de : Dn} {env : List Sl} {src : List Int × Int} {enc e : α → D} {xs : List α} (hdi : di ⟨env, src⟩ = .ok ⟨none, xs.map enc⟩ ⟨env, src⟩) (hf : freeOwn own env = true) (hl : xs.length ≤ 16777216)
    (hb : ∀ x ∈ xs, ∃ env', tg (enc x) (clrE env own) = some env' ∧ clrE env' own = clrE env own ∧ ∃ v, de ⟨env', src⟩ = .ok v ⟨env', src⟩ ∧ v.soft = .sh (e x))
    (hr : resE env (clrE env own) own = env) : dComp own di tg (dC (.bl true)) de ⟨env, src⟩ = .ok (.ow (.lst (xs.map e))) ⟨env, src⟩ := by
  have h := comp_pure (dt := dC (.bl true)) (t := fun _ => true) hdi hf hl (fun x hx => by
    obtain ⟨env', h1, h2, h3⟩ := hb x hx
    exact ⟨env', h1, h2, rfl, fun _ => h3⟩) hr
  rwa [List.filter_eq_self.mpr (fun _ _ => rfl)] at h
theorem allBl_map {α : Type} (f : α → Bool) : ∀ xs : List α, allBl (xs.map fun x => .bl (f x)) = some (xs.map f)
  | [] => rfl
  | x :: xs => by rw [List.map_cons, allBl, allBl_map f xs]; rfl
theorem allStr_map {α : Type} (f : α → List Nat) : ∀ xs : List α, allStr (xs.map fun x => .str (f x)) = some (xs.map f)
  | [] => rfl
  | x :: xs => by rw [List.map_cons, allStr, allStr_map f xs]; rfl
theorem var_sh {i : Nat} {env : List Sl} {src : List Int × Int} {d : D} (h : env[i]? = some (.sh d)) : dVar i ⟨env, src⟩ = .ok (.sh d) ⟨env, src⟩ := by unfold dVar; simp only [h]
theorem div_of {da : Dn} {p p1 : PS} {v : Rv} {d : D} {ds : List D} (h : da p = .ok v p1) (hv : v.soft = .sh d) (hi : itemsOf d = some ds) : dIv da p = .ok ⟨none, ds⟩ p1 := by
  unfold dIv
  rw [h, R.bind_ok]
  unfold finI
  rw [← opd_soft, hv]
  show (match itemsOf d with | some ds => R.ok (⟨toLock p1.env v, ds⟩ : Iv) p1 | none => .bad) = _
  rw [hi]
  cases v with
  | sh e => rfl
  | ow e => rfl
  | bo i => cases hv
  | sr => cases hv
theorem d2_ok {f : D → D → Option Rv} {da db : Dn} {p p1 p2 : PS} {x y v : Rv} {a b : D} (ha : da p = .ok x p1) (hb : db p1 = .ok y p2) (hx : opd x p2 = some a) (hy : opd y p2 = some b) (hf : f a b = some v) : d2 f da db p = .ok v p2 := by
  unfold d2
  rw [ha, R.bind_ok, hb, R.bind_ok]
  unfold fin2
  simp only [hx, hy, hf, give_some]
theorem d1_ok {f : D → Option Rv} {da : Dn} {p p1 : PS} {x v : Rv} {a : D} (ha : da p = .ok x p1) (hx : opd x p1 = some a) (hf : f a = some v) : d1 f da p = .ok v p1 := by
  unfold d1
  rw [ha, R.bind_ok]
  unfold fin1
  simp only [hx, hf, give_some]
theorem dN1_ok {f : List D → Option Rv} {da : Dn} {p p1 : PS} {x v : Rv} {a : D} (ha : da p = .ok x p1) (hx : opd x p1 = some a) (hf : f [a] = some v) : dN f (dCons da dNil) p = .ok v p1 := by
  unfold dN dCons
  simp only [ha, R.bind_ok, dNil]
  unfold finN
  simp only [opds, opd_soft, hx, hf, give_some]
theorem and_t {da db : Dn} {p p1 : PS} (ha : da p = .ok (.sh (.bl true)) p1) : dAnd da db p = db p1 := by
  unfold dAnd; rw [ha, R.bind_ok]; rfl
theorem and_f {da db : Dn} {p p1 : PS} (ha : da p = .ok (.sh (.bl false)) p1) : dAnd da db p = .ok (.sh (.bl false)) p1 := by
  unfold dAnd; rw [ha, R.bind_ok]; rfl
theorem or_t {da db : Dn} {p p1 : PS} (ha : da p = .ok (.sh (.bl true)) p1) : dOr da db p = .ok (.sh (.bl true)) p1 := by
  unfold dOr; rw [ha, R.bind_ok]; rfl
theorem or_f {da db : Dn} {p p1 : PS} (ha : da p = .ok (.sh (.bl false)) p1) : dOr da db p = db p1 := by
  unfold dOr; rw [ha, R.bind_ok]; rfl
theorem not_b {da : Dn} {p p1 : PS} {b : Bool} (ha : da p = .ok (.sh (.bl b)) p1) : dNot da p = .ok (.sh (.bl (!b))) p1 := by
  unfold dNot; rw [ha, R.bind_ok]; cases b <;> rfl
/-- a, b, both without a change of state, as bools -/
theorem and_b {da db : Dn} {p : PS} {a b : Bool} (ha : da p = .ok (.sh (.bl a)) p) (hb : a = true → db p = .ok (.sh (.bl b)) p) : dAnd da db p = .ok (.sh (.bl (a && b))) p := by
  cases a with
  | true => rw [and_t ha, hb rfl]; rfl
  | false => rw [and_f ha]; rfl
theorem or_b {da db : Dn} {p : PS} {a b : Bool} (ha : da p = .ok (.sh (.bl a)) p) (hb : a = false → db p = .ok (.sh (.bl b)) p) : dOr da db p = .ok (.sh (.bl (a || b))) p := by
  cases a with
  | false => rw [or_f ha, hb rfl]; rfl
  | true => rw [or_t ha]; rfl
theorem if_t {dt : Dn} {a b : SDn} {p p1 : PS} (h : dt p = .ok (.sh (.bl true)) p1) : sIf dt a b p = a p1 := by unfold sIf; rw [h]; rfl
theorem if_f {dt : Dn} {a b : SDn} {p p1 : PS} (h : dt p = .ok (.sh (.bl false)) p1) : sIf dt a b p = b p1 := by unfold sIf; rw [h]; rfl
theorem ret_ok {da : Dn} {p p1 : PS} {v : Rv} (h : da p = .ok v p1) : sRet da p = .rt v p1 := by unfold sRet; rw [h]; rfl
theorem seq_nx {a b : SDn} {p p1 : PS} (h : a p = .nx p1) : sSeq a b p = b p1 := by unfold sSeq; rw [h]; rfl
theorem seq_rt {a b : SDn} {p p1 : PS} {v : Rv} (h : a p = .rt v p1) : sSeq a b p = .rt v p1 := by unfold sSeq; rw [h]; rfl
theorem exp_ok {da : Dn} {p p1 : PS} {v : Rv} (h : da p = .ok v p1) : sExp da p = .nx p1 := by unfold sExp; rw [h]; rfl
theorem asg_ok {i : Nat} {da : Dn} {p p1 : PS} {v : Rv} (h : da p = .ok v p1) : sAsg i da p = asgn i v p1 := by unfold sAsg; rw [h]; rfl
theorem asgT_ok {g : Tgd} {da : Dn} {p p1 : PS} {v : Rv} {d : D} {env' : List Sl} (h : da p = .ok v p1) (hv : v.soft = .sh d) (hg : g d p1.env = some env') : sAsgT g da p = .nx ⟨env', p1.src⟩ := by
  unfold sAsgT
  simp only [h, onR_ok, hv, hg]
theorem if_skip {dt : Dn} {a : SDn} {p p1 : PS} (h : dt p = .ok (.sh (.bl false)) p1) : sIf dt a sNil p = .nx p1 := by unfold sIf; rw [h]; rfl
def cut (x : List Nat) (i j : Nat) : List Nat := (x.drop i).take (j - i)
theorem cutD_nat (x : List Nat) (i j : Nat) : cutD x (some (i : Int)) (some (j : Int)) = cut x i j := by
  unfold cutD cut
  rw [HT.sIx_nat, HT.sIx_nat]
  rcases Nat.le_total i x.length with h | h
  · rw [Nat.min_eq_left h]
    rcases Nat.le_total j x.length with h2 | h2
    · rw [Nat.min_eq_left h2]
    · rw [Nat.min_eq_right h2, List.take_of_length_le (l := x.drop i) (i := x.length - i) (by rw [List.length_drop]; omega), List.take_of_length_le (by rw [List.length_drop]; omega)]
  · rw [Nat.min_eq_right h, List.drop_eq_nil_of_le (Nat.le_refl _), List.drop_eq_nil_of_le h]
    simp
theorem cutD_to (x : List Nat) (j : Nat) : cutD x none (some (j : Int)) = x.take j := by
  have := cutD_nat x 0 j
  unfold cutD at *
  rw [HT.sIx_none]
  rw [show ((0 : Nat) : Int) = 0 from rfl] at this
  have e : HT.sIx x.length 0 (some (0 : Int)) = 0 := by
    have := HT.sIx_nat x.length 0 0
    simpa using this
  rw [e] at this
  rw [this]
  unfold cut
  simp
theorem cutD_from (x : List Nat) (i : Nat) : cutD x (some (i : Int)) none = x.drop i := by
  unfold cutD
  rw [HT.sIx_none, HT.sIx_nat]
  rcases Nat.le_total i x.length with h | h
  · rw [Nat.min_eq_left h, List.take_of_length_le (by rw [List.length_drop]; omega)]
  · rw [Nat.min_eq_right h, List.drop_eq_nil_of_le (Nat.le_refl _), List.drop_eq_nil_of_le h]; simp
theorem o1_ok {d : Dn} {p p1 : PS} {i : Int} (h : d p = .ok (.sh (.int i)) p1) : dO1 d p = .ok (some i) p1 := by unfold dO1; rw [h]; rfl
theorem sl_ok {da : Dn} {dl dh : DnO} {p p1 p2 p3 : PS} {v r : Rv} {l h : Option Int} {d : D} (ha : da p = .ok v p1) (hl : dl p1 = .ok l p2) (hh : dh p2 = .ok h p3) (hv : opd v p3 = some d) (hf : opSl l h d = some r) : dSl da dl dh p = .ok r p3 := by
  unfold dSl
  rw [ha, R.bind_ok, hl, R.bind_ok, hh, R.bind_ok]
  unfold fin1
  rw [opd_soft, hv]
  simp only [hf, give_some]
theorem opSl_str {l h : Option Int} {x : List Nat} (hx : x.length ≤ 16777216) : opSl l h (.str x) = some (.sh (.str (cutD x l h))) := by simp only [opSl]; rw [if_pos hx]
theorem add_int (i j : Int) : opAdd (.int i) (.int j) = some (.sh (.int (i + j))) := rfl
theorem add_str {x y : List Nat} (h : x.length + y.length ≤ 16777216) : opAdd (.str x) (.str y) = some (.sh (.str (x ++ y))) := by simp only [opAdd]; rw [if_pos h]
/-- all signs are such as equality may read -/
theorem okq_str {x : List Nat} : okq (.str x) = PyData.strOk (S x) := rfl
def Asc (x : List Nat) : Prop := ∀ c ∈ x, c < 128
theorem okq_asc {x : List Nat} (h : Asc x) : okq (.str x) = true := by
  show (S x).cps.all (· < 0x110000) = true
  rw [← Array.all_toList, S_list, List.all_eq_true]
  intro c hc
  have := h c hc
  simp; omega
theorem Asc.cut {x : List Nat} (h : Asc x) (i j : Nat) : Asc (cut x i j) := fun c hc => h c (List.mem_of_mem_drop (List.mem_of_mem_take hc))
theorem eq_str {x y : List Nat} (hx : Asc x) (hy : Asc y) : opEq (.str x) (.str y) = some (.sh (.bl (x == y))) := by
  unfold opEq
  rw [okq_asc hx, okq_asc hy]; rfl
theorem ne_str {x y : List Nat} (hx : Asc x) (hy : Asc y) : opNe (.str x) (.str y) = some (.sh (.bl (!(x == y)))) := by
  unfold opNe
  rw [okq_asc hx, okq_asc hy]; rfl
theorem asc_nil : Asc [] := fun c h => by cases h
theorem rg_ok {n : Nat} (h : n ≤ 16777216) : rngO (.int 0) (.int (n : Nat)) = some ((List.range n).map fun i => .int (i : Nat)) := by
  have hc : -(2 ^ 62) ≤ (0 : Int) ∧ (0 : Int) < 2 ^ 62 ∧ -(2 ^ 62) ≤ (n : Int) ∧ (n : Int) < 2 ^ 62 := by omega
  have e : rngO (.int 0) (.int (n : Nat)) = some (rngL 0 ((n : Int) - 0).toNat) := by
    simp only [rngO]
    rw [if_pos (sb_iff.mpr hc)]
  rw [e]
  unfold rngL
  rw [show ((n : Int) - 0).toNat = n by omega]
  simp
theorem rg1_ok {da : Dn} {p p1 : PS} {v : Rv} {n : Nat} (h : da p = .ok v p1) (hv : opd v p1 = some (.int (n : Nat))) (hn : n ≤ 16777216) : dRg1 da p = .ok ⟨none, (List.range n).map fun i => .int (i : Nat)⟩ p1 := by
  unfold dRg1
  rw [h, R.bind_ok]
  unfold fin1I
  simp only [hv, rg_ok hn]
theorem en_ok {da : Dn} {p p1 : PS} {v : Rv} {d : D} {ds : List D} (h : da p = .ok v p1) (hv : v.soft = .sh d) (hi : itemsOf d = some ds) : dEn da p = .ok ⟨none, enumL ds⟩ p1 := by
  have e := div_of h hv hi
  unfold dIv at e
  rw [h, R.bind_ok] at e
  unfold dEn
  rw [h, R.bind_ok, e]
theorem enumL_map {α : Type} (f : α → D) (xs : List α) : enumL (xs.map f) = xs.zipIdx.map fun p => .tup [.int (p.2 : Nat), f p.1] := by
  unfold enumL
  apply List.ext_getElem?
  intro i
  rw [List.getElem?_mapIdx, List.getElem?_map, List.getElem?_map, List.getElem?_zipIdx]
  cases xs[i]? with
  | none => rfl
  | some x => simp
theorem cL_pure {α : Type} {own : List Nat} {tg : Tgd} {rest : RC} {env : List Sl} {src : List Int × Int} {enc : α → D} {g : α → List D} : ∀ (xs : List α) (acc : List D), acc.length + (xs.flatMap g).length ≤ 16777216 →
    (∀ x ∈ xs, ∃ env' env'', tg (enc x) env = some env' ∧ (∀ acc' : List D, acc'.length + (g x).length ≤ 16777216 → rest acc' ⟨env', src⟩ = .ok (acc' ++ g x) ⟨env'', src⟩) ∧ clrE env'' own = env) →
    cL own tg (dC (.bl true)) rest (xs.map enc) acc ⟨env, src⟩ = .ok (acc ++ xs.flatMap g) ⟨env, src⟩
  | [], acc, _, _ => by simp [cL]
  | x :: xs, acc, hl, h => by
    obtain ⟨env', env'', h1, h2, h3⟩ := h x List.mem_cons_self
    rw [List.flatMap_cons, List.length_append] at hl
    have ih := cL_pure xs (acc ++ g x) (by rw [List.length_append]; omega) fun y hy => h y (List.mem_cons_of_mem _ hy)
    have h2 := h2 acc (by omega)
    rw [List.map_cons]
    unfold cL
    simp only [h1]
    show bindN (rest acc ⟨env', src⟩) _ = _
    rw [h2, bindN_ok]
    show cL own tg (dC (.bl true)) rest (xs.map enc) (acc ++ g x) ⟨clrE env'' own, src⟩ = _
    rw [h3, ih, List.flatMap_cons, List.append_assoc]
theorem rEnd_ok {de : Dn} {p : PS} {v : Rv} {d : D} {acc : List D} (h : de p = .ok v p) (hv : v.soft = .sh d) (hl : acc.length + 1 ≤ 16777216) : rEnd de acc p = .ok (acc ++ [d]) p := by
  unfold rEnd
  rw [h, bindN_ok]
  simp only [hv]
  rw [if_pos (by omega)]
theorem compN_pure {α : Type} {own : List Nat} {di : PS → R Iv} {tg : Tgd} {rest : RC} {env : List Sl} {src : List Int × Int} {enc : α → D} {g : α → List D} {xs : List α} (hdi : di ⟨env, src⟩ = .ok ⟨none, xs.map enc⟩ ⟨env, src⟩) (hf : freeOwn own env = true) (hl : (xs.flatMap g).length ≤ 16777216)
    (hb : ∀ x ∈ xs, ∃ env' env'', tg (enc x) (clrE env own) = some env' ∧ (∀ acc' : List D, acc'.length + (g x).length ≤ 16777216 → rest acc' ⟨env', src⟩ = .ok (acc' ++ g x) ⟨env'', src⟩) ∧ clrE env'' own = clrE env own)
    (hr : resE env (clrE env own) own = env) : dCompN own di tg (dC (.bl true)) rest ⟨env, src⟩ = .ok (.ow (.lst (xs.flatMap g))) ⟨env, src⟩ := by
  unfold dCompN
  rw [hdi, R.bind_ok, if_pos ⟨hf, rfl⟩]
  show bindN (cL own tg (dC (.bl true)) rest (xs.map enc) [] ⟨clrE env own, src⟩) _ = _
  rw [cL_pure xs [] (by simpa using hl) hb, bindN_ok]
  show R.ok (Rv.ow (.lst ([] ++ xs.flatMap g))) ⟨resE env (clrE env own) own, src⟩ = _
  rw [hr, List.nil_append]
theorem forL_fold {α S : Type} {tg : Tgd} {body : SDn} {enc : α → D} (st : S → PS) (step : S → α → S) (I : Nat → S → Prop) (PA : α → Prop) (h : ∀ n s x, I (n + 1) s → PA x → I n (step s x) ∧ ∃ env', tg (enc x) (st s).env = some env' ∧ body ⟨env', (st s).src⟩ = .nx (st (step s x))) :
    ∀ (xs : List α) (s : S), I xs.length s → (∀ x ∈ xs, PA x) → forL tg body (xs.map enc) (st s) = .nx (st (xs.foldl step s))
  | [], s, _, _ => rfl
  | x :: xs, s, hi, hp => by
    obtain ⟨h1, env', h2, h3⟩ := h xs.length s x hi (hp x List.mem_cons_self)
    rw [List.map_cons]
    unfold forL
    simp only [h2, h3]
    rw [forL_fold st step I PA h xs (step s x) h1 fun y hy => hp y (List.mem_cons_of_mem _ hy)]
    rfl
theorem for_none {di : PS → R Iv} {tg : Tgd} {body : SDn} {p p1 p2 : PS} {ds : List D} (h : di p = .ok ⟨none, ds⟩ p1) (hf : forL tg body ds p1 = .nx p2) : sFor di tg body p = .nx p2 := by
  rw [sFor_eval h rfl]
  show unlockO none (forL tg body ds ⟨p1.env, p1.src⟩) = _
  rw [show (⟨p1.env, p1.src⟩ : PS) = p1 from rfl, hf]
  rfl
theorem atI_nat {α : Type} (xs : List α) (n : Nat) (h : n < xs.length) : atI xs (n : Int) = some xs[n] := by
  unfold atI
  rw [ixN_nat h]
  show xs[n]? = _
  exact List.getElem?_eq_getElem h
theorem ge_int (i j : Int) : opGe (.int i) (.int j) = some (.sh (.bl (decide (j ≤ i)))) := rfl
theorem app_nx {i : Nat} {de : Dn} {p : PS} {v : Rv} {l : Bool} {ds : List D} {d : D} (hi : p.env[i]? = some (.own l false (.lst ds))) (he : de p = .ok v p) (hv : v.soft = .sh d) (hl : ds.length < 16777216) : sApp i de p = .nx ⟨p.env.set i (.own l false (.lst (ds ++ [d]))), p.src⟩ := by
  unfold sApp
  simp only [hi, he, onR_ok]
  unfold appS
  simp only [hv, hi]
  rw [if_pos hl]
end Py
set_option maxRecDepth 100000
set_option maxHeartbeats 1000000
namespace Pg
open PySem PySem.Spec PyProof.Rows L2 Py
theorem kb1 : kitB "str" "str" = some true := by decide +kernel
theorem kb2 : kitB "tuple" "tuple" = some true := by decide +kernel
theorem kb3 : kitB "int" "int" = some true := by decide +kernel
theorem kb4 : kitB "int" "bool" = some false := by decide +kernel
theorem isi1 (x : List Nat) : opIsi "str" (.str x) = some (.sh (.bl true)) := by unfold opIsi tyN; rw [kb1]; rfl
theorem isi2 (x : List D) : opIsi "tuple" (.tup x) = some (.sh (.bl true)) := by unfold opIsi tyN; rw [kb2]; rfl
theorem isi3 (i : Int) : opIsi "int" (.int i) = some (.sh (.bl true)) := by unfold opIsi tyN; rw [kb3]; rfl
theorem isi4 (i : Int) : opIsi "bool" (.int i) = some (.sh (.bl false)) := by unfold opIsi tyN; rw [kb4]; rfl
def letsN : List Nat := [97, 98, 99, 100, 101, 102, 103, 104, 105, 106, 107, 108, 109, 110, 111, 112, 113, 114, 115, 116, 117, 118, 119, 120, 121, 122]
theorem opLen_str {x : List Nat} (h : x.length ≤ 16777216) : opLen [.str x] = some (.sh (.int x.length)) := by simp only [opLen]; rw [if_pos h]
theorem div_str {i : Nat} {env : List Sl} {src : List Int × Int} {x : List Nat} (h : env[i]? = some (.sh (.str x))) : dIv (dVar i) ⟨env, src⟩ = .ok ⟨none, x.map fun c => .str [c]⟩ ⟨env, src⟩ := by
  have e : dVar i ⟨env, src⟩ = .ok (.sh (.str x)) ⟨env, src⟩ := by unfold dVar; simp only [h]
  unfold dIv
  rw [e, R.bind_ok]
  rfl
theorem isi_ok {c : String} {da : Dn} {p p1 : PS} {x : Rv} {a : D} {b : Bool} (ha : da p = .ok x p1) (hx : opd x p1 = some a) (hf : opIsi c a = some (.sh (.bl b))) : d1 (opIsi c) da p = .ok (.sh (.bl b)) p1 := d1_ok ha hx hf
theorem is_text_eq {x : List Nat} {n : Nat} {src : List Int × Int} (hx : x.length ≤ 16777216) : sem_is_text [.sh (.str x), .sh (.int (n : Nat))] src = .ok false (.bl (decide (x.length ≤ n) && x.all fun c => decide (c ∈ letsN))) [.sh (.str x), .sh (.int (n : Nat))] src := by
  let env : List Sl := [.sh (.str x), .sh (.int (n : Nat)), .no]
  have hc : dComp [2] (dIv (dVar 0)) (gN 2) (dC (.bl true)) (d2 opIn (dVar 2) (dC con_LETTERS)) ⟨env, src⟩ = .ok (.ow (.lst (x.map fun c => .bl (decide (c ∈ letsN))))) ⟨env, src⟩ :=
    comp_map (div_str rfl) rfl hx (fun c _ => ⟨[.sh (.str x), .sh (.int (n : Nat)), .sh (.str [c])], rfl, rfl, .sh (.bl (decide (c ∈ letsN))), rfl, rfl⟩) rfl
  have ha : opAll [.lst (x.map fun c => .bl (decide (c ∈ letsN)))] = some (.sh (.bl (x.all fun c => decide (c ∈ letsN)))) := by
    simp only [opAll, allBl_map, Option.map_some, List.all_map]; rfl
  have hle : opLe (.int x.length) (.int (n : Nat)) = some (.sh (.bl (decide (x.length ≤ n)))) := by
    show some (Rv.sh (.bl (decide ((x.length : Int) ≤ (n : Int))))) = _
    simp only [Int.ofNat_le]
  have h := and_b (p := ⟨env, src⟩) (d1_ok (da := dVar 0) (var_sh rfl) rfl (isi1 x)) fun _ => and_b (d2_ok (dN1_ok (var_sh (i := 0) rfl) rfl (opLen_str hx)) (var_sh (i := 1) rfl) rfl rfl hle) fun _ => dN1_ok hc rfl ha
  unfold sem_is_text semD
  show outFR _ (den_is_text ⟨env, src⟩) = _
  unfold den_is_text
  rw [ret_ok h, Bool.true_and]
  rfl
/-- a fix -/
structure Fx where
  a : List Nat
  o : List Nat
  n : List Nat
  b : List Nat
def fxD (f : Fx) : D := .tup [.str f.a, .str f.o, .str f.n, .str f.b]
def bkD (b : List Fx) : D := .tup (b.map fxD)
def txN (n : Nat) (x : List Nat) : Bool := decide (x.length ≤ n) && x.all fun c => decide (c ∈ letsN)
theorem call1 {k : Nat} {sem : List Sl → List Int × Int → FR} {da : Dn} {p : PS} {v : Rv} {d e : D} {fresh : Bool} {back : List Sl} (h : da p = .ok v p) (hv : v.soft = .sh d) (hk : k = 1) (hs : sem [.sh d] p.src = .ok fresh e back p.src) : dCall k sem (dCons da dNil) p = .ok (if fresh then .ow e else .sh e) p := by
  refine (call_pure (ds := [d]) (p := p) ?_ (by rw [hk]; rfl) hs)
  unfold dCons
  simp only [h, R.bind_ok, dNil, hv]
  rfl
theorem call2 {k : Nat} {sem : List Sl → List Int × Int → FR} {da db : Dn} {p : PS} {v w : Rv} {d d' e : D} {fresh : Bool} {back : List Sl} (h : da p = .ok v p) (hv : v.soft = .sh d) (h' : db p = .ok w p) (hw : w.soft = .sh d') (hk : k = 2) (hs : sem [.sh d, .sh d'] p.src = .ok fresh e back p.src) : dCall k sem (dCons da (dCons db dNil)) p = .ok (if fresh then .ow e else .sh e) p := by
  refine (call_pure (ds := [d, d']) (p := p) ?_ (by rw [hk]; rfl) hs)
  unfold dCons
  simp only [h, h', R.bind_ok, dNil, hv, hw]
  rfl
theorem call3 {k : Nat} {sem : List Sl → List Int × Int → FR} {da db dc : Dn} {p : PS} {v w z : Rv} {d d' d'' e : D} {fresh : Bool} {back : List Sl} (h : da p = .ok v p) (hv : v.soft = .sh d) (h' : db p = .ok w p) (hw : w.soft = .sh d') (h'' : dc p = .ok z p) (hz : z.soft = .sh d'') (hk : k = 3) (hs : sem [.sh d, .sh d', .sh d''] p.src = .ok fresh e back p.src) : dCall k sem (dCons da (dCons db (dCons dc dNil))) p = .ok (if fresh then .ow e else .sh e) p := by
  refine (call_pure (ds := [d, d', d'']) (p := p) ?_ (by rw [hk]; rfl) hs)
  unfold dCons
  simp only [h, h', h'', R.bind_ok, dNil, hv, hw, hz]
  rfl
def fxOk (f : Fx) : Bool := txN 1 f.a && txN 1 f.b && (txN 3 f.o && (txN 3 f.n && !(f.o == [])))
theorem opNe_str (x y : List Nat) (hx : okq (.str x) = true) (hy : okq (.str y) = true) : opNe (.str x) (.str y) = some (.sh (.bl (!(x == y)))) := by
  unfold opNe
  rw [hx, hy]; rfl
def tok (x : List Nat) : Prop := x.length ≤ 16777216 ∧ okq (.str x) = true
theorem is_fix_eq {f : Fx} {src : List Int × Int} (ha : tok f.a) (ho : tok f.o) (hn : tok f.n) (hb : tok f.b) : sem_is_fix [.sh (fxD f)] src = .ok false (.bl (fxOk f)) [.sh (fxD f)] src := by
  let p : PS := ⟨[.sh (fxD f)], src⟩
  have ix : ∀ (i : Int) (d : D), opIx (fxD f) (.int i) = some (.sh d) → d2 opIx (dVar 0) (dC (.int i)) p = .ok (.sh d) p := fun i d h => d2_ok (var_sh (i := 0) rfl) rfl rfl rfl h
  have t1 := fun (x : List Nat) (n : Nat) (hx : tok x) => is_text_eq (x := x) (n := n) (src := src) hx.1
  have c0 := call2 (sem := sem_is_text) (k := 2) (fresh := false) (ix 0 (.str f.a) rfl) rfl (show dC (.int 1) p = .ok (.sh (.int 1)) p from rfl) rfl rfl (t1 f.a 1 ha)
  have c3 := call2 (sem := sem_is_text) (k := 2) (fresh := false) (ix 3 (.str f.b) rfl) rfl (show dC (.int 1) p = .ok (.sh (.int 1)) p from rfl) rfl rfl (t1 f.b 1 hb)
  have c1 := call2 (sem := sem_is_text) (k := 2) (fresh := false) (ix 1 (.str f.o) rfl) rfl (show dC con_MOST_OLD p = .ok (.sh (.int 3)) p from rfl) rfl rfl (t1 f.o 3 ho)
  have c2 := call2 (sem := sem_is_text) (k := 2) (fresh := false) (ix 2 (.str f.n) rfl) rfl (show dC con_MOST_OLD p = .ok (.sh (.int 3)) p from rfl) rfl rfl (t1 f.n 3 hn)
  have g0 : dNot (d1 (opIsi "tuple") (dVar 0)) p = .ok (.sh (.bl false)) p := not_b (d1_ok (da := dVar 0) (var_sh (i := 0) rfl) rfl (isi2 _))
  have g1 : d2 opNe (dN opLen (dCons (dVar 0) dNil)) (dC (.int 4)) p = .ok (.sh (.bl false)) p := d2_ok (dN1_ok (f := opLen) (var_sh (i := 0) rfl) rfl rfl) rfl rfl rfl rfl
  have e1 := or_b (b := false) g0 fun _ => g1
  have e2 := or_b (not_b c0) fun _ => not_b c3
  have e3 := and_b c1 fun _ => and_b c2 fun _ => d2_ok (ix 1 (.str f.o) rfl) (show dC (.str []) p = .ok (.sh (.str [])) p from rfl) rfl rfl (opNe_str f.o [] ho.2 (by decide +kernel))
  unfold sem_is_fix semD
  show outFR _ (den_is_fix p) = _
  unfold den_is_fix
  rw [seq_nx (if_skip e1)]
  have key : fxOk f = (if (!txN 1 f.a || !txN 1 f.b) = true then false else (txN 3 f.o && (txN 3 f.n && !(f.o == [])))) := by
    unfold fxOk
    cases txN 1 f.a <;> cases txN 1 f.b <;> rfl
  rw [key]
  have e2 : dOr _ _ p = .ok (.sh (.bl (!txN 1 f.a || !txN 1 f.b))) p := e2
  cases hc : (!txN 1 f.a || !txN 1 f.b) with
  | true =>
    rw [hc] at e2
    rw [seq_rt ((if_t e2).trans (ret_ok (show dC (.bl false) p = .ok (.sh (.bl false)) p from rfl)))]
    rfl
  | false =>
    rw [hc] at e2
    rw [seq_nx (if_skip e2), ret_ok e3]
    rfl
theorem itemsL (ds : List D) : itemsOf (.tup ds) = some ds := rfl
theorem is_book_eq {b : List Fx} {src : List Int × Int} (hl : b.length ≤ 16777216) (h : ∀ f ∈ b, tok f.a ∧ tok f.o ∧ tok f.n ∧ tok f.b) : sem_is_book [.sh (bkD b)] src = .ok false (.bl (decide (b.length ≤ 5) && b.all fxOk)) [.sh (bkD b)] src := by
  let env : List Sl := [.sh (bkD b), .no]
  have hc : dComp [1] (dIv (dVar 0)) (gN 1) (dC (.bl true)) (dCall 1 sem_is_fix (dCons (dVar 1) dNil)) ⟨env, src⟩ = .ok (.ow (.lst (b.map fun f => .bl (fxOk f)))) ⟨env, src⟩ :=
    comp_map (enc := fxD) (div_of (var_sh (i := 0) rfl) rfl rfl) rfl hl (fun f hf => by
      obtain ⟨h1, h2, h3, h4⟩ := h f hf
      exact ⟨[.sh (bkD b), .sh (fxD f)], rfl, rfl, _, call1 (fresh := false) (var_sh (i := 1) rfl) rfl rfl (is_fix_eq h1 h2 h3 h4), rfl⟩) rfl
  have ha : opAll [.lst (b.map fun f => .bl (fxOk f))] = some (.sh (.bl (b.all fxOk))) := by
    simp only [opAll, allBl_map, Option.map_some, List.all_map]; rfl
  have hle : opLe (.int (b.map fxD).length) con_MOST_FIXES = some (.sh (.bl (decide (b.length ≤ 5)))) := by
    show some (Rv.sh (.bl (decide (((b.map fxD).length : Int) ≤ 5)))) = _
    rw [List.length_map]
    have : ((b.length : Int) ≤ 5) ↔ b.length ≤ 5 := by omega
    simp only [this]
  have h := and_b (p := ⟨env, src⟩) (d1_ok (da := dVar 0) (var_sh rfl) rfl (isi2 _)) fun _ => and_b (d2_ok (dN1_ok (f := opLen) (var_sh (i := 0) rfl) rfl rfl) (show dC con_MOST_FIXES _ = .ok (.sh con_MOST_FIXES) _ from rfl) rfl rfl hle) fun _ => dN1_ok hc rfl ha
  unfold sem_is_book semD
  show outFR _ (den_is_book ⟨env, src⟩) = _
  unfold den_is_book
  rw [ret_ok h, Bool.true_and]
  rfl
theorem check_book_eq {b : List Fx} {src : List Int × Int} (hl : b.length ≤ 5) (h : ∀ f ∈ b, tok f.a ∧ tok f.o ∧ tok f.n ∧ tok f.b) (h2 : ∀ f ∈ b, fxOk f = true) : sem_check_book [.sh (bkD b)] src = .ok false .non [.sh (bkD b)] src := by
  have hb := is_book_eq (b := b) (src := src) (by omega) h
  have ht : (decide (b.length ≤ 5) && b.all fxOk) = true := by
    rw [Bool.and_eq_true]
    exact ⟨decide_eq_true hl, List.all_eq_true.mpr h2⟩
  rw [ht] at hb
  let p : PS := ⟨[.sh (bkD b)], src⟩
  have e := not_b (call1 (p := p) (fresh := false) (var_sh (i := 0) rfl) rfl rfl hb)
  unfold sem_check_book semD
  show outFR _ (den_check_book p) = _
  unfold den_check_book
  rw [if_f e]
  rfl
theorem check_text_eq {x : List Nat} {src : List Int × Int} (h : txN 200 x = true) : sem_check_text [.sh (.str x)] src = .ok false .non [.sh (.str x)] src := by
  have hx : x.length ≤ 200 := by
    unfold txN at h
    rw [Bool.and_eq_true] at h
    exact of_decide_eq_true h.1
  have hb := is_text_eq (x := x) (n := 200) (src := src) (by omega)
  have hb : sem_is_text [.sh (.str x), .sh (.int (200 : Nat))] src = .ok false (.bl (txN 200 x)) [.sh (.str x), .sh (.int (200 : Nat))] src := hb
  rw [h] at hb
  let p : PS := ⟨[.sh (.str x)], src⟩
  have e := not_b (call2 (p := p) (fresh := false) (var_sh (i := 0) rfl) rfl (show dC con_MOST_LENGTH p = .ok (.sh (.int (200 : Nat))) p from rfl) rfl rfl hb)
  unfold sem_check_text semD
  show outFR _ (den_check_text p) = _
  unfold den_check_text
  rw [if_f e]
  rfl
structure FxW (f : Fx) : Prop where
  a : Asc f.a
  o : Asc f.o
  n : Asc f.n
  b : Asc f.b
def stN (f : Fx) (t : List Nat) (i : Nat) : Bool := if (!(cut t i (i + f.o.length) == f.o) || !(cut t (i + f.o.length) (i + f.o.length + f.b.length) == f.b)) = true then false else (f.a == [] || cut t (i - 1) i == f.a)
theorem stands_eq {f : Fx} {t : List Nat} {i : Nat} {src : List Int × Int} (w : FxW f) (ht : Asc t) (hl : t.length ≤ 16777216) (ho : f.o.length ≤ 16777216) (hb : f.b.length ≤ 16777216) :
    sem_stands [.sh (fxD f), .sh (.str t), .sh (.int (i : Nat))] src = .ok false (.bl (stN f t i)) [.sh (fxD f), .sh (.str t), .sh (.int (i : Nat))] src := by
  let e0 : List Sl := [.sh (fxD f), .sh (.str t), .sh (.int (i : Nat)), .no, .no, .no, .no, .no]
  let e1 : List Sl := [.sh (fxD f), .sh (.str t), .sh (.int (i : Nat)), .sh (.str f.a), .sh (.str f.o), .sh (.str f.n), .sh (.str f.b), .no]
  let e2 : List Sl := [.sh (fxD f), .sh (.str t), .sh (.int (i : Nat)), .sh (.str f.a), .sh (.str f.o), .sh (.str f.n), .sh (.str f.b), .sh (.int ((i + f.o.length : Nat) : Int))]
  have s1 : sAsgT (gT (gsC (gN 3) (gsC (gN 4) (gsC (gN 5) (gsC (gN 6) gsN))))) (dVar 0) ⟨e0, src⟩ = .nx ⟨e1, src⟩ := asgT_ok (var_sh (i := 0) rfl) rfl rfl
  have h2 : d2 opAdd (dVar 2) (dN opLen (dCons (dVar 4) dNil)) ⟨e1, src⟩ = .ok (.sh (.int ((i + f.o.length : Nat) : Int))) ⟨e1, src⟩ := by
    rw [Int.natCast_add]
    exact d2_ok (var_sh (i := 2) rfl) (dN1_ok (var_sh (i := 4) rfl) rfl (opLen_str ho)) rfl rfl (add_int _ _)
  have s2 : sAsg 7 (d2 opAdd (dVar 2) (dN opLen (dCons (dVar 4) dNil))) ⟨e1, src⟩ = .nx ⟨e2, src⟩ := asg_ok h2
  have c1 := sl_ok (p := ⟨e2, src⟩) (var_sh (i := 1) rfl) (o1_ok (var_sh (i := 2) rfl)) (o1_ok (var_sh (i := 7) rfl)) rfl (opSl_str hl)
  rw [cutD_nat] at c1
  have h3 : d2 opAdd (dVar 7) (dN opLen (dCons (dVar 6) dNil)) ⟨e2, src⟩ = .ok (.sh (.int ((i + f.o.length + f.b.length : Nat) : Int))) ⟨e2, src⟩ := by
    rw [Int.natCast_add (i + f.o.length)]
    exact d2_ok (var_sh (i := 7) rfl) (dN1_ok (var_sh (i := 6) rfl) rfl (opLen_str hb)) rfl rfl (add_int _ _)
  have c2 := sl_ok (p := ⟨e2, src⟩) (var_sh (i := 1) rfl) (o1_ok (var_sh (i := 7) rfl)) (o1_ok h3) rfl (opSl_str hl)
  rw [cutD_nat] at c2
  have t1 := or_b (d2_ok c1 (var_sh (i := 4) rfl) rfl rfl (ne_str (ht.cut _ _) w.o)) fun _ => d2_ok c2 (var_sh (i := 6) rfl) rfl rfl (ne_str (ht.cut _ _) w.b)
  have hm : dN opMax2 (dCons (dC (.int 0)) (dCons (d2 opSub (dVar 2) (dC (.int 1))) dNil)) ⟨e2, src⟩ = .ok (.sh (.int ((i - 1 : Nat) : Int))) ⟨e2, src⟩ := by
    have : dN opMax2 (dCons (dC (.int 0)) (dCons (d2 opSub (dVar 2) (dC (.int 1))) dNil)) ⟨e2, src⟩ = .ok (.sh (.int (if (i : Int) - 1 > 0 then (i : Int) - 1 else 0))) ⟨e2, src⟩ := rfl
    rw [this]
    have e : (if (i : Int) - 1 > 0 then (i : Int) - 1 else 0) = ((i - 1 : Nat) : Int) := by
      split <;> omega
    rw [e]
  have c3 := sl_ok (p := ⟨e2, src⟩) (var_sh (i := 1) rfl) (o1_ok hm) (o1_ok (var_sh (i := 2) rfl)) rfl (opSl_str hl)
  rw [cutD_nat] at c3
  have t2 := or_b (d2_ok (p := ⟨e2, src⟩) (var_sh (i := 3) rfl) (show dC (.str []) _ = .ok (.sh (.str [])) _ from rfl) rfl rfl (eq_str w.a asc_nil)) fun _ => d2_ok c3 (var_sh (i := 3) rfl) rfl rfl (eq_str (ht.cut _ _) w.a)
  unfold sem_stands semD
  show outFR _ (den_stands ⟨e0, src⟩) = _
  unfold den_stands
  rw [seq_nx s1, seq_nx s2]
  unfold stN
  cases hc : (!(cut t i (i + f.o.length) == f.o) || !(cut t (i + f.o.length) (i + f.o.length + f.b.length) == f.b)) with
  | true =>
    rw [hc] at t1
    rw [seq_rt ((if_t t1).trans (ret_ok (show dC (.bl false) (⟨e2, src⟩ : Py.PS) = .ok (.sh (.bl false)) ⟨e2, src⟩ from rfl)))]
    rfl
  | false =>
    rw [hc] at t1
    rw [seq_nx (if_skip t1), ret_ok t2]
    rfl
structure BkW (b : List Fx) : Prop where
  f : ∀ f ∈ b, FxW f
  o : ∀ f ∈ b, f.o.length ≤ 3
  n : ∀ f ∈ b, f.n.length ≤ 3
  fb : ∀ f ∈ b, f.b.length ≤ 1
  l : b.length ≤ 5
def numsN (b : List Fx) (t : List Nat) (i : Nat) : List Nat := (b.zipIdx.filter fun p => stN p.1 t i).map (·.2)
theorem numsN_len {b : List Fx} {t : List Nat} {i : Nat} : (numsN b t i).length ≤ b.length := by
  unfold numsN
  rw [List.length_map]
  exact Nat.le_trans (List.length_filter_le _ _) (by rw [List.length_zipIdx]; exact Nat.le_refl _)
theorem numbers_at_eq {b : List Fx} {t : List Nat} {i : Nat} {src : List Int × Int} (w : BkW b) (ht : Asc t) (hl : t.length ≤ 16777216) : sem_numbers_at [.sh (bkD b), .sh (.str t), .sh (.int (i : Nat))] src = .ok true (.lst ((numsN b t i).map fun k => .int (k : Nat))) [.sh (bkD b), .sh (.str t), .sh (.int (i : Nat))] src := by
  let env : List Sl := [.sh (bkD b), .sh (.str t), .sh (.int (i : Nat)), .no, .no]
  have he : dEn (dVar 0) ⟨env, src⟩ = .ok ⟨none, b.zipIdx.map fun p => .tup [.int (p.2 : Nat), fxD p.1]⟩ ⟨env, src⟩ := by
    rw [← enumL_map]
    exact en_ok (var_sh (i := 0) rfl) rfl rfl
  have hc := comp_pure (own := [3, 4]) (tg := gT (gsC (gN 3) (gsC (gN 4) gsN))) (dt := dCall 3 sem_stands (dCons (dVar 4) (dCons (dVar 1) (dCons (dVar 2) dNil)))) (de := dVar 3) (t := fun p : Fx × Nat => stN p.1 t i) (e := fun p => .int (p.2 : Nat)) he rfl (by rw [List.length_zipIdx]; have := w.l; omega) (fun p hp => by
    have hm : p.1 ∈ b := List.fst_mem_of_mem_zipIdx hp
    refine ⟨[.sh (bkD b), .sh (.str t), .sh (.int (i : Nat)), .sh (.int (p.2 : Nat)), .sh (fxD p.1)], rfl, rfl, ?_, fun _ => ⟨_, var_sh (i := 3) rfl, rfl⟩⟩
    exact call3 (fresh := false) (var_sh (i := 4) rfl) rfl (var_sh (i := 1) rfl) rfl (var_sh (i := 2) rfl) rfl rfl (stands_eq (w.f _ hm) ht hl (by have := w.o _ hm; omega) (by have := w.fb _ hm; omega))) rfl
  unfold sem_numbers_at semD
  show outFR _ (den_numbers_at ⟨env, src⟩) = _
  unfold den_numbers_at
  rw [ret_ok hc]
  unfold numsN
  rw [List.map_map]
  rfl
def fndN (b : List Fx) (t : List Nat) : List (Nat × Nat) := (List.range t.length).flatMap fun i => (numsN b t i).map fun k => (i, k)
def pD (p : Nat × Nat) : D := .tup [.int (p.1 : Nat), .int (p.2 : Nat)]
theorem tup2_ok {da db : Dn} {p : Py.PS} {v w : Rv} {d e : D} (h : da p = .ok v p) (hv : v.soft = .sh d) (h' : db p = .ok w p) (hw : w.soft = .sh e) : dTup (dCons da (dCons db dNil)) p = .ok (.sh (.tup [d, e])) p := by
  unfold dTup dCons
  simp only [h, h', R.bind_ok, dNil, hv, hw]
  rfl
theorem flat_len {α β : Type} (g : α → List β) (m : Nat) : ∀ xs : List α, (∀ x ∈ xs, (g x).length ≤ m) → (xs.flatMap g).length ≤ xs.length * m
  | [], _ => by simp
  | x :: xs, h => by
    rw [List.flatMap_cons, List.length_append, List.length_cons]
    have h1 := h x List.mem_cons_self
    have h2 := flat_len g m xs fun y hy => h y (List.mem_cons_of_mem _ hy)
    rw [Nat.add_mul]
    omega
theorem map_flat {α β : Type} (f : α → β) : ∀ xs : List α, xs.map f = xs.flatMap fun x => [f x]
  | [] => rfl
  | x :: xs => by rw [List.map_cons, List.flatMap_cons, map_flat f xs]; rfl
theorem findings_of_eq {b : List Fx} {t : List Nat} {src : List Int × Int} (w : BkW b) (ht : Asc t) (hl : t.length ≤ 1000000) : sem_findings_of [.sh (bkD b), .sh (.str t)] src = .ok true (.lst ((fndN b t).map pD)) [.sh (bkD b), .sh (.str t)] src := by
  let env : List Sl := [.sh (bkD b), .sh (.str t), .no, .no]
  have hr := rg1_ok (da := dN opLen (dCons (dVar 1) dNil)) (p := ⟨env, src⟩) (dN1_ok (var_sh (i := 1) rfl) rfl (opLen_str (by omega))) rfl (by omega)
  have hc := compN_pure (own := [2, 3]) (tg := gN 2) (rest := rFor [3] (dIv (dCall 3 sem_numbers_at (dCons (dVar 0) (dCons (dVar 1) (dCons (dVar 2) dNil))))) (gN 3) (dC (.bl true)) (rEnd (dTup (dCons (dVar 2) (dCons (dVar 3) dNil))))) (g := fun i => ((numsN b t i).map fun k => (i, k)).map pD) hr rfl (by
      refine Nat.le_trans (flat_len _ 5 _ fun i _ => ?_) (by rw [List.length_range]; omega)
      rw [List.length_map, List.length_map]
      exact Nat.le_trans numsN_len w.l) (fun i _ => by
    let e1 : List Sl := [.sh (bkD b), .sh (.str t), .sh (.int (i : Nat)), .no]
    have hn := call3 (fresh := true) (p := ⟨e1, src⟩) (da := dVar 0) (db := dVar 1) (dc := dVar 2) (var_sh (i := 0) rfl) rfl (var_sh (i := 1) rfl) rfl (var_sh (i := 2) rfl) rfl rfl (numbers_at_eq (i := i) w ht (by omega))
    have hd := div_of hn rfl rfl
    refine ⟨e1, e1, rfl, fun acc' hacc => ?_, rfl⟩
    unfold rFor
    rw [hd, bindN_ok]
    show cL [3] (gN 3) (dC (.bl true)) _ ((numsN b t i).map fun k => .int (k : Nat)) acc' ⟨e1, src⟩ = _
    have e2 : ((numsN b t i).map fun k => (i, k)).map pD = (numsN b t i).flatMap fun k => [pD (i, k)] := by
      rw [List.map_map]
      exact map_flat _ _
    rw [e2] at hacc ⊢
    exact cL_pure (numsN b t i) acc' hacc fun k _ => ⟨[.sh (bkD b), .sh (.str t), .sh (.int (i : Nat)), .sh (.int (k : Nat))], _, rfl, fun acc2 h2 => rEnd_ok (tup2_ok (var_sh (i := 2) rfl) rfl (var_sh (i := 3) rfl) rfl) rfl h2, rfl⟩) rfl
  unfold sem_findings_of semD
  show outFR _ (den_findings_of ⟨env, src⟩) = _
  unfold den_findings_of
  rw [ret_ok hc]
  unfold fndN
  rw [List.map_flatMap]
  rfl
def fxAt (b : List Fx) (n : Nat) : Fx := b.getD n ⟨[], [], [], []⟩
theorem ix_book {b : List Fx} {n : Nat} (h : n < b.length) : opIx (bkD b) (.int (n : Nat)) = some (.sh (fxD (fxAt b n))) := by
  show (atI (b.map fxD) (n : Int)).map Rv.sh = _
  rw [atI_nat _ _ (by rw [List.length_map]; exact h), List.getElem_map]
  unfold fxAt
  rw [List.getD_eq_getElem?_getD, List.getElem?_eq_getElem h]; rfl
theorem fxAt_mem {b : List Fx} {n : Nat} (h : n < b.length) : fxAt b n ∈ b := by
  unfold fxAt
  rw [List.getD_eq_getElem?_getD, List.getElem?_eq_getElem h]
  exact List.getElem_mem h
theorem fndN_lt {b : List Fx} {t : List Nat} : ∀ p ∈ fndN b t, p.2 < b.length := fun p hp => by
  unfold fndN at hp
  rw [List.mem_flatMap] at hp
  obtain ⟨i, _, hp⟩ := hp
  rw [List.mem_map] at hp
  obtain ⟨k, hk, rfl⟩ := hp
  unfold numsN at hk
  rw [List.mem_map] at hk
  obtain ⟨q, hq, rfl⟩ := hk
  have hq := (List.mem_filter.mp hq).1
  have := List.snd_lt_of_mem_zipIdx hq
  simpa using this
def stepT (b : List Fx) (s : List (Nat × Nat) × Nat) (p : Nat × Nat) : List (Nat × Nat) × Nat := if s.2 ≤ p.1 then (s.1 ++ [p], p.1 + (fxAt b p.2).o.length) else s
def takN (b : List Fx) (t : List Nat) : List (Nat × Nat) := ((fndN b t).foldl (stepT b) ([], 0)).1
def stepT' (b : List Fx) (s : (List (Nat × Nat) × Nat) × Option (Nat × Nat)) (p : Nat × Nat) : (List (Nat × Nat) × Nat) × Option (Nat × Nat) := (stepT b s.1 p, some p)
theorem foldT (b : List Fx) : ∀ (xs : List (Nat × Nat)) (s : (List (Nat × Nat) × Nat) × Option (Nat × Nat)), (xs.foldl (stepT' b) s).1 = xs.foldl (stepT b) s.1
  | [], _ => rfl
  | x :: xs, s => foldT b xs (stepT' b s x)
def sl1 : Option (Nat × Nat) → Sl
  | some p => .sh (.int (p.1 : Nat))
  | none => .no
def sl2 : Option (Nat × Nat) → Sl
  | some p => .sh (.int (p.2 : Nat))
  | none => .no
theorem taken_loop {b : List Fx} {t : D} {src : List Int × Int} (w : BkW b) : ∀ (n : Nat) (s : (List (Nat × Nat) × Nat) × Option (Nat × Nat)) (x : Nat × Nat), s.1.1.length + (n + 1) ≤ 16777216 → x.2 < b.length →
    (stepT' b s x).1.1.length + n ≤ 16777216 ∧ ∃ env', gT (gsC (gN 4) (gsC (gN 5) gsN)) (pD x) [.sh (bkD b), .sh t, .own false false (.lst (s.1.1.map pD)), .sh (.int (s.1.2 : Nat)), sl1 s.2, sl2 s.2] = some env' ∧
      sIf (d2 opGe (dVar 4) (dVar 3)) (sSeq (sApp 2 (dTup (dCons (dVar 4) (dCons (dVar 5) dNil)))) (sAsg 3 (d2 opAdd (dVar 4) (dN opLen (dCons (d2 opIx (d2 opIx (dVar 0) (dVar 5)) (dC (.int 1))) dNil))))) sNil ⟨env', src⟩ =
        .nx ⟨[.sh (bkD b), .sh t, .own false false (.lst ((stepT' b s x).1.1.map pD)), .sh (.int ((stepT' b s x).1.2 : Nat)), sl1 (stepT' b s x).2, sl2 (stepT' b s x).2], src⟩ := fun n s x hn hx => by
  obtain ⟨⟨fs, en⟩, o⟩ := s
  obtain ⟨a, k⟩ := x
  let e1 : List Sl := [.sh (bkD b), .sh t, .own false false (.lst (fs.map pD)), .sh (.int (en : Nat)), .sh (.int (a : Nat)), .sh (.int (k : Nat))]
  have hg : gT (gsC (gN 4) (gsC (gN 5) gsN)) (pD (a, k)) [.sh (bkD b), .sh t, .own false false (.lst (fs.map pD)), .sh (.int (en : Nat)), sl1 o, sl2 o] = some e1 := by
    cases o <;> rfl
  have ht : d2 opGe (dVar 4) (dVar 3) ⟨e1, src⟩ = .ok (.sh (.bl (decide (en ≤ a)))) ⟨e1, src⟩ := by
    have := d2_ok (f := opGe) (p := ⟨e1, src⟩) (var_sh (i := 4) rfl) (var_sh (i := 3) rfl) rfl rfl (Py.ge_int (a : Int) (en : Int))
    rw [this]
    simp only [Int.ofNat_le]
  have hlen : fs.length + (n + 1) ≤ 16777216 := hn
  by_cases hc : en ≤ a
  · have es : stepT b (fs, en) (a, k) = (fs ++ [(a, k)], a + (fxAt b k).o.length) := if_pos hc
    refine ⟨by show (stepT b (fs, en) (a, k)).1.length + n ≤ _; rw [es]; simp; omega, e1, hg, ?_⟩
    rw [decide_eq_true hc] at ht
    rw [if_t ht]
    show _ = Out.nx ⟨[.sh (bkD b), .sh t, .own false false (.lst ((stepT b (fs, en) (a, k)).1.map pD)), .sh (.int ((stepT b (fs, en) (a, k)).2 : Nat)), .sh (.int (a : Nat)), .sh (.int (k : Nat))], src⟩
    rw [es]
    let e2 : List Sl := [.sh (bkD b), .sh t, .own false false (.lst ((fs ++ [(a, k)]).map pD)), .sh (.int (en : Nat)), .sh (.int (a : Nat)), .sh (.int (k : Nat))]
    have h1 : sApp 2 (dTup (dCons (dVar 4) (dCons (dVar 5) dNil))) ⟨e1, src⟩ = .nx ⟨e2, src⟩ := by
      have := app_nx (i := 2) (p := ⟨e1, src⟩) (l := false) (ds := fs.map pD) rfl (tup2_ok (var_sh (i := 4) rfl) rfl (var_sh (i := 5) rfl) rfl) rfl (by rw [List.length_map]; omega)
      rw [this]
      show Out.nx (⟨[.sh (bkD b), .sh t, .own false false (.lst (fs.map pD ++ [pD (a, k)])), .sh (.int (en : Nat)), .sh (.int (a : Nat)), .sh (.int (k : Nat))], src⟩ : Py.PS) = Out.nx ⟨e2, src⟩
      rw [show fs.map pD ++ [pD (a, k)] = (fs ++ [(a, k)]).map pD by rw [List.map_append]; rfl]
    have h2 : d2 opAdd (dVar 4) (dN opLen (dCons (d2 opIx (d2 opIx (dVar 0) (dVar 5)) (dC (.int 1))) dNil)) ⟨e2, src⟩ = .ok (.sh (.int ((a + (fxAt b k).o.length : Nat) : Int))) ⟨e2, src⟩ := by
      rw [Int.natCast_add]
      refine d2_ok (var_sh (i := 4) rfl) (dN1_ok (d2_ok (d2_ok (var_sh (i := 0) rfl) (var_sh (i := 5) rfl) rfl rfl (ix_book hx)) (show dC (.int 1) _ = .ok (.sh (.int 1)) _ from rfl) rfl rfl (show opIx (fxD (fxAt b k)) (.int 1) = some (.sh (.str (fxAt b k).o)) from rfl)) rfl (opLen_str ?_)) rfl rfl (add_int _ _)
      have := w.o (fxAt b k) (fxAt_mem (show k < b.length from hx)); show (fxAt b k).o.length ≤ _; omega
    rw [seq_nx h1, asg_ok h2]
    rfl
  · have es : stepT b (fs, en) (a, k) = (fs, en) := if_neg hc
    refine ⟨by show (stepT b (fs, en) (a, k)).1.length + n ≤ _; rw [es]; show fs.length + n ≤ _; omega, e1, hg, ?_⟩
    rw [decide_eq_false hc] at ht
    rw [if_skip ht]
    show Out.nx ⟨e1, src⟩ = Out.nx ⟨[.sh (bkD b), .sh t, .own false false (.lst ((stepT b (fs, en) (a, k)).1.map pD)), .sh (.int ((stepT b (fs, en) (a, k)).2 : Nat)), .sh (.int (a : Nat)), .sh (.int (k : Nat))], src⟩
    rw [es]
theorem fndN_len {b : List Fx} {t : List Nat} (w : BkW b) : (fndN b t).length ≤ t.length * 5 := by
  have := flat_len (fun i => (numsN b t i).map fun k => (i, k)) 5 (List.range t.length) fun i _ => by
    rw [List.length_map]
    exact Nat.le_trans numsN_len w.l
  rw [List.length_range] at this
  exact this
theorem taken_of_eq {b : List Fx} {t : List Nat} {src : List Int × Int} (w : BkW b) (ht : Asc t) (hl : t.length ≤ 1000000) : sem_taken_of [.sh (bkD b), .sh (.str t)] src = .ok true (.lst ((takN b t).map pD)) [.sh (bkD b), .sh (.str t)] src := by
  let e0 : List Sl := [.sh (bkD b), .sh (.str t), .no, .no, .no, .no]
  let st : ((List (Nat × Nat) × Nat) × Option (Nat × Nat)) → Py.PS := fun s => ⟨[.sh (bkD b), .sh (.str t), .own false false (.lst (s.1.1.map pD)), .sh (.int (s.1.2 : Nat)), sl1 s.2, sl2 s.2], src⟩
  have s1 : sAsg 2 (dLst dNil) ⟨e0, src⟩ = .nx ⟨[.sh (bkD b), .sh (.str t), .own false false (.lst []), .no, .no, .no], src⟩ := rfl
  have s2 : sAsg 3 (dC (.int 0)) (⟨[.sh (bkD b), .sh (.str t), .own false false (.lst []), .no, .no, .no], src⟩ : Py.PS) = .nx (st (([], 0), none)) := rfl
  have hcall := call2 (fresh := true) (p := st (([], 0), none)) (da := dVar 0) (db := dVar 1) (var_sh (i := 0) rfl) rfl (var_sh (i := 1) rfl) rfl rfl (findings_of_eq w ht hl)
  have hd := div_of hcall rfl rfl
  have hloop := forL_fold (enc := pD) st (stepT' b) (fun n s => s.1.1.length + n ≤ 16777216) (fun p => p.2 < b.length) (fun n s x hn hx => taken_loop w n s x hn hx) (fndN b t) (([], 0), none) (by have := fndN_len (t := t) w; simp; omega) fndN_lt
  have s3 := for_none hd hloop
  unfold sem_taken_of semD
  show outFR _ (den_taken_of ⟨e0, src⟩) = _
  unfold den_taken_of
  rw [seq_nx s1, seq_nx s2, seq_nx s3]
  have e := foldT b (fndN b t) (([], 0), none)
  unfold takN
  rw [← e]
  rfl
def stepP (b : List Fx) (t : List Nat) (s : List Nat × Nat) (p : Nat × Nat) : List Nat × Nat := (s.1 ++ cut t s.2 p.1 ++ (fxAt b p.2).n, p.1 + (fxAt b p.2).o.length)
def putN (b : List Fx) (t : List Nat) (fs : List (Nat × Nat)) : List Nat := (fs.foldl (stepP b t) ([], 0)).1 ++ t.drop (fs.foldl (stepP b t) ([], 0)).2
def stepP' (b : List Fx) (t : List Nat) (s : (List Nat × Nat) × Option (Nat × Nat)) (p : Nat × Nat) : (List Nat × Nat) × Option (Nat × Nat) := (stepP b t s.1 p, some p)
theorem foldP (b : List Fx) (t : List Nat) : ∀ (xs : List (Nat × Nat)) (s : (List Nat × Nat) × Option (Nat × Nat)), (xs.foldl (stepP' b t) s).1 = xs.foldl (stepP b t) s.1
  | [], _ => rfl
  | x :: xs, s => foldP b t xs (stepP' b t s x)
theorem cut_len (x : List Nat) (i j : Nat) : (cut x i j).length ≤ x.length := by
  unfold cut
  rw [List.length_take, List.length_drop]
  omega
theorem put_loop {b : List Fx} {t : List Nat} {fd : D} {src : List Int × Int} (w : BkW b) (hl : t.length ≤ 1000000) : ∀ (n : Nat) (s : (List Nat × Nat) × Option (Nat × Nat)) (x : Nat × Nat), s.1.1.length + (n + 1) * (t.length + 4) + t.length ≤ 16777216 → x.2 < b.length →
    (stepP' b t s x).1.1.length + n * (t.length + 4) + t.length ≤ 16777216 ∧ ∃ env', gT (gsC (gN 5) (gsC (gN 6) gsN)) (pD x) [.sh (bkD b), .sh (.str t), .sh fd, .sh (.str s.1.1), .sh (.int (s.1.2 : Nat)), sl1 s.2, sl2 s.2] = some env' ∧
      sSeq (sAsg 3 (d2 opAdd (d2 opAdd (dVar 3) (dSl (dVar 1) (dO1 (dVar 4)) (dO1 (dVar 5)))) (d2 opIx (d2 opIx (dVar 0) (dVar 6)) (dC (.int 2))))) (sAsg 4 (d2 opAdd (dVar 5) (dN opLen (dCons (d2 opIx (d2 opIx (dVar 0) (dVar 6)) (dC (.int 1))) dNil)))) ⟨env', src⟩ =
        .nx ⟨[.sh (bkD b), .sh (.str t), .sh fd, .sh (.str (stepP' b t s x).1.1), .sh (.int ((stepP' b t s x).1.2 : Nat)), sl1 (stepP' b t s x).2, sl2 (stepP' b t s x).2], src⟩ := fun n s x hn hx => by
  obtain ⟨⟨ps, en⟩, o⟩ := s
  obtain ⟨a, k⟩ := x
  have hk : k < b.length := hx
  have hn : ps.length + (n + 1) * (t.length + 4) + t.length ≤ 16777216 := hn
  have hm := fxAt_mem hk
  have h3 := w.n _ hm
  have h4 := w.o _ hm
  have h5 := cut_len t en a
  rw [Nat.add_mul] at hn
  let e1 : List Sl := [.sh (bkD b), .sh (.str t), .sh fd, .sh (.str ps), .sh (.int (en : Nat)), .sh (.int (a : Nat)), .sh (.int (k : Nat))]
  let e2 : List Sl := [.sh (bkD b), .sh (.str t), .sh fd, .sh (.str (ps ++ cut t en a ++ (fxAt b k).n)), .sh (.int (en : Nat)), .sh (.int (a : Nat)), .sh (.int (k : Nat))]
  have hg : gT (gsC (gN 5) (gsC (gN 6) gsN)) (pD (a, k)) [.sh (bkD b), .sh (.str t), .sh fd, .sh (.str ps), .sh (.int (en : Nat)), sl1 o, sl2 o] = some e1 := by
    cases o <;> rfl
  have c1 := sl_ok (p := ⟨e1, src⟩) (var_sh (i := 1) rfl) (o1_ok (var_sh (i := 4) rfl)) (o1_ok (var_sh (i := 5) rfl)) rfl (opSl_str (show t.length ≤ 16777216 by omega))
  rw [cutD_nat] at c1
  have ixk : ∀ (e : List Sl), e[0]? = some (.sh (bkD b)) → e[6]? = some (.sh (.int (k : Nat))) → d2 opIx (dVar 0) (dVar 6) ⟨e, src⟩ = .ok (.sh (fxD (fxAt b k))) ⟨e, src⟩ := fun e q1 q2 => d2_ok (var_sh (i := 0) q1) (var_sh (i := 6) q2) rfl rfl (ix_book hk)
  have h1 : d2 opAdd (d2 opAdd (dVar 3) (dSl (dVar 1) (dO1 (dVar 4)) (dO1 (dVar 5)))) (d2 opIx (d2 opIx (dVar 0) (dVar 6)) (dC (.int 2))) ⟨e1, src⟩ = .ok (.sh (.str (ps ++ cut t en a ++ (fxAt b k).n))) ⟨e1, src⟩ := by
    refine d2_ok (d2_ok (var_sh (i := 3) rfl) c1 rfl rfl (add_str (by omega))) (d2_ok (ixk e1 rfl rfl) (show dC (.int 2) _ = .ok (.sh (.int 2)) _ from rfl) rfl rfl (show opIx (fxD (fxAt b k)) (.int 2) = some (.sh (.str (fxAt b k).n)) from rfl)) rfl rfl (add_str ?_)
    rw [List.length_append]
    omega
  have h2 : d2 opAdd (dVar 5) (dN opLen (dCons (d2 opIx (d2 opIx (dVar 0) (dVar 6)) (dC (.int 1))) dNil)) ⟨e2, src⟩ = .ok (.sh (.int ((a + (fxAt b k).o.length : Nat) : Int))) ⟨e2, src⟩ := by
    rw [Int.natCast_add]
    exact d2_ok (var_sh (i := 5) rfl) (dN1_ok (d2_ok (ixk e2 rfl rfl) (show dC (.int 1) _ = .ok (.sh (.int 1)) _ from rfl) rfl rfl (show opIx (fxD (fxAt b k)) (.int 1) = some (.sh (.str (fxAt b k).o)) from rfl)) rfl (opLen_str (by omega))) rfl rfl (add_int _ _)
  have hA : sAsg 3 (d2 opAdd (d2 opAdd (dVar 3) (dSl (dVar 1) (dO1 (dVar 4)) (dO1 (dVar 5)))) (d2 opIx (d2 opIx (dVar 0) (dVar 6)) (dC (.int 2)))) ⟨e1, src⟩ = .nx ⟨e2, src⟩ := asg_ok h1
  refine ⟨?_, e1, hg, ?_⟩
  · show (ps ++ cut t en a ++ (fxAt b k).n).length + n * (t.length + 4) + t.length ≤ _
    rw [List.length_append, List.length_append]
    omega
  · rw [seq_nx hA, asg_ok h2]
    rfl
theorem put_in_eq {b : List Fx} {t : List Nat} {fs : List (Nat × Nat)} {src : List Int × Int} (w : BkW b) (hl : t.length ≤ 1000) (hf : fs.length ≤ 5000) (hk : ∀ p ∈ fs, p.2 < b.length) : sem_put_in [.sh (bkD b), .sh (.str t), .sh (.lst (fs.map pD))] src = .ok false (.str (putN b t fs)) [.sh (bkD b), .sh (.str t), .sh (.lst (fs.map pD))] src := by
  let e0 : List Sl := [.sh (bkD b), .sh (.str t), .sh (.lst (fs.map pD)), .no, .no, .no, .no]
  let st : ((List Nat × Nat) × Option (Nat × Nat)) → Py.PS := fun s => ⟨[.sh (bkD b), .sh (.str t), .sh (.lst (fs.map pD)), .sh (.str s.1.1), .sh (.int (s.1.2 : Nat)), sl1 s.2, sl2 s.2], src⟩
  have hmul : fs.length * (t.length + 4) ≤ 5000 * 1004 := Nat.mul_le_mul hf (by omega)
  have s1 : sAsgT (gT (gsC (gN 3) (gsC (gN 4) gsN))) (dTup (dCons (dC (.str [])) (dCons (dC (.int 0)) dNil))) ⟨e0, src⟩ = .nx (st (([], 0), none)) := rfl
  have hd := div_of (p := st (([], 0), none)) (var_sh (i := 2) rfl) rfl rfl
  have inv : ∀ (n : Nat) (s : (List Nat × Nat) × Option (Nat × Nat)), s.1.1.length + n * (t.length + 4) + t.length ≤ 16777216 → ∀ xs : List (Nat × Nat), xs.length = n → (∀ p ∈ xs, p.2 < b.length) → (xs.foldl (stepP' b t) s).1.1.length + t.length ≤ 16777216 := fun n => by
    induction n with
    | zero =>
      intro s hs xs hx _
      cases xs with
      | nil => simpa using hs
      | cons _ _ => cases hx
    | succ n ih =>
      intro s hs xs hx hp
      cases xs with
      | nil => cases hx
      | cons x xs =>
        exact ih (stepP' b t s x) (put_loop (fd := .non) (src := src) w (by omega) n s x hs (hp x List.mem_cons_self)).1 xs (by simpa using hx) fun p h => hp p (List.mem_cons_of_mem _ h)
  have h0 : (([], 0) : List Nat × Nat).1.length + fs.length * (t.length + 4) + t.length ≤ 16777216 := by
    show 0 + fs.length * (t.length + 4) + t.length ≤ _
    omega
  have hloop := forL_fold (enc := pD) st (stepP' b t) (fun n s => s.1.1.length + n * (t.length + 4) + t.length ≤ 16777216) (fun p => p.2 < b.length) (fun n s x hn hx => put_loop w (by omega) n s x hn hx) fs (([], 0), none) h0 hk
  have s2 := for_none hd hloop
  have hend := inv fs.length (([], 0), none) h0 fs rfl hk
  have e := foldP b t fs (([], 0), none)
  generalize hr : fs.foldl (stepP' b t) (([], 0), none) = r at s2 hend e
  have c1 := sl_ok (p := st r) (var_sh (i := 1) rfl) (o1_ok (var_sh (i := 4) rfl)) (show dO0 (st r) = .ok none (st r) from rfl) rfl (opSl_str (show t.length ≤ 16777216 by omega))
  rw [cutD_from] at c1
  have h1 := d2_ok (f := opAdd) (p := st r) (var_sh (i := 3) rfl) c1 rfl rfl (add_str (by rw [List.length_drop]; omega))
  unfold sem_put_in semD
  show outFR _ (den_put_in ⟨e0, src⟩) = _
  unfold den_put_in
  rw [seq_nx s1, seq_nx s2, ret_ok h1]
  unfold putN
  rw [← e]
  rfl
theorem fold_sub (b : List Fx) : ∀ (xs : List (Nat × Nat)) (s : List (Nat × Nat) × Nat), (∀ p ∈ (xs.foldl (stepT b) s).1, p ∈ s.1 ∨ p ∈ xs) ∧ (xs.foldl (stepT b) s).1.length ≤ s.1.length + xs.length
  | [], s => ⟨fun p h => .inl h, Nat.le_refl _⟩
  | x :: xs, s => by
    obtain ⟨h1, h2⟩ := fold_sub b xs (stepT b s x)
    have h3 : (stepT b s x).1 = s.1 ∨ (stepT b s x).1 = s.1 ++ [x] := by
      unfold stepT
      split
      · exact .inr rfl
      · exact .inl rfl
    refine ⟨fun p hp => ?_, ?_⟩
    · rcases h1 p hp with h | h
      · rcases h3 with e | e
        · rw [e] at h; exact .inl h
        · rw [e] at h
          rcases List.mem_append.mp h with h | h
          · exact .inl h
          · rw [List.mem_singleton.mp h]; exact .inr List.mem_cons_self
      · exact .inr (List.mem_cons_of_mem _ h)
    · rw [List.length_cons]
      rcases h3 with e | e
      · rw [e] at h2; exact Nat.le_trans h2 (by omega)
      · rw [e, List.length_append] at h2
        exact Nat.le_trans h2 (by simp; omega)
theorem takN_lt {b : List Fx} {t : List Nat} : ∀ p ∈ takN b t, p.2 < b.length := fun p hp => by
  rcases (fold_sub b (fndN b t) ([], 0)).1 p hp with h | h
  · cases h
  · exact fndN_lt p h
theorem takN_len {b : List Fx} {t : List Nat} (w : BkW b) : (takN b t).length ≤ t.length * 5 := by
  have h := (fold_sub b (fndN b t) ([], 0)).2
  have h2 := fndN_len (t := t) w
  unfold takN
  simp only [List.length_nil] at h
  omega
def rdN (b : List Fx) (t : List Nat) : List Nat := putN b t (takN b t)
theorem round_of_eq {b : List Fx} {t : List Nat} {src : List Int × Int} (w : BkW b) (ht : Asc t) (hl : t.length ≤ 1000) : sem_round_of [.sh (bkD b), .sh (.str t)] src = .ok false (.str (rdN b t)) [.sh (bkD b), .sh (.str t)] src := by
  let p : Py.PS := ⟨[.sh (bkD b), .sh (.str t)], src⟩
  have h1 := call2 (fresh := true) (p := p) (da := dVar 0) (db := dVar 1) (var_sh (i := 0) rfl) rfl (var_sh (i := 1) rfl) rfl rfl (taken_of_eq w ht (by omega))
  have h2 := call3 (fresh := false) (p := p) (da := dVar 0) (db := dVar 1) (var_sh (i := 0) rfl) rfl (var_sh (i := 1) rfl) rfl h1 rfl rfl (put_in_eq w hl (by have := takN_len (t := t) w; omega) takN_lt)
  unfold sem_round_of semD
  show outFR _ (den_round_of p) = _
  unfold den_round_of
  rw [ret_ok h2]
  rfl
structure BkOk (b : List Fx) : Prop extends BkW b where
  ok : ∀ f ∈ b, fxOk f = true
  a : ∀ f ∈ b, f.a.length ≤ 1
theorem tok_of {x : List Nat} (h : Asc x) (hl : x.length ≤ 1000) : tok x := ⟨by omega, okq_asc h⟩
theorem check_book_ok {b : List Fx} {src : List Int × Int} (w : BkOk b) : sem_check_book [.sh (bkD b)] src = .ok false .non [.sh (bkD b)] src :=
  check_book_eq w.l (fun f hf => ⟨tok_of (w.f f hf).a (by have := w.a f hf; omega), tok_of (w.f f hf).o (by have := w.o f hf; omega), tok_of (w.f f hf).n (by have := w.n f hf; omega), tok_of (w.f f hf).b (by have := w.fb f hf; omega)⟩) w.ok
theorem txN_asc {n : Nat} {x : List Nat} (h : txN n x = true) : Asc x ∧ x.length ≤ n := by
  unfold txN at h
  rw [Bool.and_eq_true] at h
  refine ⟨fun c hc => ?_, of_decide_eq_true h.1⟩
  have := List.all_eq_true.mp h.2 c hc
  have hm := of_decide_eq_true this
  simp [letsN] at hm
  omega
theorem findings_eq {b : List Fx} {t : List Nat} {src : List Int × Int} (w : BkOk b) (ht : txN 200 t = true) : sem_findings [.sh (bkD b), .sh (.str t)] src = .ok true (.lst ((fndN b t).map pD)) [.sh (bkD b), .sh (.str t)] src := by
  let p : Py.PS := ⟨[.sh (bkD b), .sh (.str t)], src⟩
  obtain ⟨h1, h2⟩ := txN_asc ht
  have c1 := exp_ok (call1 (fresh := false) (p := p) (da := dVar 0) (var_sh (i := 0) rfl) rfl rfl (check_book_ok w))
  have c2 := exp_ok (call1 (fresh := false) (p := p) (da := dVar 1) (var_sh (i := 1) rfl) rfl rfl (check_text_eq ht))
  have c3 := call2 (fresh := true) (p := p) (da := dVar 0) (db := dVar 1) (var_sh (i := 0) rfl) rfl (var_sh (i := 1) rfl) rfl rfl (findings_of_eq w.toBkW h1 (by omega))
  unfold sem_findings semD
  show outFR _ (den_findings p) = _
  unfold den_findings
  rw [seq_nx c1, seq_nx c2, ret_ok c3]
  rfl
theorem taken_eq {b : List Fx} {t : List Nat} {src : List Int × Int} (w : BkOk b) (ht : txN 200 t = true) : sem_taken [.sh (bkD b), .sh (.str t)] src = .ok true (.lst ((takN b t).map pD)) [.sh (bkD b), .sh (.str t)] src := by
  let p : Py.PS := ⟨[.sh (bkD b), .sh (.str t)], src⟩
  obtain ⟨h1, h2⟩ := txN_asc ht
  have c1 := exp_ok (call1 (fresh := false) (p := p) (da := dVar 0) (var_sh (i := 0) rfl) rfl rfl (check_book_ok w))
  have c2 := exp_ok (call1 (fresh := false) (p := p) (da := dVar 1) (var_sh (i := 1) rfl) rfl rfl (check_text_eq ht))
  have c3 := call2 (fresh := true) (p := p) (da := dVar 0) (db := dVar 1) (var_sh (i := 0) rfl) rfl (var_sh (i := 1) rfl) rfl rfl (taken_of_eq w.toBkW h1 (by omega))
  unfold sem_taken semD
  show outFR _ (den_taken p) = _
  unfold den_taken
  rw [seq_nx c1, seq_nx c2, ret_ok c3]
  rfl
theorem one_round_eq {b : List Fx} {t : List Nat} {src : List Int × Int} (w : BkOk b) (ht : txN 200 t = true) : sem_one_round [.sh (bkD b), .sh (.str t)] src = .ok false (.str (rdN b t)) [.sh (bkD b), .sh (.str t)] src := by
  let p : Py.PS := ⟨[.sh (bkD b), .sh (.str t)], src⟩
  obtain ⟨h1, h2⟩ := txN_asc ht
  have c1 := exp_ok (call1 (fresh := false) (p := p) (da := dVar 0) (var_sh (i := 0) rfl) rfl rfl (check_book_ok w))
  have c2 := exp_ok (call1 (fresh := false) (p := p) (da := dVar 1) (var_sh (i := 1) rfl) rfl rfl (check_text_eq ht))
  have c3 := call2 (fresh := false) (p := p) (da := dVar 0) (db := dVar 1) (var_sh (i := 0) rfl) rfl (var_sh (i := 1) rfl) rfl rfl (round_of_eq w.toBkW h1 (by omega))
  unfold sem_one_round semD
  show outFR _ (den_one_round p) = _
  unfold den_one_round
  rw [seq_nx c1, seq_nx c2, ret_ok c3]
  rfl
end Pg
set_option maxRecDepth 100000
namespace Pg
open PySem PySem.Spec PyProof.Rows L2 Py
/-! ### what read_paper reads, in plain words -/
noncomputable def cutAt (x : List Nat) (c : Nat) : List (List Nat) := (Txt.split (S x) (S [c])).map fun z => z.cps.toList
noncomputable def linesOf (x : List Nat) : List (List Nat) := cutAt x 10
noncomputable def wordsOf (l : List Nat) : Txs := (cutAt l 32).filter fun w => decide (w ≠ [])
def okX (x : List Nat) : Bool := decide (x.length ≤ 100000)
def tokB (x : List Nat) : Bool := decide (x.length ≤ 16777216) && okq (.str x)
theorem tokB_of {x : List Nat} (h : tokB x = true) : tok x := by
  unfold tokB at h
  rw [Bool.and_eq_true, decide_eq_true_eq] at h
  exact h
noncomputable def okLn (l : List Nat) : Bool := decide (l.length ≤ 100000) && (cutAt l 32).all tokB
def offW (w : List Nat) : List Nat := if w = [45] then [] else w
def fixOf (ws : Txs) : Txs := (ws.drop 1).map offW
def okF (ws : Txs) : Bool := match ws with
  | [_, a, o, n, b] => tokB a && (tokB o && (tokB n && (tokB b && fxOk ⟨offW a, offW o, offW n, offW b⟩)))
  | _ => false
def okT (ws : Txs) : Bool := match ws with
  | [_, t] => tokB t && txN 200 (offW t)
  | _ => false
def txtOf (ws : Txs) : List Nat := match ws with
  | [_, t] => offW t
  | _ => []
def isF (ws : Txs) : Bool := ws.head? == some [102, 105, 120]
def isT (ws : Txs) : Bool := ws.head? == some [116, 101, 120, 116]
def okW (ws : Txs) : Bool := decide (ws ≠ []) && ws.all tokB
def stpAll : StpT := stpLine okW isF isT (stpFix okF fixOf) (stpText okT txtOf)
noncomputable def paperOf (x : List Nat) : Option (Fxs × List Nat) := rdPaper okX okLn linesOf wordsOf stpAll x
end Pg
set_option maxRecDepth 100000
set_option maxHeartbeats 4000000
namespace K38
open PySem PySem.Spec PyProof.Rows L2 Py Pg
def top (i : Nat) : Stmt := PySem.Challenge.pw_restingfixes_k38_errors.main.body.getD i (.Pass ⟨0, 0, 0, 0⟩)
abbrev errs : List Nat := [0, 1, 2, 3, 4, 5, 6, 7, 8, 9, 10, 11, 12, 13]
def er (n : Nat) : Bool := errs.contains n
def mth (i j : Nat) : Stmt := match top i with
  | .ClassDef _ _ _ body .. => body.getD j (.Pass ⟨0, 0, 0, 0⟩)
  | s => s
abbrev st_law_draw : Stmt := top 17
abbrev st_law_pick : Stmt := top 18
abbrev st_law_kinds : Stmt := top 19
abbrev st_law_made : Stmt := top 20
abbrev st_law_made_with : Stmt := top 21
abbrev st_law_source : Stmt := top 16
abbrev st_law : Stmt := top 22
abbrev st_InvalidText_init : Stmt := mth 7 0
abbrev st_InvalidLine_init : Stmt := mth 14 0
abbrev N_law_kinds : List Str := ["e", "found"]
noncomputable def den_law_kinds : SDn := sSeq (sAsg 1 (dLst (dCons (d1 (opIsE er 1) (dVar 0)) (dCons (d1 (opIsE er 2) (dVar 0)) (dCons (d1 (opIsE er 3) (dVar 0)) (dNil)))))) (sSeq (sAsg 1 (d2 opAdd (dVar 1) (dLst (dCons (d1 (opIsE er 4) (dVar 0)) (dCons (d1 (opIsE er 5) (dVar 0)) (dNil)))))) (sSeq (sAsg 1 (d2 opAdd (dVar 1) (dLst (dCons (d1 (opIsE er 7) (dVar 0)) (dCons (d1 (opIsE er 8) (dVar 0)) (dNil)))))) (sSeq (sAsg 1 (d2 opAdd (dVar 1) (dLst (dCons (d1 (opIsE er 9) (dVar 0)) (dCons (d1 (opIsE er 10) (dVar 0)) (dNil)))))) (sSeq (sAsg 1 (d2 opAdd (dVar 1) (dLst (dCons (d1 (opIsE er 11) (dVar 0)) (dCons (d1 (opIsE er 12) (dVar 0)) (dNil)))))) (sSeq (sAsg 1 (d2 opAdd (dVar 1) (dLst (dCons (d1 (opIsE er 6) (dVar 0)) (dCons (d1 (opIsE er 13) (dVar 0)) (dNil)))))) (sRet (dVar 1)))))))
noncomputable def sem_law_kinds : List Sl → List Int × Int → FR := semD 2 den_law_kinds
abbrev N_law_made : List Str := ["found"]
noncomputable def den_law_made : SDn := sSeq (sAsg 0 (dLst (dCons (dMk0 1) (dCons (dMk0 2) (dCons (dMk0 3) (dCons (dMk0 4) (dCons (dMk0 5) (dNil)))))))) (sSeq (sAsg 0 (d2 opAdd (dVar 0) (dLst (dCons (dMk0 7) (dCons (dMk0 8) (dCons (dMk0 9) (dCons (dMk0 10) (dCons (dMk0 11) (dNil))))))))) (sSeq (sAsg 0 (d2 opAdd (dVar 0) (dLst (dCons (dMk0 12) (dNil))))) (sRet (dVar 0))))
noncomputable def sem_law_made : List Sl → List Int × Int → FR := semD 1 den_law_made
abbrev N_law_made_with : List Str := ["word", "found"]
noncomputable def den_law_made_with : SDn := sSeq (sAsg 1 (dLst (dCons (dMk1 1 (dVar 0)) (dCons (dMk1 2 (dVar 0)) (dCons (dMk1 3 (dVar 0)) (dCons (dMk1 4 (dVar 0)) (dNil))))))) (sSeq (sAsg 1 (d2 opAdd (dVar 1) (dLst (dCons (dMk1 5 (dVar 0)) (dCons (dMk1 7 (dVar 0)) (dCons (dMk1 8 (dVar 0)) (dCons (dMk1 9 (dVar 0)) (dNil)))))))) (sSeq (sAsg 1 (d2 opAdd (dVar 1) (dLst (dCons (dMk1 10 (dVar 0)) (dCons (dMk1 11 (dVar 0)) (dCons (dMk1 12 (dVar 0)) (dNil))))))) (sRet (dVar 1))))
noncomputable def sem_law_made_with : List Sl → List Int × Int → FR := semD 2 den_law_made_with
abbrev N_law : List Str := ["script", "source", "word", "line", "reason", "second", "last", "more", "made", "at", "k"]
noncomputable def den_law : SDn := sSeq (sAsg 2 (dCall 2 sem_law_pick (dCons (dVar 1) (dCons (dLst (dCons (dC (.str [])) (dCons (dC (.str [97])) (dCons (dC (.str [119, 114, 111, 110, 103])) (dCons (d2 opMul (dC (.str [110, 111, 32, 118, 97, 108, 117, 101, 32])) (dC (.int 9))) (dNil)))))) (dNil))))) (sSeq (sParA 3 4 (dCall 2 sem_law_draw (dCons (dVar 1) (dCons (dC (.int 1000)) (dNil)))) (dCall 2 sem_law_pick (dCons (dVar 1) (dCons (dLst (dCons (dC (.str [108, 105, 110, 101])) (dCons (dC (.str [102, 105, 120])) (dCons (dC (.str [116, 101, 120, 116])) (dCons (dC (.str [101, 110, 100])) (dNil)))))) (dNil))))) (sSeq (sAsg 5 (d2 opIxA ((fun p => .ok (.ow (.dic [(.str [108, 105, 110, 101], .str [102, 105, 120]), (.str [102, 105, 120], .str [116, 101, 120, 116]), (.str [116, 101, 120, 116], .str [101, 110, 100]), (.str [101, 110, 100], .str [108, 105, 110, 101])])) p)) (dVar 4))) (sSeq (sAsg 6 (dLst (dCons (dMkX 6 (dCons (dVar 3) (dNil))) (dCons (dMkX 13 (dCons (dVar 3) (dCons (dVar 4) (dNil)))) (dNil))))) (sSeq (sAsg 7 (dLst (dCons (dMkX 6 (dCons (d2 opAdd (dVar 3) (dC (.int 1))) (dNil))) (dCons (dMkX 13 (dCons (d2 opAdd (dVar 3) (dC (.int 2))) (dCons (dVar 5) (dNil)))) (dNil))))) (sSeq (sIf (d2 opNe (dLst (dCons (d1 (opXf er "at") (d2 opIx (dVar 6) (dC (.int 0)))) (dCons (d1 (opXf er "line") (d2 opIx (dVar 6) (dC (.int 1)))) (dCons (d1 (opXf er "reason") (d2 opIx (dVar 6) (dC (.int 1)))) (dNil))))) (dLst (dCons (dVar 3) (dCons (dVar 3) (dCons (dVar 4) (dNil)))))) (sRet (dC (.bl false))) (sNil)) (sSeq (sIf (d2 opNe (dLst (dCons (d1 (opXf er "at") (d2 opIx (dVar 7) (dC (.int 0)))) (dCons (d1 (opXf er "line") (d2 opIx (dVar 7) (dC (.int 1)))) (dCons (d1 (opXf er "reason") (d2 opIx (dVar 7) (dC (.int 1)))) (dNil))))) (dLst (dCons (d2 opAdd (dVar 3) (dC (.int 1))) (dCons (d2 opAdd (dVar 3) (dC (.int 2))) (dCons (dVar 5) (dNil)))))) (sRet (dC (.bl false))) (sNil)) (sSeq (sIf (dOr (d2 opIn (dC (.bl true)) (dCall 1 sem_law_kinds (dCons (dMk0 0) (dNil)))) (d2 opIn (dC (.bl true)) (dCall 1 sem_law_kinds (dCons (dMk1 0 (dVar 2)) (dNil))))) (sRet (dC (.bl false))) (sNil)) (sSeq (sFor (dIv (dLst (dCons (d2 opAdd (dCall 0 sem_law_made dNil) (dVar 6)) (dCons (d2 opAdd (dCall 1 sem_law_made_with (dCons (dVar 2) (dNil))) (dVar 7)) (dNil))))) (gN 8) (sFor (dRg1 (dN opLen (dCons (dVar 8) (dNil)))) (gN 9) (sSeq (sIf (d2 opNe (dCall 1 sem_law_kinds (dCons (d2 opIx (dVar 8) (dVar 9)) (dNil))) (dComp [10] (dRg1 (dN opLen (dCons (dVar 8) (dNil)))) (gN 10) (dC (.bl true)) (d2 opEq (dVar 10) (dVar 9)))) (sRet (dC (.bl false))) (sNil)) (sIf (dOr (dNot (d1 (opIsE er 0) (d2 opIx (dVar 8) (dVar 9)))) (dNot (d1 (opIsV er) (d2 opIx (dVar 8) (dVar 9))))) (sRet (dC (.bl false))) (sNil))))) (sRet (dC (.bl true)))))))))))
noncomputable def B : TabB := ⟨errs, [some "_law_draw", some "_law_pick", some "_law_kinds", some "_law_made", some "_law_made_with"], [none, none, none, none, none], [], [2, 2, 1, 0, 1], [sem_law_draw, sem_law_pick, sem_law_kinds, sem_law_made, sem_law_made_with], ["int", "len", "abs", "range", "super", "isinstance", "ValueError"], []⟩
theorem vb_law_pick : VB ⟨N_law_pick, defScope st_law_pick, fun _ => true⟩ (tab B 1) (defBody st_law_pick) den_law_pick :=
  vb_one (vs_ret (v_ix (fun X c => ix_seq) (fun K => op2_ix) (v_var 1 rfl (by decide +kernel)) (v_call 0 (by rfl) (gl_of (by decide +kernel)) (vl_cons (v_var 0 rfl (by decide +kernel)) (vl_cons (v_bi (fun X c => call_len) (fun K => opn_len) (gl_of (by decide +kernel)) (by decide +kernel) (by decide +kernel) (vl_cons (v_var 1 rfl (by decide +kernel)) (vl_nil))) (vl_nil)))) (fun _ _ => rfl)))
theorem vb_law_kinds : VB ⟨N_law_kinds, defScope st_law_kinds, fun _ => true⟩ (tab B 2) (defBody st_law_kinds) den_law_kinds :=
  vb_cons (vs_set 1 rfl (by decide +kernel) (v_lst (vl_cons (v_ise er 1 (by rfl) (by decide) (by decide) (v_var 0 rfl (by decide +kernel)) (gl_of (by decide +kernel)) (by decide +kernel) (gl_of (by decide +kernel))) (vl_cons (v_ise er 2 (by rfl) (by decide) (by decide) (v_var 0 rfl (by decide +kernel)) (gl_of (by decide +kernel)) (by decide +kernel) (gl_of (by decide +kernel))) (vl_cons (v_ise er 3 (by rfl) (by decide) (by decide) (v_var 0 rfl (by decide +kernel)) (gl_of (by decide +kernel)) (by decide +kernel) (gl_of (by decide +kernel))) (vl_nil)))))) (vb_cons (vs_set 1 rfl (by decide +kernel) (v_bin (fun X c => op_adds) (fun K => op2_add) (v_var 1 rfl (by decide +kernel)) (v_lst (vl_cons (v_ise er 4 (by rfl) (by decide) (by decide) (v_var 0 rfl (by decide +kernel)) (gl_of (by decide +kernel)) (by decide +kernel) (gl_of (by decide +kernel))) (vl_cons (v_ise er 5 (by rfl) (by decide) (by decide) (v_var 0 rfl (by decide +kernel)) (gl_of (by decide +kernel)) (by decide +kernel) (gl_of (by decide +kernel))) (vl_nil)))))) (vb_cons (vs_set 1 rfl (by decide +kernel) (v_bin (fun X c => op_adds) (fun K => op2_add) (v_var 1 rfl (by decide +kernel)) (v_lst (vl_cons (v_ise er 7 (by rfl) (by decide) (by decide) (v_var 0 rfl (by decide +kernel)) (gl_of (by decide +kernel)) (by decide +kernel) (gl_of (by decide +kernel))) (vl_cons (v_ise er 8 (by rfl) (by decide) (by decide) (v_var 0 rfl (by decide +kernel)) (gl_of (by decide +kernel)) (by decide +kernel) (gl_of (by decide +kernel))) (vl_nil)))))) (vb_cons (vs_set 1 rfl (by decide +kernel) (v_bin (fun X c => op_adds) (fun K => op2_add) (v_var 1 rfl (by decide +kernel)) (v_lst (vl_cons (v_ise er 9 (by rfl) (by decide) (by decide) (v_var 0 rfl (by decide +kernel)) (gl_of (by decide +kernel)) (by decide +kernel) (gl_of (by decide +kernel))) (vl_cons (v_ise er 10 (by rfl) (by decide) (by decide) (v_var 0 rfl (by decide +kernel)) (gl_of (by decide +kernel)) (by decide +kernel) (gl_of (by decide +kernel))) (vl_nil)))))) (vb_cons (vs_set 1 rfl (by decide +kernel) (v_bin (fun X c => op_adds) (fun K => op2_add) (v_var 1 rfl (by decide +kernel)) (v_lst (vl_cons (v_ise er 11 (by rfl) (by decide) (by decide) (v_var 0 rfl (by decide +kernel)) (gl_of (by decide +kernel)) (by decide +kernel) (gl_of (by decide +kernel))) (vl_cons (v_ise er 12 (by rfl) (by decide) (by decide) (v_var 0 rfl (by decide +kernel)) (gl_of (by decide +kernel)) (by decide +kernel) (gl_of (by decide +kernel))) (vl_nil)))))) (vb_cons (vs_set 1 rfl (by decide +kernel) (v_bin (fun X c => op_adds) (fun K => op2_add) (v_var 1 rfl (by decide +kernel)) (v_lst (vl_cons (v_ise er 6 (by rfl) (by decide) (by decide) (v_var 0 rfl (by decide +kernel)) (gl_of (by decide +kernel)) (by decide +kernel) (gl_of (by decide +kernel))) (vl_cons (v_ise er 13 (by rfl) (by decide) (by decide) (v_var 0 rfl (by decide +kernel)) (gl_of (by decide +kernel)) (by decide +kernel) (gl_of (by decide +kernel))) (vl_nil)))))) (vb_one (vs_ret (v_var 1 rfl (by decide +kernel)))))))))
theorem vb_law_made : VB ⟨N_law_made, defScope st_law_made, fun _ => true⟩ (tab B 3) (defBody st_law_made) den_law_made :=
  vb_cons (vs_set 0 rfl (by decide +kernel) (v_lst (vl_cons (v_mk0 1 (by decide) (by decide) (gl_of (by decide +kernel))) (vl_cons (v_mk0 2 (by decide) (by decide) (gl_of (by decide +kernel))) (vl_cons (v_mk0 3 (by decide) (by decide) (gl_of (by decide +kernel))) (vl_cons (v_mk0 4 (by decide) (by decide) (gl_of (by decide +kernel))) (vl_cons (v_mk0 5 (by decide) (by decide) (gl_of (by decide +kernel))) (vl_nil)))))))) (vb_cons (vs_set 0 rfl (by decide +kernel) (v_bin (fun X c => op_adds) (fun K => op2_add) (v_var 0 rfl (by decide +kernel)) (v_lst (vl_cons (v_mk0 7 (by decide) (by decide) (gl_of (by decide +kernel))) (vl_cons (v_mk0 8 (by decide) (by decide) (gl_of (by decide +kernel))) (vl_cons (v_mk0 9 (by decide) (by decide) (gl_of (by decide +kernel))) (vl_cons (v_mk0 10 (by decide) (by decide) (gl_of (by decide +kernel))) (vl_cons (v_mk0 11 (by decide) (by decide) (gl_of (by decide +kernel))) (vl_nil))))))))) (vb_cons (vs_set 0 rfl (by decide +kernel) (v_bin (fun X c => op_adds) (fun K => op2_add) (v_var 0 rfl (by decide +kernel)) (v_lst (vl_cons (v_mk0 12 (by decide) (by decide) (gl_of (by decide +kernel))) (vl_nil))))) (vb_one (vs_ret (v_var 0 rfl (by decide +kernel))))))
theorem vb_law_made_with : VB ⟨N_law_made_with, defScope st_law_made_with, fun _ => true⟩ (tab B 4) (defBody st_law_made_with) den_law_made_with :=
  vb_cons (vs_set 1 rfl (by decide +kernel) (v_lst (vl_cons (v_mk1 1 (by decide) (by decide) (gl_of (by decide +kernel)) (v_var 0 rfl (by decide +kernel))) (vl_cons (v_mk1 2 (by decide) (by decide) (gl_of (by decide +kernel)) (v_var 0 rfl (by decide +kernel))) (vl_cons (v_mk1 3 (by decide) (by decide) (gl_of (by decide +kernel)) (v_var 0 rfl (by decide +kernel))) (vl_cons (v_mk1 4 (by decide) (by decide) (gl_of (by decide +kernel)) (v_var 0 rfl (by decide +kernel))) (vl_nil))))))) (vb_cons (vs_set 1 rfl (by decide +kernel) (v_bin (fun X c => op_adds) (fun K => op2_add) (v_var 1 rfl (by decide +kernel)) (v_lst (vl_cons (v_mk1 5 (by decide) (by decide) (gl_of (by decide +kernel)) (v_var 0 rfl (by decide +kernel))) (vl_cons (v_mk1 7 (by decide) (by decide) (gl_of (by decide +kernel)) (v_var 0 rfl (by decide +kernel))) (vl_cons (v_mk1 8 (by decide) (by decide) (gl_of (by decide +kernel)) (v_var 0 rfl (by decide +kernel))) (vl_cons (v_mk1 9 (by decide) (by decide) (gl_of (by decide +kernel)) (v_var 0 rfl (by decide +kernel))) (vl_nil)))))))) (vb_cons (vs_set 1 rfl (by decide +kernel) (v_bin (fun X c => op_adds) (fun K => op2_add) (v_var 1 rfl (by decide +kernel)) (v_lst (vl_cons (v_mk1 10 (by decide) (by decide) (gl_of (by decide +kernel)) (v_var 0 rfl (by decide +kernel))) (vl_cons (v_mk1 11 (by decide) (by decide) (gl_of (by decide +kernel)) (v_var 0 rfl (by decide +kernel))) (vl_cons (v_mk1 12 (by decide) (by decide) (gl_of (by decide +kernel)) (v_var 0 rfl (by decide +kernel))) (vl_nil))))))) (vb_one (vs_ret (v_var 1 rfl (by decide +kernel))))))
theorem vb_law : VB ⟨N_law, defScope st_law, fun _ => true⟩ (tab B 5) (defBody st_law).tail den_law :=
  vb_cons (vs_set 2 rfl (by decide +kernel) (v_call 1 (by rfl) (gl_of (by decide +kernel)) (vl_cons (v_var 1 rfl (by decide +kernel)) (vl_cons (v_lst (vl_cons (v_str (by decide +kernel)) (vl_cons (v_str (by decide +kernel)) (vl_cons (v_str (by decide +kernel)) (vl_cons (v_bin (fun X c => op_muls) (fun K => op2_mul) (v_str (by decide +kernel)) (v_int)) (vl_nil)))))) (vl_nil))))) (vb_cons (vs_parA 3 4 rfl rfl (by decide) (by rfl) (by rfl) (v_call 0 (by rfl) (gl_of (by decide +kernel)) (vl_cons (v_var 1 rfl (by decide +kernel)) (vl_cons (v_int) (vl_nil)))) (v_call 1 (by rfl) (gl_of (by decide +kernel)) (vl_cons (v_var 1 rfl (by decide +kernel)) (vl_cons (v_lst (vl_cons (v_str (by decide +kernel)) (vl_cons (v_str (by decide +kernel)) (vl_cons (v_str (by decide +kernel)) (vl_cons (v_str (by decide +kernel)) (vl_nil)))))) (vl_nil)))) (fun env h => by cases env; cases h; rfl)) (vb_cons (vs_set 5 rfl (by decide +kernel) (v_ix (fun X c => ix_all (by have := c.room.units; omega)) (fun K => op2_ixA) (v_disp (vpc_cons (by decide +kernel) (fun _ => pe_str) (fun _ _ _ => Rep.str) (vpc_cons (by decide +kernel) (fun _ => pe_str) (fun _ _ _ => Rep.str) (vpc_cons (by decide +kernel) (fun _ => pe_str) (fun _ _ _ => Rep.str) (vpc_cons (by decide +kernel) (fun _ => pe_str) (fun _ _ _ => Rep.str) (vpc_nil))))) (by rfl) (by decide)) (v_var 4 rfl (by decide +kernel)) (fun _ _ => rfl))) (vb_cons (vs_set 6 rfl (by decide +kernel) (v_lst (vl_cons (v_mkX 6 (by decide) (by decide) (by decide) (gl_of (by decide +kernel)) (by decide) (vl_cons (v_var 3 rfl (by decide +kernel)) (vl_nil))) (vl_cons (v_mkX 13 (by decide) (by decide) (by decide) (gl_of (by decide +kernel)) (by decide) (vl_cons (v_var 3 rfl (by decide +kernel)) (vl_cons (v_var 4 rfl (by decide +kernel)) (vl_nil)))) (vl_nil))))) (vb_cons (vs_set 7 rfl (by decide +kernel) (v_lst (vl_cons (v_mkX 6 (by decide) (by decide) (by decide) (gl_of (by decide +kernel)) (by decide) (vl_cons (v_bin (fun X c => op_adds) (fun K => op2_add) (v_var 3 rfl (by decide +kernel)) (v_int)) (vl_nil))) (vl_cons (v_mkX 13 (by decide) (by decide) (by decide) (gl_of (by decide +kernel)) (by decide) (vl_cons (v_bin (fun X c => op_adds) (fun K => op2_add) (v_var 3 rfl (by decide +kernel)) (v_int)) (vl_cons (v_var 5 rfl (by decide +kernel)) (vl_nil)))) (vl_nil))))) (vb_cons (vs_if (t_cmp (fun X c => op_neD c.room.units) (fun K => op2_ne) (v_lst (vl_cons (v_xfld er (by rfl) (v_ix (fun X c => ix_seq) (fun K => op2_ix) (v_var 6 rfl (by decide +kernel)) (v_int) (fun _ _ => rfl)) (fun _ => rfl)) (vl_cons (v_xfld er (by rfl) (v_ix (fun X c => ix_seq) (fun K => op2_ix) (v_var 6 rfl (by decide +kernel)) (v_int) (fun _ _ => rfl)) (fun _ => rfl)) (vl_cons (v_xfld er (by rfl) (v_ix (fun X c => ix_seq) (fun K => op2_ix) (v_var 6 rfl (by decide +kernel)) (v_int) (fun _ _ => rfl)) (fun _ => rfl)) (vl_nil))))) (v_lst (vl_cons (v_var 3 rfl (by decide +kernel)) (vl_cons (v_var 3 rfl (by decide +kernel)) (vl_cons (v_var 4 rfl (by decide +kernel)) (vl_nil))))) (by rfl)) (vb_one (vs_ret (v_bl))) (vb_nil)) (vb_cons (vs_if (t_cmp (fun X c => op_neD c.room.units) (fun K => op2_ne) (v_lst (vl_cons (v_xfld er (by rfl) (v_ix (fun X c => ix_seq) (fun K => op2_ix) (v_var 7 rfl (by decide +kernel)) (v_int) (fun _ _ => rfl)) (fun _ => rfl)) (vl_cons (v_xfld er (by rfl) (v_ix (fun X c => ix_seq) (fun K => op2_ix) (v_var 7 rfl (by decide +kernel)) (v_int) (fun _ _ => rfl)) (fun _ => rfl)) (vl_cons (v_xfld er (by rfl) (v_ix (fun X c => ix_seq) (fun K => op2_ix) (v_var 7 rfl (by decide +kernel)) (v_int) (fun _ _ => rfl)) (fun _ => rfl)) (vl_nil))))) (v_lst (vl_cons (v_bin (fun X c => op_adds) (fun K => op2_add) (v_var 3 rfl (by decide +kernel)) (v_int)) (vl_cons (v_bin (fun X c => op_adds) (fun K => op2_add) (v_var 3 rfl (by decide +kernel)) (v_int)) (vl_cons (v_var 5 rfl (by decide +kernel)) (vl_nil))))) (by rfl)) (vb_one (vs_ret (v_bl))) (vb_nil)) (vb_cons (vs_if (t_w (w_or (t_cmp (fun X c => op_in_sign.or (op_inD (by have := c.room.un; omega))) (fun K => op2_in) (v_bl) (v_call 2 (by rfl) (gl_of (by decide +kernel)) (vl_cons (v_mk0 0 (by decide) (by decide) (gl_of (by decide +kernel))) (vl_nil))) (by rfl)) (w_or1 (t_cmp (fun X c => op_in_sign.or (op_inD (by have := c.room.un; omega))) (fun K => op2_in) (v_bl) (v_call 2 (by rfl) (gl_of (by decide +kernel)) (vl_cons (v_mk1 0 (by decide) (by decide) (gl_of (by decide +kernel)) (v_var 2 rfl (by decide +kernel))) (vl_nil))) (by rfl))))) (vb_one (vs_ret (v_bl))) (vb_nil)) (vb_cons (vs_for (vi_val (v_lst (vl_cons (v_bin (fun X c => op_adds) (fun K => op2_add) (v_call0 3 (by rfl) (gl_of (by decide +kernel))) (v_var 6 rfl (by decide +kernel))) (vl_cons (v_bin (fun X c => op_adds) (fun K => op2_add) (v_call 4 (by rfl) (gl_of (by decide +kernel)) (vl_cons (v_var 2 rfl (by decide +kernel)) (vl_nil))) (v_var 7 rfl (by decide +kernel))) (vl_nil))))) (vg_name 8 rfl (by decide +kernel)) (vb_one (vs_for (vi_rg1 (v_bi (fun X c => call_len) (fun K => opn_len) (gl_of (by decide +kernel)) (by decide +kernel) (by decide +kernel) (vl_cons (v_var 8 rfl (by decide +kernel)) (vl_nil))) (gl_of (by decide +kernel)) (by decide +kernel)) (vg_name 9 rfl (by decide +kernel)) (vb_cons (vs_if (t_cmp (fun X c => op_neD c.room.units) (fun K => op2_ne) (v_call 2 (by rfl) (gl_of (by decide +kernel)) (vl_cons (v_ix (fun X c => ix_seq) (fun K => op2_ix) (v_var 8 rfl (by decide +kernel)) (v_var 9 rfl (by decide +kernel)) (fun _ _ => rfl)) (vl_nil))) (v_lc (own := [("k", 10)]) (vi_rg1 (v_bi (fun X c => call_len) (fun K => opn_len) (gl_of (by decide +kernel)) (by decide +kernel) (by decide +kernel) (vl_cons (v_var 8 rfl (by decide +kernel)) (vl_nil))) (gl_of (by decide +kernel)) (by decide +kernel)) (by decide +kernel) (vg_name 10 rfl (by decide +kernel)) (ts_nil) (v_cmp (fun X c => op_eqD c.room.units) (fun K => op2_eq) (v_var 10 rfl (by decide +kernel)) (v_var 9 rfl (by decide +kernel)) (by rfl)) (by decide) (good_n 10)) (by rfl)) (vb_one (vs_ret (v_bl))) (vb_nil)) (vb_one (vs_if (t_w (w_or (t_not (t_val (v_ise er 0 (by rfl) (by decide) (by decide) (v_ix (fun X c => ix_seq) (fun K => op2_ix) (v_var 8 rfl (by decide +kernel)) (v_var 9 rfl (by decide +kernel)) (fun _ _ => rfl)) (gl_of (by decide +kernel)) (by decide +kernel) (gl_of (by decide +kernel))))) (w_or1 (t_not (t_val (v_isv er (by rfl) (v_ix (fun X c => ix_seq) (fun K => op2_ix) (v_var 8 rfl (by decide +kernel)) (v_var 9 rfl (by decide +kernel)) (fun _ _ => rfl)) (gl_of (by decide +kernel)) (by decide +kernel) (gl_of (by decide +kernel)) (by decide +kernel))))))) (vb_one (vs_ret (v_bl))) (vb_nil))))))) (vb_one (vs_ret (v_bl)))))))))))
end K38
set_option maxRecDepth 100000
set_option maxHeartbeats 0
namespace K38
open PySem PySem.Spec PyProof.Rows L2 Py Pg
def prs : List PrD := []
def dd_law_draw : He.DefD := ⟨("_law_draw", none), "_law_draw", "_law_draw", defArgs st_law_draw, defBody st_law_draw, defScope st_law_draw, [], []⟩
def dd_law_pick : He.DefD := ⟨("_law_pick", none), "_law_pick", "_law_pick", defArgs st_law_pick, defBody st_law_pick, defScope st_law_pick, [], []⟩
def dd_law_kinds : He.DefD := ⟨("_law_kinds", none), "_law_kinds", "_law_kinds", defArgs st_law_kinds, defBody st_law_kinds, defScope st_law_kinds, [], []⟩
def dd_law_made : He.DefD := ⟨("_law_made", none), "_law_made", "_law_made", defArgs st_law_made, defBody st_law_made, defScope st_law_made, [], []⟩
def dd_law_made_with : He.DefD := ⟨("_law_made_with", none), "_law_made_with", "_law_made_with", defArgs st_law_made_with, defBody st_law_made_with, defScope st_law_made_with, [], []⟩
def dd_law_source : He.DefD := ⟨("_law_source", none), "_law_source", "_law_source", defArgs st_law_source, defBody st_law_source, defScope st_law_source, [], []⟩
def dd_law : He.DefD := ⟨("law", none), "law", "law", defArgs st_law, defBody st_law, defScope st_law, [], []⟩
def fn : List He.DefD := [dd_law_draw, dd_law_pick, dd_law_kinds, dd_law_made, dd_law_made_with, dd_law_source, dd_law]
def fa0 : List He.Fa := [.glo "_law_draw", .glo "_law_pick", .glo "_law_kinds", .glo "_law_made", .glo "_law_made_with", .glo "_law_source", .glo "law", .free "int", .free "len", .free "abs", .free "range", .free "super", .free "isinstance", .free "ValueError"]
def fa : List He.Fa := fa0
abbrev R : PySem.W.OpenRow := PySem.W.OpenLaw.row PySem.Challenge.rw_restingfixes_k38_errors
def ini6 : IniD := ⟨6, ⟨("InvalidText", some "__init__"), "__init__", "InvalidText.__init__", defArgs st_InvalidText_init, defBody st_InvalidText_init, defScope st_InvalidText_init, [], []⟩⟩
def ini13 : IniD := ⟨13, ⟨("InvalidLine", some "__init__"), "__init__", "InvalidLine.__init__", defArgs st_InvalidLine_init, defBody st_InvalidLine_init, defScope st_InvalidLine_init, [], []⟩⟩
def inis : List IniD := [ini6, ini13]
abbrev fil : Str := PySem.Challenge.pw_restingfixes_k38_errors.main.file
abbrev hk : PySem.W.Hook := hookX 5 fil fa fn errs prs inis
def ob (s : PySem.W.SharedT) : He.AlD := obsXG 5 fil fa fn errs prs inis (HandSHeadRun.getT s)
theorem ob_eq (s : PySem.W.SharedT) : ob s = hk.obs s.abs := obsXG_eq (HandSHeadRun.getT_eq s)
def loose : List Str := (["FixError", "InvalidWord", "InvalidBook", "InvalidNumber", "InvalidLetters", "TooMany", "InvalidText", "InvalidPairs", "InvalidRow", "InvalidPlace", "NothingToUndo", "NothingToRedo", "UnknownDeed", "InvalidLine", "_law_source", "_law_draw", "_law_pick", "_law_kinds", "_law_made", "_law_made_with"] : List Str)
theorem run (w : World) : HandSHeadRun.RunEq R (PySem.W.view R.prog [22]) hk ob 4000 loose w := by
  intro os
  kernel_rfl
end K38
set_option maxRecDepth 100000
set_option maxHeartbeats 0
namespace K38
open PySem PySem.Spec PyProof.Rows L2 Py Pg
theorem sc_law_draw : FnScope N_law_draw ["source", "limit"] (defScope st_law_draw) := C8.fnScope_by (by decide +kernel)
theorem sc_law_pick : FnScope N_law_pick ["source", "values"] (defScope st_law_pick) := C8.fnScope_by (by decide +kernel)
theorem sc_law_kinds : FnScope N_law_kinds ["e"] (defScope st_law_kinds) := C8.fnScope_by (by decide +kernel)
theorem sc_law_made : FnScope N_law_made [] (defScope st_law_made) := C8.fnScope_by (by decide +kernel)
theorem sc_law_made_with : FnScope N_law_made_with ["word"] (defScope st_law_made_with) := C8.fnScope_by (by decide +kernel)
theorem sc_law_source : FnScope srcSl ["script"] (defScope st_law_source) := C8.fnScope_by (by decide +kernel)
theorem sc_law : FnScope N_law ["script"] (defScope st_law) := C8.fnScope_by (by decide +kernel)
theorem vb_law_draw : VB ⟨drawSl, defScope st_law_draw, fun _ => true⟩ (tab B 0) ((defBody st_law_draw).drop 4) denDraw :=
  vb_cons (vs_if (t_cmp (fun X c => op_ges) (fun K => op2_ge) (v_var 5 rfl (by decide +kernel)) (v_bin (fun X c => op_powW) (fun K => op2_pow) (v_int) (v_int)) (by rfl)) (vb_cons (vs_put 2 rfl (by decide +kernel) (v_var 4 rfl (by decide +kernel)) (v_bin (fun X c => op_fdiv) (fun K => op2_div) (v_var 5 rfl (by decide +kernel)) (v_var 1 rfl (by decide +kernel)))) (vb_one (vs_ret (v_bin (fun X c => op_mod) (fun K => op2_mod) (v_ty (fun X c => call_int1) (fun K => opn_int) (gl_of (by decide +kernel)) (by decide +kernel) (by decide +kernel) (vl_cons (v_var 5 rfl (by decide +kernel)) (vl_nil))) (v_var 1 rfl (by decide +kernel)))))) (vb_nil)) (vb_cons (vs_set 6 rfl (by decide +kernel) (v_bin (fun X c => op_mod) (fun K => op2_mod) (v_ty (fun X c => call_int1) (fun K => opn_int) (gl_of (by decide +kernel)) (by decide +kernel) (by decide +kernel) (vl_cons (v_bin (fun X c => op_adds) (fun K => op2_add) (v_bin (fun X c => op_adds) (fun K => op2_add) (v_bin (fun X c => op_muls) (fun K => op2_mul) (v_bin (fun X c => op_mod) (fun K => op2_mod) (v_ty (fun X c => call_int1) (fun K => opn_int) (gl_of (by decide +kernel)) (by decide +kernel) (by decide +kernel) (vl_cons (v_var 5 rfl (by decide +kernel)) (vl_nil))) (v_int)) (v_int)) (v_bin (fun X c => op_muls) (fun K => op2_mul) (v_bin (fun X c => op_muls) (fun K => op2_mul) (v_var 3 rfl (by decide +kernel)) (v_var 3 rfl (by decide +kernel))) (v_int))) (v_int)) (vl_nil))) (v_int))) (vb_cons (vs_set 6 rfl (by decide +kernel) (v_bin (fun X c => op_mod) (fun K => op2_mod) (v_ty (fun X c => call_int1) (fun K => opn_int) (gl_of (by decide +kernel)) (by decide +kernel) (by decide +kernel) (vl_cons (v_bin (fun X c => op_muls) (fun K => op2_mul) (v_var 6 rfl (by decide +kernel)) (v_var 6 rfl (by decide +kernel))) (vl_nil))) (v_int))) (vb_cons (vs_set 6 rfl (by decide +kernel) (v_bin (fun X c => op_mod) (fun K => op2_mod) (v_ty (fun X c => call_int1) (fun K => opn_int) (gl_of (by decide +kernel)) (by decide +kernel) (by decide +kernel) (vl_cons (v_bin (fun X c => op_muls) (fun K => op2_mul) (v_var 6 rfl (by decide +kernel)) (v_var 6 rfl (by decide +kernel))) (vl_nil))) (v_int))) (vb_one (vs_ret (v_bin (fun X c => op_mod) (fun K => op2_mod) (v_ty (fun X c => call_int1) (fun K => opn_int) (gl_of (by decide +kernel)) (by decide +kernel) (by decide +kernel) (vl_cons (v_var 6 rfl (by decide +kernel)) (vl_nil))) (v_var 1 rfl (by decide +kernel))))))))
theorem vs_src1 : VS ⟨srcSl, defScope st_law_source, fun _ => true⟩ (tab B 0) ((defBody st_law_source).getD 1 (.Pass ⟨0, 0, 0, 0⟩)) denSrc1 :=
  vs_for (vi_rg1 (v_bi (fun X c => call_len) (fun K => opn_len) (gl_of (by decide +kernel)) (by decide +kernel) (by decide +kernel) (vl_cons (v_var 1 rfl (by decide +kernel)) (vl_nil))) (gl_of (by decide +kernel)) (by decide +kernel)) (vg_name 2 rfl (by decide +kernel)) (vb_one (vs_if (t_cmp (fun X c => op_ges) (fun K => op2_ge) (v_bi (fun X c => call_abs) (fun K => opn_abs) (gl_of (by decide +kernel)) (by decide +kernel) (by decide +kernel) (vl_cons (v_ix (fun X c => ix_seq) (fun K => op2_ix) (v_var 1 rfl (by decide +kernel)) (v_var 2 rfl (by decide +kernel)) (fun _ _ => rfl)) (vl_nil))) (v_bin (fun X c => op_powW) (fun K => op2_pow) (v_int) (v_int)) (by rfl)) (vb_one (vs_put 1 rfl (by decide +kernel) (v_var 2 rfl (by decide +kernel)) (v_bin (fun X c => op_mod) (fun K => op2_mod) (v_ty (fun X c => call_int1) (fun K => opn_int) (gl_of (by decide +kernel)) (by decide +kernel) (by decide +kernel) (vl_cons (v_ix (fun X c => ix_seq) (fun K => op2_ix) (v_var 1 rfl (by decide +kernel)) (v_var 2 rfl (by decide +kernel)) (fun _ _ => rfl)) (vl_nil))) (v_bin (fun X c => op_powW) (fun K => op2_pow) (v_bin (fun X c => op_powW) (fun K => op2_pow) (v_int) (v_int)) (v_int))))) (vb_nil)))
theorem vs_src2 : VS ⟨srcSl, defScope st_law_source, fun _ => true⟩ (tab B 0) ((defBody st_law_source).getD 2 (.Pass ⟨0, 0, 0, 0⟩)) denSrc2 :=
  vs_if (t_cmp (fun X c => op_eqD c.room.units) (fun K => op2_eq) (v_var 1 rfl (by decide +kernel)) (v_lst (vl_nil)) (by rfl)) (vb_one (vs_set 1 rfl (by decide +kernel) (v_lst (vl_cons (v_int) (vl_nil))))) (vb_nil)
theorem facts {P : Program} {w : World} {K : PySem.W.Frag} {h : Heap} {mg : Str → Option Value} {f : Addr} (X : K.In h) (G : h.Ns mainGlobals mg) (hfa : mg ("law" : Str) = some (.ref f)) (c0x : SaysX fil fa fn errs prs inis K) (hfil : P.main.file = fil) (htop : (P.main.scope.names.lookup ("super" : Str)).isSome = false)
    (hden : ∀ ns : List Int, ns.length ≤ 63 → ∃ p', den_law ⟨.no :: .src :: List.replicate 9 .no, (srcCells ns, 0)⟩ = .rt (.sh (.bl true)) p') :
    ∃ fd : FuncData, (∀ (s : Shared) (v : Value), BindsTo s fd ⟨[v], []⟩ [("script", v)]) ∧ ∀ base : Heap, K.In base → base.Ns mainGlobals mg → FnOk P w K mg base (L2.CX P w) 6 f fd ["script"] (spLaw K) := by
  obtain ⟨c0, nb⟩ := c0x.q.1.p
  have c := c0.d.1
  obtain ⟨fd_law_draw, F_law_draw⟩ := c.def_ 0 (d := dd_law_draw) rfl
  obtain ⟨fd_law_pick, F_law_pick⟩ := c.def_ 1 (d := dd_law_pick) rfl
  obtain ⟨fd_law_kinds, F_law_kinds⟩ := c.def_ 2 (d := dd_law_kinds) rfl
  obtain ⟨fd_law_made, F_law_made⟩ := c.def_ 3 (d := dd_law_made) rfl
  obtain ⟨fd_law_made_with, F_law_made_with⟩ := c.def_ 4 (d := dd_law_made_with) rfl
  obtain ⟨fd_law_source, F_law_source⟩ := c.def_ 5 (d := dd_law_source) rfl
  obtain ⟨fd_law, F_law⟩ := c.def_ 6 (d := dd_law) rfl
  have e := hfa.symm.trans (He.glo_ok X G (c.fact 6 (f := .glo "law") rfl))
  cases e
  have b := FunD.bindsA (ps := ["script"]) F_law fun _ _ _ _ _ _ us hl => match us, hl with | [_], _ => rfl
  refine ⟨fd_law, fun s v => b s [v] rfl, fun base _ _ => ?_⟩
  have ic6 := c0x.ini hfil htop 0 (p := ini6) rfl
  have xr6 : XrC P w K mg base 6 := ic6.xr (ps := ["self", "at"]) (fun _ _ _ _ _ _ _ us hl => match us, hl with | [_, _], _ => rfl) (fun fd xd => xinit6 xd ic6.ox (NdefX.nscope_by (by decide +kernel)) (He.free_ok X G (c.fact 11 (f := .free "super") rfl)) (gl_of (by decide +kernel)) (lo_of (by decide +kernel)) (lo_of (by decide +kernel)) (by rfl) (by intro _; rfl) (by intro _; rfl) (by intro _; rfl) (ic6.noat _ (by decide)) rfl)
  have ic13 := c0x.ini hfil htop 1 (p := ini13) rfl
  have xr13 : XrC P w K mg base 13 := ic13.xr (ps := ["self", "line", "reason"]) (fun _ _ _ _ _ _ _ us hl => match us, hl with | [_, _, _], _ => rfl) (fun fd xd => xinit13 xd ic13.ox (NdefX.nscope_by (by decide +kernel)) (He.free_ok X G (c.fact 11 (f := .free "super") rfl)) (gl_of (by decide +kernel)) (lo_of (by decide +kernel)) (lo_of (by decide +kernel)) (lo_of (by decide +kernel)) (by rfl) (by intro _; rfl) (by intro _; rfl) (by intro _; rfl) (by intro _; rfl) (ic13.noat _ (by decide)) (ic13.noat _ (by decide)) rfl)
  have xrs : ∀ n ∈ B.errs, (n == 6 || n == 13) = true → XrC P w K mg base n := fun n hn h => by
    simp only [Bool.or_eq_true, beq_iff_eq] at h
    rcases h with rfl | rfl
    · exact xr6
    · exact xr13

  have f0 : Facts (tab B 0) P w K mg base := facts_zero (fnil) (c0.er X G) c0.sub (fcons (He.free_ok X G (c.fact 7 (f := .free "int") rfl)) (fcons (He.free_ok X G (c.fact 8 (f := .free "len") rfl)) (fcons (He.free_ok X G (c.fact 9 (f := .free "abs") rfl)) (fcons (He.free_ok X G (c.fact 10 (f := .free "range") rfl)) (fcons (He.free_ok X G (c.fact 11 (f := .free "super") rfl)) (fcons (He.free_ok X G (c.fact 12 (f := .free "isinstance") rfl)) (fcons (He.free_ok X G (c.fact 13 (f := .free "ValueError") rfl)) (fnil)))))))) (fnil) xrs
  have f1 : Facts (tab B 1) P w K mg base := facts_succ f0 rfl rfl ⟨by decide, _, fd_law_draw, ["source", "limit"], He.glo_ok X G (c.fact 0 (f := .glo "_law_draw") rfl), F_law_draw.kp, FunD.bindsN (ps := ["source", "limit"]) F_law_draw fun _ _ _ _ _ _ us hl => match us, hl with | [_, _], _ => rfl, rfl, draw_ok F_law_draw sc_law_draw f0 fun X W c tk => pss_draw (rest := (defBody st_law_draw).drop 4) c.1 rfl (by decide +kernel) (by decide +kernel) (by decide +kernel) (by decide +kernel) (by decide +kernel) (by decide +kernel) (vb_law_draw X W c tk)⟩
  have f2 : Facts (tab B 2) P w K mg base := facts_succ f1 rfl rfl ⟨by decide, _, fd_law_pick, ["source", "values"], He.glo_ok X G (c.fact 1 (f := .glo "_law_pick") rfl), F_law_pick.kp, FunD.bindsN (ps := ["source", "values"]) F_law_pick fun _ _ _ _ _ _ us hl => match us, hl with | [_, _], _ => rfl, rfl, def_ok F_law_pick sc_law_pick (by decide) f1 vb_law_pick⟩
  have f3 : Facts (tab B 3) P w K mg base := facts_succ f2 rfl rfl ⟨by decide, _, fd_law_kinds, ["e"], He.glo_ok X G (c.fact 2 (f := .glo "_law_kinds") rfl), F_law_kinds.kp, FunD.bindsN (ps := ["e"]) F_law_kinds fun _ _ _ _ _ _ us hl => match us, hl with | [_], _ => rfl, rfl, def_ok F_law_kinds sc_law_kinds (by decide) f2 vb_law_kinds⟩
  have f4 : Facts (tab B 4) P w K mg base := facts_succ f3 rfl rfl ⟨by decide, _, fd_law_made, [], He.glo_ok X G (c.fact 3 (f := .glo "_law_made") rfl), F_law_made.kp, FunD.bindsN (ps := []) F_law_made fun _ _ _ _ _ _ us hl => match us, hl with | [], _ => rfl, rfl, def_ok F_law_made sc_law_made (by decide) f3 vb_law_made⟩
  have f5 : Facts (tab B 5) P w K mg base := facts_succ f4 rfl rfl ⟨by decide, _, fd_law_made_with, ["word"], He.glo_ok X G (c.fact 4 (f := .glo "_law_made_with") rfl), F_law_made_with.kp, FunD.bindsN (ps := ["word"]) F_law_made_with fun _ _ _ _ _ _ us hl => match us, hl with | [_], _ => rfl, rfl, def_ok F_law_made_with sc_law_made_with (by decide) f4 vb_law_made_with⟩
  have os : FnOk P w K mg base (L2.CX P w) 1 _ fd_law_source ["script"] (spSource K) := source_ok F_law_source sc_law_source f0 (s1 := (defBody st_law_source).getD 1 (.Pass ⟨0, 0, 0, 0⟩)) (s2 := (defBody st_law_source).getD 2 (.Pass ⟨0, 0, 0, 0⟩)) rfl (by decide +kernel) (by decide +kernel) vs_src1 vs_src2
  have fS : Facts (tab B 5) P w K mg base := f5
  have bs : Binds K fd_law_source ["script"] [] := FunD.bindsN (ps := ["script"]) F_law_source fun _ _ _ _ _ _ us hl => match us, hl with | [_], _ => rfl
  exact law_ok F_law sc_law f5 (rest := (defBody st_law).tail) rfl (by decide +kernel) (by decide +kernel) (by decide +kernel) (He.glo_ok X G (c.fact 5 (f := .glo "_law_source") rfl)) F_law_source.kp bs (os.mono (by decide)) vb_law hden
end K38
open PySem PySem.W PySem.Calls PyProof.Rows
theorem holds_of_k38 (hden : ∀ ns : List Int, ns.length ≤ 63 → ∃ p', K38.den_law ⟨.no :: .src :: List.replicate 9 .no, (Py.srcCells ns, 0)⟩ = .rt (.sh (.bl true)) p') : PySem.Challenge.rw_restingfixes_k38_errors.Holds := by
  w_on; o_law
  refine HandSHeadRun.head_any (r := OpenLaw.row PySem.Challenge.rw_restingfixes_k38_errors) (q := view (OpenLaw.row PySem.Challenge.rw_restingfixes_k38_errors).prog [22]) (H := K38.hk) (ob := K38.ob) (M := 4000) (loose := K38.loose) (d := HandSHeadRun.topDef (OpenLaw.row PySem.Challenge.rw_restingfixes_k38_errors).prog 22) (kwd := []) K38.ob_eq
    (by kernel_rfl) (fun s => by kernel_rfl) K38.run (by kernel_rfl) (by kernel_rfl) (by kernel_rfl) (by rfl) (by first | assumption | decide +kernel) (by decide +kernel) ⟨rfl, rfl, rfl, rfl, rfl, by decide +kernel⟩ ?hw ?hc
  case hw => w_witness2
  case hc =>
    refine L2.walk_ofE (l := PySem.Challenge.rw_restingfixes_k38_errors) (n := 63) (k := 6) (x := "script") (CX := L2.CX0) rfl (by decide) (by kernel_rfl) ⟨rfl, by decide, by decide⟩ ?F (fun _ _ _ _ z => z)
    intro w mg fa h Y G hmg0
    obtain ⟨K, KX, c⟩ := Y
    have hmg : mg ("law" : PySem.Str) = some (.ref fa) := by
      have e : (HandSHeadRun.topDef (OpenLaw.row PySem.Challenge.rw_restingfixes_k38_errors).prog 22).name = ("law" : PySem.Str) := by kernel_rfl
      rw [← e]
      exact hmg0
    obtain ⟨fd, hb, hF⟩ := K38.facts (P := (PySem.Challenge.rw_restingfixes_k38_errors).prog) (w := w) KX G hmg c (by kernel_rfl) (by kernel_rfl) hden
    exact ⟨K, fd, Py.spLaw K, KX, hb, fun H a ns hl _ hS => ⟨a, ns, rfl, hl, hS, fun _ => rfl⟩, fun base h1 h2 => Py.law_cx0 (hF base h1 h2)⟩
set_option maxRecDepth 100000
set_option maxHeartbeats 1000000
namespace Pg
open PySem PySem.Spec PyProof.Rows L2 Py
/-! ### how long texts get -/
inductive Ch (b : List Fx) (m : Nat) : List (Nat × Nat) → Nat → Prop where
  | nil : Ch b m [] 0
  | snoc {l : List (Nat × Nat)} {e : Nat} {p : Nat × Nat} : Ch b m l e → e ≤ p.1 → p.1 + (fxAt b p.2).o.length ≤ m → 1 ≤ (fxAt b p.2).o.length → Ch b m (l ++ [p]) (p.1 + (fxAt b p.2).o.length)
theorem fxOk_o {f : Fx} (h : fxOk f = true) : 1 ≤ f.o.length := by
  unfold fxOk at h
  simp only [Bool.and_eq_true] at h
  have h := h.2.2.2
  cases e : f.o with
  | nil => rw [e] at h; cases h
  | cons c cs => simp
theorem stN_le {f : Fx} {t : List Nat} {i : Nat} (h : stN f t i = true) (ho : 1 ≤ f.o.length) : i + f.o.length ≤ t.length := by
  unfold stN at h
  cases hc : (cut t i (i + f.o.length) == f.o) with
  | false => rw [hc] at h; cases h
  | true =>
    have e := eq_of_beq hc
    have h1 : (cut t i (i + f.o.length)).length = f.o.length := by rw [e]
    unfold cut at h1
    rw [List.length_take, List.length_drop] at h1
    omega
theorem fndN_st {b : List Fx} {t : List Nat} : ∀ p ∈ fndN b t, stN (fxAt b p.2) t p.1 = true ∧ fxAt b p.2 ∈ b := fun p hp => by
  unfold fndN at hp
  rw [List.mem_flatMap] at hp
  obtain ⟨i, _, hp⟩ := hp
  rw [List.mem_map] at hp
  obtain ⟨k, hk, rfl⟩ := hp
  unfold numsN at hk
  rw [List.mem_map] at hk
  obtain ⟨q, hq, rfl⟩ := hk
  obtain ⟨hq1, hq2⟩ := List.mem_filter.mp hq
  have e : b[q.2]? = some q.1 := by
    have := List.mem_zipIdx_iff_getElem?.mp hq1
    exact this
  have e2 : fxAt b q.2 = q.1 := by
    unfold fxAt
    rw [List.getD_eq_getElem?_getD, e]; rfl
  show stN (fxAt b q.2) t i = true ∧ fxAt b q.2 ∈ b
  rw [e2]
  exact ⟨hq2, List.mem_of_getElem? e⟩
theorem fold_ch {b : List Fx} {t : List Nat} (hb : ∀ f ∈ b, fxOk f = true) : ∀ (xs : List (Nat × Nat)) (s : List (Nat × Nat) × Nat), (∀ p ∈ xs, stN (fxAt b p.2) t p.1 = true ∧ fxAt b p.2 ∈ b) → Ch b t.length s.1 s.2 → Ch b t.length (xs.foldl (stepT b) s).1 (xs.foldl (stepT b) s).2
  | [], _, _, h => h
  | x :: xs, s, hx, h => by
    refine fold_ch hb xs (stepT b s x) (fun p hp => hx p (List.mem_cons_of_mem _ hp)) ?_
    unfold stepT
    split
    · rename_i hc
      obtain ⟨h1, h2⟩ := hx x List.mem_cons_self
      have ho := fxOk_o (hb _ h2)
      exact .snoc h hc (stN_le h1 ho) ho
    · exact h
theorem put_ch {b : List Fx} {t : List Nat} (hn : ∀ k : Nat, (fxAt b k).n.length ≤ 3) {l : List (Nat × Nat)} {e : Nat} (h : Ch b t.length l e) : (l.foldl (stepP b t) ([], 0)).2 = e ∧ (l.foldl (stepP b t) ([], 0)).1.length ≤ 3 * e ∧ e ≤ t.length := by
  induction h with
  | nil => exact ⟨rfl, Nat.le_refl _, Nat.zero_le _⟩
  | @snoc l e p h h1 h2 h3 ih =>
    obtain ⟨i1, i2, i3⟩ := ih
    rw [List.foldl_append]
    generalize hr : l.foldl (stepP b t) ([], 0) = r at i1 i2
    show (stepP b t r p).2 = _ ∧ (stepP b t r p).1.length ≤ _ ∧ _
    unfold stepP
    refine ⟨rfl, ?_, h2⟩
    show (r.1 ++ cut t r.2 p.1 ++ (fxAt b p.2).n).length ≤ _
    rw [List.length_append, List.length_append, i1]
    have hc : (cut t e p.1).length ≤ p.1 - e := by
      unfold cut
      rw [List.length_take]
      omega
    have := hn p.2
    omega
theorem fxAt_n {b : List Fx} (w : BkW b) (k : Nat) : (fxAt b k).n.length ≤ 3 := by
  by_cases h : k < b.length
  · exact w.n _ (fxAt_mem h)
  · unfold fxAt
    rw [List.getD_eq_getElem?_getD, List.getElem?_eq_none (by omega)]
    simp
theorem rdN_len {b : List Fx} {t : List Nat} (w : BkOk b) : (rdN b t).length ≤ 3 * t.length := by
  have h := fold_ch (t := t) w.ok (fndN b t) ([], 0) fndN_st .nil
  obtain ⟨h1, h2, h3⟩ := put_ch (fxAt_n w.toBkW) h
  unfold rdN putN takN
  rw [List.length_append, List.length_drop, h1]
  omega
theorem put_asc {b : List Fx} {t : List Nat} (hn : ∀ k : Nat, Asc (fxAt b k).n) (ht : Asc t) : ∀ (l : List (Nat × Nat)) (s : List Nat × Nat), Asc s.1 → Asc (l.foldl (stepP b t) s).1
  | [], _, h => h
  | x :: l, s, h => put_asc hn ht l (stepP b t s x) fun c hc => by
    rcases List.mem_append.mp hc with hc | hc
    · rcases List.mem_append.mp hc with hc | hc
      · exact h c hc
      · exact ht.cut _ _ c hc
    · exact hn _ c hc
theorem fxAt_asc {b : List Fx} (w : BkW b) (k : Nat) : Asc (fxAt b k).n := by
  by_cases h : k < b.length
  · exact (w.f _ (fxAt_mem h)).n
  · unfold fxAt
    rw [List.getD_eq_getElem?_getD, List.getElem?_eq_none (by omega)]
    exact asc_nil
theorem rdN_asc {b : List Fx} {t : List Nat} (w : BkW b) (ht : Asc t) : Asc (rdN b t) := fun c hc => by
  unfold rdN putN at hc
  rcases List.mem_append.mp hc with hc | hc
  · exact put_asc (fxAt_asc w) ht _ _ asc_nil c hc
  · exact ht c (List.mem_of_mem_drop hc)
/-! ### rounds -/
def itR (b : List Fx) (t : List Nat) : Nat → List Nat
  | 0 => t
  | k + 1 => rdN b (itR b t k)
theorem itR_asc {b : List Fx} {t : List Nat} (w : BkW b) (ht : Asc t) : ∀ k, Asc (itR b t k)
  | 0 => ht
  | k + 1 => rdN_asc w (itR_asc w ht k)
theorem itR_len {b : List Fx} {t : List Nat} (w : BkOk b) : ∀ k, (itR b t k).length ≤ 3 ^ k * t.length
  | 0 => by simp [itR]
  | k + 1 => by
    have h1 := itR_len (t := t) w k
    have h2 := rdN_len (t := itR b t k) w
    rw [Nat.pow_succ]
    show (rdN b (itR b t k)).length ≤ _
    calc (rdN b (itR b t k)).length ≤ 3 * (itR b t k).length := h2
      _ ≤ 3 * (3 ^ k * t.length) := Nat.mul_le_mul_left _ h1
      _ = 3 ^ k * 3 * t.length := by rw [← Nat.mul_assoc, Nat.mul_comm 3]
def rowN (b : List Fx) (t : List Nat) (k : Nat) : List (List Nat) := (List.range (k + 1)).map (itR b t)
def rowD (b : List Fx) (t : List Nat) (k : Nat) : List D := (rowN b t k).map D.str
theorem rowD_len {b : List Fx} {t : List Nat} {k : Nat} : (rowD b t k).length = k + 1 := by
  unfold rowD rowN
  rw [List.length_map, List.length_map, List.length_range]
theorem rowD_succ {b : List Fx} {t : List Nat} {k : Nat} : rowD b t (k + 1) = rowD b t k ++ [.str (itR b t (k + 1))] := by
  unfold rowD rowN
  rw [List.range_succ, List.map_append, List.map_append]
  rfl
theorem rowD_last {b : List Fx} {t : List Nat} {k : Nat} : opIx (.lst (rowD b t k)) (.int (-1)) = some (.sh (.str (itR b t k))) := by
  show (atI (rowD b t k) (-1)).map Rv.sh = _
  unfold atI
  have e : ixN (rowD b t k).length (-1) = some k := by
    rw [rowD_len]
    unfold ixN
    rw [if_neg (by decide), if_pos (by omega)]
    congr 1
    omega
  rw [e]
  show ((rowD b t k)[k]?).map Rv.sh = _
  unfold rowD rowN
  rw [List.getElem?_map, List.getElem?_map, List.getElem?_range (Nat.lt_succ_self k)]
  rfl
def slN : Nat → Sl
  | 0 => .no
  | k + 1 => .sh (.int (k : Nat))
theorem rounds_of_eq {b : List Fx} {t : List Nat} {many : Nat} {src : List Int × Int} (w : BkOk b) (ht : Asc t) (hm : many ≤ 100) (hl : ∀ k, k ≤ many → (itR b t k).length ≤ 10000) (hl2 : ∀ k, k < many → (itR b t k).length ≤ 1000) : sem_rounds_of [.sh (bkD b), .sh (.str t), .sh (.int (many : Nat))] src = .ok true (.lst (rowD b t many)) [.sh (bkD b), .sh (.str t), .sh (.int (many : Nat))] src := by
  let e0 : List Sl := [.sh (bkD b), .sh (.str t), .sh (.int (many : Nat)), .no, .no]
  let st : Nat → Py.PS := fun k => ⟨[.sh (bkD b), .sh (.str t), .sh (.int (many : Nat)), .own false false (.lst (rowD b t k)), slN k], src⟩
  have s1 : sAsg 3 (dLst (dCons (dVar 1) dNil)) ⟨e0, src⟩ = .nx (st 0) := rfl
  have hd := rg1_ok (da := dVar 2) (p := st 0) (n := many) (var_sh (i := 2) rfl) rfl (by omega)
  have hloop : ∀ (m k : Nat), k + m = many → forL (gN 4) (sSeq (sApp 3 (dCall 2 sem_round_of (dCons (dVar 0) (dCons (d2 opIx (dVar 3) (d1 opNeg (dC (.int 1)))) dNil)))) (sIf (d2 opGt (dN opLen (dCons (d2 opIx (dVar 3) (d1 opNeg (dC (.int 1)))) dNil)) (dC con_MOST_LONG)) (sRaise 5) sNil)) ((List.range' k m).map fun i => .int (i : Nat)) (st k) = .nx (st many) := fun m => by
    induction m with
    | zero => intro k hk; rw [Nat.add_zero] at hk; subst hk; rfl
    | succ m ih =>
      intro k hk
      rw [List.range'_succ, List.map_cons]
      let e1 : List Sl := [.sh (bkD b), .sh (.str t), .sh (.int (many : Nat)), .own false false (.lst (rowD b t k)), .sh (.int (k : Nat))]
      have hg : gN 4 (.int (k : Nat)) (st k).env = some e1 := by
        cases k <;> rfl
      have hneg : d1 opNeg (dC (.int 1)) ⟨e1, src⟩ = .ok (.sh (.int (-1))) ⟨e1, src⟩ := rfl
      have hlast : d2 opIx (dVar 3) (d1 opNeg (dC (.int 1))) ⟨e1, src⟩ = .ok (.sh (.str (itR b t k))) ⟨e1, src⟩ := d2_ok (show dVar 3 (⟨e1, src⟩ : Py.PS) = .ok (.bo 3) ⟨e1, src⟩ from rfl) hneg rfl rfl rowD_last
      have hr := call2 (fresh := false) (p := ⟨e1, src⟩) (da := dVar 0) (var_sh (i := 0) rfl) rfl hlast rfl rfl (round_of_eq w.toBkW (itR_asc w.toBkW ht k) (hl2 k (by omega)))
      have happ := app_nx (i := 3) (p := ⟨e1, src⟩) (l := false) (ds := rowD b t k) rfl hr rfl (by rw [rowD_len]; omega)
      let e2 : List Sl := [.sh (bkD b), .sh (.str t), .sh (.int (many : Nat)), .own false false (.lst (rowD b t (k + 1))), .sh (.int (k : Nat))]
      have happ2 : sApp 3 (dCall 2 sem_round_of (dCons (dVar 0) (dCons (d2 opIx (dVar 3) (d1 opNeg (dC (.int 1)))) dNil))) ⟨e1, src⟩ = .nx ⟨e2, src⟩ := by
        rw [happ]
        show Out.nx (⟨[.sh (bkD b), .sh (.str t), .sh (.int (many : Nat)), .own false false (.lst (rowD b t k ++ [.str (itR b t (k + 1))])), .sh (.int (k : Nat))], src⟩ : Py.PS) = _
        rw [← rowD_succ]
      have hlast2 : d2 opIx (dVar 3) (d1 opNeg (dC (.int 1))) ⟨e2, src⟩ = .ok (.sh (.str (itR b t (k + 1)))) ⟨e2, src⟩ := d2_ok (show dVar 3 (⟨e2, src⟩ : Py.PS) = .ok (.bo 3) ⟨e2, src⟩ from rfl) (show d1 opNeg (dC (.int 1)) ⟨e2, src⟩ = .ok (.sh (.int (-1))) ⟨e2, src⟩ from rfl) rfl rfl rowD_last
      have hlen := hl (k + 1) (by omega)
      have hgt : opGt (.int ((itR b t (k + 1)).length : Nat)) con_MOST_LONG = some (.sh (.bl false)) := by
        show some (Rv.sh (.bl (decide ((10000 : Int) < ((itR b t (k + 1)).length : Int))))) = _
        rw [decide_eq_false (by omega)]
      have ht2 := d2_ok (f := opGt) (dN1_ok (f := opLen) hlast2 rfl (opLen_str (by omega))) (show dC con_MOST_LONG (⟨e2, src⟩ : Py.PS) = .ok (.sh con_MOST_LONG) ⟨e2, src⟩ from rfl) rfl rfl hgt
      unfold forL
      simp only [hg]
      rw [show (⟨e1, (st k).src⟩ : Py.PS) = ⟨e1, src⟩ from rfl, seq_nx happ2, if_skip ht2]
      show forL _ _ _ (st (k + 1)) = _
      exact ih (k + 1) (by omega)
  have hf : forL (gN 4) (sSeq (sApp 3 (dCall 2 sem_round_of (dCons (dVar 0) (dCons (d2 opIx (dVar 3) (d1 opNeg (dC (.int 1)))) dNil)))) (sIf (d2 opGt (dN opLen (dCons (d2 opIx (dVar 3) (d1 opNeg (dC (.int 1)))) dNil)) (dC con_MOST_LONG)) (sRaise 5) sNil)) ((List.range many).map fun i => .int (i : Nat)) (st 0) = .nx (st many) := by
    rw [List.range_eq_range']
    exact hloop many 0 (by omega)
  have s2 := for_none hd hf
  unfold sem_rounds_of semD
  show outFR _ (den_rounds_of ⟨e0, src⟩) = _
  unfold den_rounds_of
  rw [seq_nx s1, seq_nx s2]
  rfl
theorem is_number_eq {i : Int} {src : List Int × Int} : sem_is_number [.sh (.int i)] src = .ok false (.bl true) [.sh (.int i)] src := by
  let p : Py.PS := ⟨[.sh (.int i)], src⟩
  have h := and_b (p := p) (d1_ok (da := dVar 0) (var_sh rfl) rfl (isi3 i)) fun _ => not_b (d1_ok (da := dVar 0) (var_sh rfl) rfl (isi4 i))
  unfold sem_is_number semD
  show outFR _ (den_is_number p) = _
  unfold den_is_number
  rw [ret_ok h]
  rfl
theorem check_number_eq {i lo hi : Int} {src : List Int × Int} (h1 : lo ≤ i) (h2 : i ≤ hi) : sem_check_number [.sh (.int i), .sh (.int lo), .sh (.int hi)] src = .ok false .non [.sh (.int i), .sh (.int lo), .sh (.int hi)] src := by
  let p : Py.PS := ⟨[.sh (.int i), .sh (.int lo), .sh (.int hi)], src⟩
  have c := call1 (fresh := false) (p := p) (da := dVar 0) (var_sh (i := 0) rfl) rfl rfl (is_number_eq (i := i) (src := src))
  have hch : dChain opLe opLe (dVar 1) (dVar 0) (dVar 2) p = .ok (.sh (.bl true)) p := by
    have q0 : dVar 1 p = .ok (.sh (.int lo)) p := rfl
    have q1 : dVar 0 p = .ok (.sh (.int i)) p := rfl
    have q2 : dVar 2 p = .ok (.sh (.int hi)) p := rfl
    have e1 : fin2 opLe (.sh (.int lo)) (.sh (.int i)) p = .ok (.sh (.bl (decide (lo ≤ i)))) p := rfl
    have e2 : fin2 opLe (.sh (.int i)) (.sh (.int hi)) p = .ok (.sh (.bl (decide (i ≤ hi)))) p := rfl
    rw [decide_eq_true h1] at e1
    rw [decide_eq_true h2] at e2
    unfold dChain
    rw [q0, R.bind_ok, q1, R.bind_ok, e1, R.bind_ok]
    simp only [onB, q2, R.bind_ok, soft_sh, e2]
  have h := or_b (p := p) (b := false) (not_b c) fun _ => not_b hch
  unfold sem_check_number semD
  show outFR _ (den_check_number p) = _
  unfold den_check_number
  rw [if_f h]
  rfl
theorem rounds_eq {b : List Fx} {t : List Nat} {many : Nat} {src : List Int × Int} (w : BkOk b) (ht : txN 200 t = true) (hm : many ≤ 100) (hl : ∀ k, k ≤ many → (itR b t k).length ≤ 10000) (hl2 : ∀ k, k < many → (itR b t k).length ≤ 1000) : sem_rounds [.sh (bkD b), .sh (.str t), .sh (.int (many : Nat))] src = .ok true (.lst (rowD b t many)) [.sh (bkD b), .sh (.str t), .sh (.int (many : Nat))] src := by
  let p : Py.PS := ⟨[.sh (bkD b), .sh (.str t), .sh (.int (many : Nat))], src⟩
  obtain ⟨h1, h2⟩ := txN_asc ht
  have c1 := exp_ok (call1 (fresh := false) (p := p) (da := dVar 0) (var_sh (i := 0) rfl) rfl rfl (check_book_ok w))
  have c2 := exp_ok (call1 (fresh := false) (p := p) (da := dVar 1) (var_sh (i := 1) rfl) rfl rfl (check_text_eq ht))
  have c3 := exp_ok (call3 (fresh := false) (p := p) (da := dVar 2) (db := dC (.int 0)) (dc := dC con_MOST_ROUNDS) (var_sh (i := 2) rfl) rfl (show dC (.int 0) p = .ok (.sh (.int 0)) p from rfl) rfl (show dC con_MOST_ROUNDS p = .ok (.sh (.int 100)) p from rfl) rfl rfl (check_number_eq (i := (many : Int)) (lo := 0) (hi := 100) (by omega) (by omega)))
  have c4 := call3 (fresh := true) (p := p) (da := dVar 0) (db := dVar 1) (dc := dVar 2) (var_sh (i := 0) rfl) rfl (var_sh (i := 1) rfl) rfl (var_sh (i := 2) rfl) rfl rfl (rounds_of_eq w h1 hm hl hl2)
  unfold sem_rounds semD
  show outFR _ (den_rounds p) = _
  unfold den_rounds
  rw [seq_nx c1, seq_nx c2, seq_nx c3, ret_ok c4]
  rfl
end Pg
set_option maxRecDepth 100000
set_option maxHeartbeats 1000000
namespace Pg
open PySem PySem.Spec PyProof.Rows L2 Py
/-! ### the law's own reading -/
theorem ix_str {x : List Nat} {k : Nat} (h : k < x.length) (hl : x.length ≤ 16777216) : opIx (.str x) (.int (k : Nat)) = some (.sh (.str [x[k]])) := by
  simp only [opIx]
  rw [if_pos hl, atI_nat x k h]
  rfl
theorem okq_ints (xs : List Nat) : okq (.lst (xs.map fun k => .int (k : Nat))) = true := by
  show (xs.map fun k => D.int (k : Nat)).all (okD 19) = true
  rw [List.all_map, List.all_eq_true]
  intro x _
  rfl
theorem ne_ints (xs : List Nat) : opNe (.lst (xs.map fun k => .int (k : Nat))) (.lst []) = some (.sh (.bl (!xs.isEmpty))) := by
  unfold opNe
  rw [okq_ints, show okq (.lst []) = true from rfl]
  cases xs <;> rfl
def badK (f : Fx) (t : List Nat) (i : Nat) : List Nat := (List.range f.o.length).filter fun k => !(cut t (i + k) (i + k + 1) == [f.o.getD k 0])
def lstN (f : Fx) (t : List Nat) (i : Nat) : Bool := if (!(badK f t i).isEmpty) = true then false else if (!(f.a == []) && (decide (i = 0) || !([t.getD (i - 1) 0] == f.a))) = true then false else (f.b == [] || cut t (i + f.o.length) (i + f.o.length + 1) == f.b)
theorem law_stands_eq {f : Fx} {t : List Nat} {i : Nat} {src : List Int × Int} (w : FxW f) (ht : Asc t) (hl : t.length ≤ 16777216) (ho : f.o.length ≤ 1000) (hi : i < t.length) :
    sem_law_stands [.sh (fxD f), .sh (.str t), .sh (.int (i : Nat))] src = .ok false (.bl (lstN f t i)) [.sh (fxD f), .sh (.str t), .sh (.int (i : Nat))] src := by
  let e0 : List Sl := [.sh (fxD f), .sh (.str t), .sh (.int (i : Nat)), .no, .no, .no, .no, .no]
  let e1 : List Sl := [.sh (fxD f), .sh (.str t), .sh (.int (i : Nat)), .sh (.str f.a), .sh (.str f.o), .sh (.str f.n), .sh (.str f.b), .no]
  let p : Py.PS := ⟨e1, src⟩
  have s1 : sAsgT (gT (gsC (gN 3) (gsC (gN 4) (gsC (gN 5) (gsC (gN 6) gsN))))) (dVar 0) ⟨e0, src⟩ = .nx p := asgT_ok (var_sh (i := 0) rfl) rfl rfl
  have hr := rg1_ok (da := dN opLen (dCons (dVar 4) dNil)) (p := p) (dN1_ok (var_sh (i := 4) rfl) rfl (opLen_str (by omega))) rfl (by omega)
  have hc := comp_pure (own := [7]) (tg := gN 7) (dt := d2 opNe (dSl (dVar 1) (dO1 (d2 opAdd (dVar 2) (dVar 7))) (dO1 (d2 opAdd (d2 opAdd (dVar 2) (dVar 7)) (dC (.int 1))))) (d2 opIx (dVar 4) (dVar 7))) (de := dVar 7)
    (t := fun k => !(cut t (i + k) (i + k + 1) == [f.o.getD k 0])) (e := fun k => .int (k : Nat)) hr rfl (by rw [List.length_range]; omega) (fun k hk => by
      have hk : k < f.o.length := List.mem_range.mp hk
      let e2 : List Sl := [.sh (fxD f), .sh (.str t), .sh (.int (i : Nat)), .sh (.str f.a), .sh (.str f.o), .sh (.str f.n), .sh (.str f.b), .sh (.int (k : Nat))]
      have a1 : d2 opAdd (dVar 2) (dVar 7) (⟨e2, src⟩ : Py.PS) = .ok (.sh (.int ((i + k : Nat) : Int))) ⟨e2, src⟩ := by
        rw [Int.natCast_add]
        exact d2_ok (var_sh (i := 2) rfl) (var_sh (i := 7) rfl) rfl rfl (add_int _ _)
      have a2 : d2 opAdd (d2 opAdd (dVar 2) (dVar 7)) (dC (.int 1)) (⟨e2, src⟩ : Py.PS) = .ok (.sh (.int ((i + k + 1 : Nat) : Int))) ⟨e2, src⟩ := by
        rw [Int.natCast_add (i + k)]
        exact d2_ok a1 (show dC (.int 1) _ = .ok (.sh (.int 1)) _ from rfl) rfl rfl (add_int _ _)
      have c1 := sl_ok (p := ⟨e2, src⟩) (var_sh (i := 1) rfl) (o1_ok a1) (o1_ok a2) rfl (opSl_str hl)
      rw [cutD_nat] at c1
      have hx : f.o[k] = f.o.getD k 0 := by rw [List.getD_eq_getElem?_getD, List.getElem?_eq_getElem hk]; rfl
      have hix := ix_str (x := f.o) hk (by omega)
      rw [hx] at hix
      have hasc : Asc [f.o.getD k 0] := fun c hc => by
        rw [List.mem_singleton.mp hc, ← hx]
        exact w.o _ (List.getElem_mem hk)
      exact ⟨e2, rfl, rfl, d2_ok c1 (d2_ok (var_sh (i := 4) rfl) (var_sh (i := 7) rfl) rfl rfl hix) rfl rfl (ne_str (ht.cut _ _) hasc), fun _ => ⟨_, var_sh (i := 7) rfl, rfl⟩⟩) rfl
  have t1 := d2_ok (f := opNe) hc (show dLst dNil (⟨e1, src⟩ : Py.PS) = .ok (.ow (.lst [])) ⟨e1, src⟩ from rfl) rfl rfl (ne_ints (badK f t i))
  have b1 := d2_ok (p := p) (var_sh (i := 3) rfl) (show dC (.str []) p = .ok (.sh (.str [])) p from rfl) rfl rfl (ne_str w.a asc_nil)
  have b2 : d2 opEq (dVar 2) (dC (.int 0)) p = .ok (.sh (.bl (decide (i = 0)))) p := by
    refine d2_ok (var_sh (i := 2) rfl) (show dC (.int 0) p = .ok (.sh (.int 0)) p from rfl) rfl rfl ?_
    unfold opEq
    rw [show okq (.int (i : Nat)) = true from rfl, show okq (.int 0) = true from rfl]
    show some (Rv.sh (.bl (((i : Nat) : Int) == 0))) = _
    have : (((i : Nat) : Int) == 0) = decide (i = 0) := by
      by_cases h : i = 0
      · subst h; rfl
      · rw [decide_eq_false h]
        exact beq_eq_false_iff_ne.mpr (by omega)
    rw [this]
  have b3 : i ≠ 0 → d2 opNe (d2 opIx (dVar 1) (d2 opSub (dVar 2) (dC (.int 1)))) (dVar 3) p = .ok (.sh (.bl (!([t.getD (i - 1) 0] == f.a)))) p := fun h0 => by
    have hk : i - 1 < t.length := by omega
    have hsub : d2 opSub (dVar 2) (dC (.int 1)) p = .ok (.sh (.int ((i - 1 : Nat) : Int))) p := by
      have : d2 opSub (dVar 2) (dC (.int 1)) p = .ok (.sh (.int ((i : Int) - 1))) p := rfl
      rw [this, show ((i : Int) - 1) = ((i - 1 : Nat) : Int) by omega]
    have hx : t[i - 1] = t.getD (i - 1) 0 := by rw [List.getD_eq_getElem?_getD, List.getElem?_eq_getElem hk]; rfl
    have hix := ix_str (x := t) hk hl
    rw [hx] at hix
    have hasc : Asc [t.getD (i - 1) 0] := fun c hc => by
      rw [List.mem_singleton.mp hc, ← hx]
      exact ht _ (List.getElem_mem hk)
    exact d2_ok (d2_ok (var_sh (i := 1) rfl) hsub rfl rfl hix) (var_sh (i := 3) rfl) rfl rfl (ne_str hasc w.a)
  have t2 := and_b b1 fun _ => or_b (b := !([t.getD (i - 1) 0] == f.a)) b2 fun h => b3 (of_decide_eq_false h)
  have a1 : d2 opAdd (dVar 2) (dN opLen (dCons (dVar 4) dNil)) p = .ok (.sh (.int ((i + f.o.length : Nat) : Int))) p := by
    rw [Int.natCast_add]
    exact d2_ok (var_sh (i := 2) rfl) (dN1_ok (var_sh (i := 4) rfl) rfl (opLen_str (by omega))) rfl rfl (add_int _ _)
  have a2 : d2 opAdd (d2 opAdd (dVar 2) (dN opLen (dCons (dVar 4) dNil))) (dC (.int 1)) p = .ok (.sh (.int ((i + f.o.length + 1 : Nat) : Int))) p := by
    rw [Int.natCast_add (i + f.o.length)]
    exact d2_ok a1 (show dC (.int 1) _ = .ok (.sh (.int 1)) _ from rfl) rfl rfl (add_int _ _)
  have c2 := sl_ok (p := p) (var_sh (i := 1) rfl) (o1_ok a1) (o1_ok a2) rfl (opSl_str hl)
  rw [cutD_nat] at c2
  have t3 := or_b (d2_ok (p := p) (var_sh (i := 6) rfl) (show dC (.str []) p = .ok (.sh (.str [])) p from rfl) rfl rfl (eq_str w.b asc_nil)) fun _ => d2_ok c2 (var_sh (i := 6) rfl) rfl rfl (eq_str (ht.cut _ _) w.b)
  unfold sem_law_stands semD
  show outFR _ (den_law_stands ⟨e0, src⟩) = _
  unfold den_law_stands
  rw [seq_nx s1]
  unfold lstN
  have rf : sRet (dC (.bl false)) p = .rt (.sh (.bl false)) p := ret_ok (show dC (.bl false) p = .ok (.sh (.bl false)) p from rfl)
  cases hA : (!(badK f t i).isEmpty) with
  | true =>
    rw [hA] at t1
    rw [seq_rt ((if_t t1).trans rf)]
    rfl
  | false =>
    rw [hA] at t1
    rw [seq_nx (if_skip t1)]
    cases hB : (!(f.a == []) && (decide (i = 0) || !([t.getD (i - 1) 0] == f.a))) with
    | true =>
      rw [hB] at t2
      rw [seq_rt ((if_t t2).trans rf)]
      rfl
    | false =>
      rw [hB] at t2
      rw [seq_nx (if_skip t2), ret_ok t3]
      rfl
end Pg
set_option maxRecDepth 100000
set_option maxHeartbeats 1000000
namespace Pg
open PySem PySem.Spec PyProof.Rows L2 Py
theorem cut_one (t : List Nat) (j : Nat) : cut t j (j + 1) = (t[j]?).toList := by
  unfold cut
  rw [show j + 1 - j = 1 by omega]
  by_cases h : j < t.length
  · rw [List.drop_eq_getElem_cons h, List.getElem?_eq_getElem h]; rfl
  · rw [List.drop_eq_nil_of_le (by omega), List.getElem?_eq_none (by omega)]; rfl
theorem cut_all (t : List Nat) (o : List Nat) (i : Nat) : (cut t i (i + o.length) = o) ↔ ∀ k, k < o.length → t[i + k]? = some (o.getD k 0) := by
  unfold cut
  rw [show i + o.length - i = o.length by omega]
  constructor
  · intro h k hk
    have h1 : ((t.drop i).take o.length)[k]? = o[k]? := by rw [h]
    rw [List.getElem?_take_of_lt hk, List.getElem?_drop, List.getElem?_eq_getElem hk] at h1
    rw [h1, List.getD_eq_getElem?_getD, List.getElem?_eq_getElem hk]; rfl
  · intro h
    apply List.ext_getElem?
    intro k
    by_cases hk : k < o.length
    · rw [List.getElem?_take_of_lt hk, List.getElem?_drop, h k hk, List.getD_eq_getElem?_getD, List.getElem?_eq_getElem hk]; rfl
    · rw [List.getElem?_eq_none (by rw [List.length_take]; omega), List.getElem?_eq_none (by omega)]
theorem badK_empty (f : Fx) (t : List Nat) (i : Nat) : (badK f t i).isEmpty = (cut t i (i + f.o.length) == f.o) := by
  have h : (badK f t i).isEmpty = true ↔ (cut t i (i + f.o.length) == f.o) = true := by
    rw [List.isEmpty_iff, beq_iff_eq, cut_all]
    unfold badK
    rw [List.filter_eq_nil_iff]
    constructor
    · intro h k hk
      have := h k (List.mem_range.mpr hk)
      rw [cut_one] at this
      simp at this
      cases e : t[i + k]? with
      | none => rw [e] at this; simp at this
      | some c => rw [e] at this; simp at this; rw [this]; simp [List.getD_eq_getElem?_getD]
    · intro h k hk
      have := h k (List.mem_range.mp hk)
      rw [cut_one, this]
      simp
  cases e : (badK f t i).isEmpty <;> cases e2 : (cut t i (i + f.o.length) == f.o) <;> simp_all
theorem st_eq {f : Fx} {t : List Nat} {i : Nat} (ha : f.a.length ≤ 1) (hb : f.b.length ≤ 1) (hi : i < t.length) : lstN f t i = stN f t i := by
  unfold lstN stN
  rw [badK_empty]
  have eb : (f.b == [] || cut t (i + f.o.length) (i + f.o.length + 1) == f.b) = (cut t (i + f.o.length) (i + f.o.length + f.b.length) == f.b) := by
    cases h : f.b with
    | nil => simp [cut]
    | cons c cs =>
      rw [h] at hb
      have : cs = [] := by cases cs with | nil => rfl | cons _ _ => simp at hb
      subst this
      simp
  have ea : (!(!(f.a == []) && (decide (i = 0) || !([t.getD (i - 1) 0] == f.a)))) = (f.a == [] || cut t (i - 1) i == f.a) := by
    cases h : f.a with
    | nil => simp
    | cons c cs =>
      rw [h] at ha
      have : cs = [] := by cases cs with | nil => rfl | cons _ _ => simp at ha
      subst this
      by_cases h0 : i = 0
      · subst h0
        simp [cut]
      · have e : cut t (i - 1) i = [t.getD (i - 1) 0] := by
          have := cut_one t (i - 1)
          rw [show i - 1 + 1 = i by omega] at this
          rw [this, List.getElem?_eq_getElem (by omega), List.getD_eq_getElem?_getD, List.getElem?_eq_getElem (by omega)]
          rfl
        rw [e]
        simp [h0]
  rw [← ea, ← eb]
  cases (cut t i (i + f.o.length) == f.o) <;> cases (f.b == [] || cut t (i + f.o.length) (i + f.o.length + 1) == f.b) <;> cases (!(f.a == []) && (decide (i = 0) || !([t.getD (i - 1) 0] == f.a))) <;> rfl
theorem numsN_range (b : List Fx) (t : List Nat) (i : Nat) : numsN b t i = (List.range b.length).filter fun k => stN (fxAt b k) t i := by
  unfold numsN
  have key : ∀ (xs : List Fx) (m : Nat), (∀ k, k < xs.length → fxAt b (m + k) = xs.getD k ⟨[], [], [], []⟩) → (((xs.zipIdx m).filter fun p => stN p.1 t i).map (·.2)) = (List.range' m xs.length).filter fun k => stN (fxAt b k) t i := fun xs => by
    induction xs with
    | nil => intro m _; rfl
    | cons x xs ih =>
      intro m h
      rw [List.zipIdx_cons, List.length_cons, List.range'_succ]
      have h0 : fxAt b m = x := by
        have := h 0 (by simp)
        simpa using this
      have ih := ih (m + 1) fun k hk => by
        have := h (k + 1) (by simp; omega)
        rw [show m + 1 + k = m + (k + 1) by omega, this]
        simp
      cases hc : stN x t i with
      | true => simp only [List.filter_cons, h0, hc, if_true, List.map_cons, ih]
      | false => simp only [List.filter_cons, h0, hc, Bool.false_eq_true, if_false, ih]
  rw [List.range_eq_range']
  exact key b 0 fun k _ => by rw [Nat.zero_add]; rfl
def lfS : Nat → Sl := slN
theorem add_lst {x y : List D} (h : x.length + y.length ≤ 16777216) : opAdd (.lst x) (.lst y) = some (.ow (.lst (x ++ y))) := by simp only [opAdd]; rw [if_pos h]
def fndTo (b : List Fx) (t : List Nat) (m : Nat) : List (Nat × Nat) := (List.range m).flatMap fun i => (numsN b t i).map fun k => (i, k)
theorem fndTo_len {b : List Fx} {t : List Nat} (w : BkW b) (m : Nat) : (fndTo b t m).length ≤ m * 5 := by
  have := flat_len (fun i => (numsN b t i).map fun k => (i, k)) 5 (List.range m) fun i _ => by
    rw [List.length_map]
    exact Nat.le_trans numsN_len w.l
  rw [List.length_range] at this
  exact this
theorem law_findings_eq {b : List Fx} {t : List Nat} {src : List Int × Int} (w : BkOk b) (ht : Asc t) (hl : t.length ≤ 100000) : sem_law_findings [.sh (bkD b), .sh (.str t)] src = .ok true (.lst ((fndN b t).map pD)) [.sh (bkD b), .sh (.str t)] src := by
  let e0 : List Sl := [.sh (bkD b), .sh (.str t), .no, .no, .no]
  let st : Nat → Py.PS := fun m => ⟨[.sh (bkD b), .sh (.str t), .own false false (.lst ((fndTo b t m).map pD)), slN m, .no], src⟩
  have s1 : sAsg 2 (dLst dNil) ⟨e0, src⟩ = .nx (st 0) := rfl
  have hd := rg1_ok (da := dN opLen (dCons (dVar 1) dNil)) (p := st 0) (dN1_ok (var_sh (i := 1) rfl) rfl (opLen_str (x := t) (by omega))) rfl (by omega)
  let body : SDn := sAsg 2 (d2 opAdd (dVar 2) (dComp [4] (dRg1 (dN opLen (dCons (dVar 0) dNil))) (gN 4) (dCall 3 sem_law_stands (dCons (d2 opIx (dVar 0) (dVar 4)) (dCons (dVar 1) (dCons (dVar 3) dNil)))) (dTup (dCons (dVar 3) (dCons (dVar 4) dNil)))))
  have hloop : ∀ (m k : Nat), k + m = t.length → forL (gN 3) body ((List.range' k m).map fun i => .int (i : Nat)) (st k) = .nx (st t.length) := fun m => by
    induction m with
    | zero => intro k hk; rw [Nat.add_zero] at hk; subst hk; rfl
    | succ m ih =>
      intro k hk
      rw [List.range'_succ, List.map_cons]
      let e1 : List Sl := [.sh (bkD b), .sh (.str t), .own false false (.lst ((fndTo b t k).map pD)), .sh (.int (k : Nat)), .no]
      let p : Py.PS := ⟨e1, src⟩
      have hg : gN 3 (.int (k : Nat)) (st k).env = some e1 := by
        cases k <;> rfl
      have hr := rg1_ok (da := dN opLen (dCons (dVar 0) dNil)) (p := p) (n := b.length) (dN1_ok (f := opLen) (var_sh (i := 0) rfl) rfl (show opLen [bkD b] = some (.sh (.int (b.length : Nat))) by show some (Rv.sh (.int ((b.map fxD).length : Nat))) = _; rw [List.length_map])) rfl (by have := w.l; omega)
      have hc := comp_pure (own := [4]) (tg := gN 4) (dt := dCall 3 sem_law_stands (dCons (d2 opIx (dVar 0) (dVar 4)) (dCons (dVar 1) (dCons (dVar 3) dNil)))) (de := dTup (dCons (dVar 3) (dCons (dVar 4) dNil)))
        (t := fun n => stN (fxAt b n) t k) (e := fun n => pD (k, n)) hr rfl (by rw [List.length_range]; have := w.l; omega) (fun n hn => by
          have hn : n < b.length := List.mem_range.mp hn
          have hm := fxAt_mem hn
          let e2 : List Sl := [.sh (bkD b), .sh (.str t), .own false false (.lst ((fndTo b t k).map pD)), .sh (.int (k : Nat)), .sh (.int (n : Nat))]
          have hs := law_stands_eq (f := fxAt b n) (t := t) (i := k) (src := src) (w.f _ hm) ht (by omega) (by have := w.o _ hm; omega) (by omega)
          rw [st_eq (w.a _ hm) (w.fb _ hm) (by omega)] at hs
          have hcall := call3 (fresh := false) (p := (⟨e2, src⟩ : Py.PS)) (d2_ok (var_sh (i := 0) rfl) (var_sh (i := 4) rfl) rfl rfl (ix_book hn)) rfl (var_sh (i := 1) rfl) rfl (var_sh (i := 3) rfl) rfl rfl hs
          exact ⟨e2, rfl, rfl, hcall, fun _ => ⟨_, tup2_ok (var_sh (i := 3) rfl) rfl (var_sh (i := 4) rfl) rfl, rfl⟩⟩) rfl
      have e5 : ((List.range b.length).filter fun n => stN (fxAt b n) t k).map (fun n => pD (k, n)) = ((numsN b t k).map fun n => (k, n)).map pD := by
        rw [numsN_range, List.map_map]; rfl
      rw [e5] at hc
      have hlen1 := fndTo_len (t := t) w.toBkW k
      have hlen2 : (numsN b t k).length ≤ 5 := Nat.le_trans numsN_len w.l
      have hadd := d2_ok (f := opAdd) (p := p) (show dVar 2 p = .ok (.bo 2) p from rfl) hc rfl rfl (add_lst (by rw [List.length_map, List.length_map, List.length_map]; omega))
      have hb : body ⟨e1, src⟩ = .nx (st (k + 1)) := by
        show sAsg 2 _ _ = _
        rw [asg_ok hadd]
        show Out.nx (⟨[.sh (bkD b), .sh (.str t), .own false false (.lst ((fndTo b t k).map pD ++ ((numsN b t k).map fun n => (k, n)).map pD)), .sh (.int (k : Nat)), .no], src⟩ : Py.PS) = _
        have e6 : (fndTo b t (k + 1)).map pD = (fndTo b t k).map pD ++ ((numsN b t k).map fun n => (k, n)).map pD := by
          unfold fndTo
          rw [List.range_succ, List.flatMap_append, List.map_append]
          simp
        show _ = Out.nx (⟨[.sh (bkD b), .sh (.str t), .own false false (.lst ((fndTo b t (k + 1)).map pD)), .sh (.int (k : Nat)), .no], src⟩ : Py.PS)
        rw [e6]
      unfold forL
      simp only [hg]
      rw [show (⟨e1, (st k).src⟩ : Py.PS) = ⟨e1, src⟩ from rfl, hb]
      exact ih (k + 1) (by omega)
  have hf : forL (gN 3) body ((List.range t.length).map fun i => .int (i : Nat)) (st 0) = .nx (st t.length) := by
    rw [List.range_eq_range']
    exact hloop t.length 0 (by omega)
  have s2 := for_none hd hf
  unfold sem_law_findings semD
  show outFR _ (den_law_findings ⟨e0, src⟩) = _
  unfold den_law_findings
  rw [seq_nx s1, seq_nx s2]
  rfl
end Pg
set_option maxRecDepth 100000
set_option maxHeartbeats 1000000
namespace Pg
open PySem PySem.Spec PyProof.Rows L2 Py
theorem law_taken_eq {b : List Fx} {t : List Nat} {src : List Int × Int} (w : BkOk b) (ht : Asc t) (hl : t.length ≤ 100000) : sem_law_taken [.sh (bkD b), .sh (.str t)] src = .ok true (.lst ((takN b t).map pD)) [.sh (bkD b), .sh (.str t)] src := by
  let e0 : List Sl := [.sh (bkD b), .sh (.str t), .no, .no, .no, .no]
  let st : ((List (Nat × Nat) × Nat) × Option (Nat × Nat)) → Py.PS := fun s => ⟨[.sh (bkD b), .sh (.str t), .own false false (.lst (s.1.1.map pD)), .sh (.int (s.1.2 : Nat)), sl1 s.2, sl2 s.2], src⟩
  have s1 : sParA 2 3 (dLst dNil) (dC (.int 0)) ⟨e0, src⟩ = .nx (st (([], 0), none)) := rfl
  have hcall := call2 (fresh := true) (p := st (([], 0), none)) (da := dVar 0) (db := dVar 1) (var_sh (i := 0) rfl) rfl (var_sh (i := 1) rfl) rfl rfl (law_findings_eq w ht hl)
  have hd := div_of hcall rfl rfl
  have hloop := forL_fold (enc := pD) st (stepT' b) (fun n s => s.1.1.length + n ≤ 16777216) (fun p => p.2 < b.length) (fun n s x hn hx => taken_loop w.toBkW n s x hn hx) (fndN b t) (([], 0), none) (by have := fndN_len (t := t) w.toBkW; simp; omega) fndN_lt
  have s3 := for_none hd hloop
  unfold sem_law_taken semD
  show outFR _ (den_law_taken ⟨e0, src⟩) = _
  unfold den_law_taken
  rw [seq_nx s1, seq_nx s3]
  have e := foldT b (fndN b t) (([], 0), none)
  unfold takN
  rw [← e]
  rfl
/-! ### put in from the end -/
def stepL (b : List Fx) (t : List Nat) (p : Nat × Nat) : List Nat := t.take p.1 ++ (fxAt b p.2).n ++ t.drop (p.1 + (fxAt b p.2).o.length)
def lputN (b : List Fx) (t : List Nat) (fs : List (Nat × Nat)) : List Nat := fs.reverse.foldl (stepL b) t
theorem lput_snoc (b : List Fx) (t : List Nat) (l : List (Nat × Nat)) (p : Nat × Nat) : lputN b t (l ++ [p]) = lputN b (stepL b t p) l := by
  unfold lputN
  rw [List.reverse_append]
  rfl
/-- what stands ahead of e is as the parts tell, what follows stays -/
theorem put_lput {b : List Fx} {m : Nat} {l : List (Nat × Nat)} {e : Nat} (h : Ch b m l e) : ∀ t : List Nat, m ≤ t.length → ∀ u : List Nat, (∀ j, j < e → u[j]? = t[j]?) → e ≤ u.length → lputN b u l = (l.foldl (stepP b t) ([], 0)).1 ++ u.drop e := by
  induction h with
  | nil => intro t _ u _ _; simp [lputN]
  | @snoc l e p h h1 h2 h3 ih =>
    intro t hm u hu he
    rw [lput_snoc, List.foldl_append]
    have hpu : p.1 ≤ u.length := by omega
    have hs : stepL b u p = u.take p.1 ++ (fxAt b p.2).n ++ u.drop (p.1 + (fxAt b p.2).o.length) := rfl
    rw [ih t hm (stepL b u p) (fun j hj => ?_) ?_]
    · have e2 : (l.foldl (stepP b t) ([], 0)).2 = e := by
        have : ∀ {l : List (Nat × Nat)} {e : Nat}, Ch b m l e → (l.foldl (stepP b t) ([], 0)).2 = e := fun h => by
          cases h with
          | nil => rfl
          | snoc _ _ _ _ => rw [List.foldl_append]; rfl
        exact this h
      show _ = (stepP b t (l.foldl (stepP b t) ([], 0)) p).1 ++ u.drop _
      rw [show stepP b t (l.foldl (stepP b t) ([], 0)) p = ((l.foldl (stepP b t) ([], 0)).1 ++ cut t (l.foldl (stepP b t) ([], 0)).2 p.1 ++ (fxAt b p.2).n, p.1 + (fxAt b p.2).o.length) from rfl, e2]
      show _ = (l.foldl (stepP b t) ([], 0)).1 ++ cut t e p.1 ++ (fxAt b p.2).n ++ _
      have hd : (stepL b u p).drop e = cut t e p.1 ++ (fxAt b p.2).n ++ u.drop (p.1 + (fxAt b p.2).o.length) := by
        rw [hs, List.append_assoc, List.drop_append_of_le_length (by rw [List.length_take]; omega)]
        have : (u.take p.1).drop e = cut t e p.1 := by
          unfold cut
          apply List.ext_getElem?
          intro k
          by_cases hk : k < p.1 - e
          · rw [List.getElem?_drop, List.getElem?_take_of_lt (by omega), List.getElem?_take_of_lt hk, List.getElem?_drop, hu (e + k) (by omega)]
          · rw [List.getElem?_eq_none (by rw [List.length_drop, List.length_take]; omega), List.getElem?_eq_none (by rw [List.length_take]; omega)]
        rw [this, List.append_assoc]
      rw [hd]
      simp only [List.append_assoc]
    · rw [hs, List.append_assoc, List.length_append, List.length_take]
      omega
    · rw [hs, List.append_assoc, List.getElem?_append_left (by rw [List.length_take]; omega), List.getElem?_take_of_lt (by omega), hu j (by omega)]
theorem lput_eq {b : List Fx} {t : List Nat} (w : BkOk b) : lputN b t (takN b t) = rdN b t := by
  have h := fold_ch (t := t) w.ok (fndN b t) ([], 0) fndN_st .nil
  obtain ⟨h1, h2, h3⟩ := put_ch (fxAt_n w.toBkW) h
  have := put_lput h t (Nat.le_refl _) t (fun _ _ => rfl) h3
  unfold rdN putN
  rw [show takN b t = ((fndN b t).foldl (stepT b) ([], 0)).1 from rfl, this, h1]
def fsl (b : List Fx) (g : Fx → List Nat) : Option (Nat × Nat) → Sl
  | some p => .sh (.str (g (fxAt b p.2)))
  | none => .no
def stepL' (b : List Fx) (s : List Nat × Option (Nat × Nat)) (p : Nat × Nat) : List Nat × Option (Nat × Nat) := (stepL b s.1 p, some p)
theorem foldL (b : List Fx) : ∀ (xs : List (Nat × Nat)) (s : List Nat × Option (Nat × Nat)), (xs.foldl (stepL' b) s).1 = xs.foldl (stepL b) s.1
  | [], _ => rfl
  | x :: xs, s => foldL b xs (stepL' b s x)
theorem lput_loop {b : List Fx} {fd : D} {src : List Int × Int} (w : BkW b) : ∀ (n : Nat) (s : List Nat × Option (Nat × Nat)) (x : Nat × Nat), s.1.length + (n + 1) * 4 ≤ 1000000 → x.2 < b.length →
    (stepL' b s x).1.length + n * 4 ≤ 1000000 ∧ ∃ env', gT (gsC (gN 3) (gsC (gN 4) gsN)) (pD x) [.sh (bkD b), .sh (.str s.1), .sh fd, sl1 s.2, sl2 s.2, fsl b (·.a) s.2, fsl b (·.o) s.2, fsl b (·.n) s.2, fsl b (·.b) s.2] = some env' ∧
      sSeq (sAsgT (gT (gsC (gN 5) (gsC (gN 6) (gsC (gN 7) (gsC (gN 8) gsN))))) (d2 opIx (dVar 0) (dVar 4))) (sAsg 1 (d2 opAdd (d2 opAdd (dSl (dVar 1) dO0 (dO1 (dVar 3))) (dVar 7)) (dSl (dVar 1) (dO1 (d2 opAdd (dVar 3) (dN opLen (dCons (dVar 6) dNil)))) dO0))) ⟨env', src⟩ =
        .nx ⟨[.sh (bkD b), .sh (.str (stepL' b s x).1), .sh fd, sl1 (stepL' b s x).2, sl2 (stepL' b s x).2, fsl b (·.a) (stepL' b s x).2, fsl b (·.o) (stepL' b s x).2, fsl b (·.n) (stepL' b s x).2, fsl b (·.b) (stepL' b s x).2], src⟩ := fun n s x hn hx => by
  obtain ⟨t, o⟩ := s
  obtain ⟨a, k⟩ := x
  have hk : k < b.length := hx
  have hn : t.length + (n + 1) * 4 ≤ 1000000 := hn
  have hm := fxAt_mem hk
  have h3 := w.n _ hm
  have h4 := w.o _ hm
  let e1 : List Sl := [.sh (bkD b), .sh (.str t), .sh fd, .sh (.int (a : Nat)), .sh (.int (k : Nat)), fsl b (·.a) o, fsl b (·.o) o, fsl b (·.n) o, fsl b (·.b) o]
  let e2 : List Sl := [.sh (bkD b), .sh (.str t), .sh fd, .sh (.int (a : Nat)), .sh (.int (k : Nat)), .sh (.str (fxAt b k).a), .sh (.str (fxAt b k).o), .sh (.str (fxAt b k).n), .sh (.str (fxAt b k).b)]
  have hg : gT (gsC (gN 3) (gsC (gN 4) gsN)) (pD (a, k)) [.sh (bkD b), .sh (.str t), .sh fd, sl1 o, sl2 o, fsl b (·.a) o, fsl b (·.o) o, fsl b (·.n) o, fsl b (·.b) o] = some e1 := by
    cases o <;> rfl
  have s1 : sAsgT (gT (gsC (gN 5) (gsC (gN 6) (gsC (gN 7) (gsC (gN 8) gsN))))) (d2 opIx (dVar 0) (dVar 4)) ⟨e1, src⟩ = .nx ⟨e2, src⟩ := asgT_ok (d2_ok (p := ⟨e1, src⟩) (var_sh (i := 0) rfl) (var_sh (i := 4) rfl) rfl rfl (ix_book hk)) rfl (by cases o <;> rfl)
  have c1 := sl_ok (p := ⟨e2, src⟩) (var_sh (i := 1) rfl) (show dO0 (⟨e2, src⟩ : Py.PS) = .ok none ⟨e2, src⟩ from rfl) (o1_ok (var_sh (i := 3) rfl)) rfl (opSl_str (show t.length ≤ 16777216 by omega))
  rw [cutD_to] at c1
  have a1 : d2 opAdd (dVar 3) (dN opLen (dCons (dVar 6) dNil)) (⟨e2, src⟩ : Py.PS) = .ok (.sh (.int ((a + (fxAt b k).o.length : Nat) : Int))) ⟨e2, src⟩ := by
    rw [Int.natCast_add]
    exact d2_ok (var_sh (i := 3) rfl) (dN1_ok (var_sh (i := 6) rfl) rfl (opLen_str (by omega))) rfl rfl (add_int _ _)
  have c2 := sl_ok (p := ⟨e2, src⟩) (var_sh (i := 1) rfl) (o1_ok a1) (show dO0 (⟨e2, src⟩ : Py.PS) = .ok none ⟨e2, src⟩ from rfl) rfl (opSl_str (show t.length ≤ 16777216 by omega))
  rw [cutD_from] at c2
  have l1 : (t.take a).length ≤ t.length := by rw [List.length_take]; omega
  have l2 : (t.drop (a + (fxAt b k).o.length)).length ≤ t.length := by rw [List.length_drop]; omega
  have h := d2_ok (f := opAdd) (d2_ok (f := opAdd) c1 (var_sh (i := 7) rfl) rfl rfl (add_str (by omega))) c2 rfl rfl (add_str (by rw [List.length_append]; omega))
  refine ⟨?_, e1, hg, ?_⟩
  · show (t.take a ++ (fxAt b k).n ++ t.drop (a + (fxAt b k).o.length)).length + n * 4 ≤ _
    rw [List.length_append, List.length_append, List.length_take, List.length_drop]
    omega
  · rw [seq_nx s1, asg_ok h]
    rfl
theorem law_put_in_eq {b : List Fx} {t : List Nat} {fs : List (Nat × Nat)} {src : List Int × Int} (w : BkW b) (hl : t.length ≤ 10000) (hf : fs.length ≤ 60000) (hk : ∀ p ∈ fs, p.2 < b.length) : sem_law_put_in [.sh (bkD b), .sh (.str t), .sh (.lst (fs.map pD))] src = .ok false (.str (lputN b t fs)) [.sh (bkD b), .sh (.str t), .sh (.lst (fs.map pD))] src := by
  let st : (List Nat × Option (Nat × Nat)) → Py.PS := fun s => ⟨[.sh (bkD b), .sh (.str s.1), .sh (.lst (fs.map pD)), sl1 s.2, sl2 s.2, fsl b (·.a) s.2, fsl b (·.o) s.2, fsl b (·.n) s.2, fsl b (·.b) s.2], src⟩
  have hrev : d1 opRev (dVar 2) (st (t, none)) = .ok (.ow (.lst (fs.reverse.map pD))) (st (t, none)) := by
    refine d1_ok (da := dVar 2) (p := st (t, none)) (var_sh (i := 2) rfl) rfl ?_
    show some (Rv.ow (.lst (fs.map pD).reverse)) = _
    rw [List.map_reverse]
  have hd := div_of hrev rfl rfl
  have hloop := forL_fold (enc := pD) st (stepL' b) (fun n s => s.1.length + n * 4 ≤ 1000000) (fun p => p.2 < b.length) (fun n s x hn hx => lput_loop w n s x hn hx) fs.reverse (t, none) (by rw [List.length_reverse]; show t.length + fs.length * 4 ≤ _; omega) (fun p hp => hk p (List.mem_reverse.mp hp))
  have s2 := for_none hd hloop
  have e := foldL b fs.reverse (t, none)
  unfold sem_law_put_in semD
  show outFR _ (den_law_put_in (st (t, none))) = _
  unfold den_law_put_in
  rw [seq_nx s2]
  unfold lputN
  rw [← e]
  rfl
theorem law_round_eq {b : List Fx} {t : List Nat} {src : List Int × Int} (w : BkOk b) (ht : Asc t) (hl : t.length ≤ 10000) : sem_law_round [.sh (bkD b), .sh (.str t)] src = .ok false (.str (rdN b t)) [.sh (bkD b), .sh (.str t)] src := by
  let p : Py.PS := ⟨[.sh (bkD b), .sh (.str t)], src⟩
  have h1 := call2 (fresh := true) (p := p) (da := dVar 0) (db := dVar 1) (var_sh (i := 0) rfl) rfl (var_sh (i := 1) rfl) rfl rfl (law_taken_eq w ht (by omega))
  have h2 := call3 (fresh := false) (p := p) (da := dVar 0) (db := dVar 1) (var_sh (i := 0) rfl) rfl (var_sh (i := 1) rfl) rfl h1 rfl rfl (law_put_in_eq w.toBkW hl (by have := takN_len (t := t) w.toBkW; omega) takN_lt)
  rw [lput_eq w] at h2
  unfold sem_law_round semD
  show outFR _ (den_law_round p) = _
  unfold den_law_round
  rw [ret_ok h2]
  rfl
end Pg
set_option maxRecDepth 100000
set_option maxHeartbeats 1000000
namespace Pg
open PySem PySem.Spec PyProof.Rows L2 Py
def Gs (x : List Nat) : Prop := ∀ c ∈ x, c = 97 ∨ c = 98 ∨ c = 99 ∨ c = 100 ∨ c = 120 ∨ c = 121
def Ab (x : List Nat) : Prop := ∀ c ∈ x, c = 97 ∨ c = 98 ∨ c = 99 ∨ c = 100
theorem join_nil : ∀ ys : List (List Nat), TL.joinL [] ys = ys.flatten
  | [] => rfl
  | [p] => by simp [TL.joinL]
  | p :: q :: r => by
    show p ++ ([] ++ TL.joinL [] (q :: r)) = _
    rw [join_nil (q :: r)]
    simp
theorem take_cut (t : List Nat) {e a : Nat} (h : e ≤ a) : t.take a = t.take e ++ cut t e a := by
  unfold cut
  have : a = e + (a - e) := by omega
  conv => lhs; rw [this]
  rw [List.take_add]
theorem stN_cut {f : Fx} {t : List Nat} {i : Nat} (h : stN f t i = true) : cut t i (i + f.o.length) = f.o := by
  unfold stN at h
  cases hc : (cut t i (i + f.o.length) == f.o) with
  | false => rw [hc] at h; cases h
  | true => exact eq_of_beq hc
theorem deq_refl : ∀ (n : Nat) (d : D), okD n d = true → deq d d = true := fun n => by
  induction n with
  | zero => intro d h; cases d <;> simp [okD] at h <;> simp [deq]
  | succ n ih =>
    have hL : ∀ ds : List D, ds.all (okD n) = true → deqL ds ds = true := fun ds => by
      induction ds with
      | nil => intro _; rfl
      | cons d ds ih2 =>
        intro h
        rw [List.all_cons, Bool.and_eq_true] at h
        unfold deqL
        rw [ih d h.1, ih2 h.2]; rfl
    intro d h
    cases d with
    | tup ds => simp only [okD] at h; simp only [deq]; exact hL ds h
    | lst ds => simp only [okD] at h; simp only [deq]; exact hL ds h
    | dic ds => simp [okD] at h
    | err c => simp [okD] at h
    | obj c ds => simp [okD] at h
    | bx => simp [okD] at h
    | _ => simp [deq]
theorem ne_same {d : D} (h : okq d = true) : opNe d d = some (.sh (.bl false)) := by
  unfold opNe
  rw [h, deq_refl 20 d h]; rfl
theorem eq_same {d : D} (h : okq d = true) : opEq d d = some (.sh (.bl true)) := by
  unfold opEq
  rw [h, deq_refl 20 d h]; rfl
theorem okq_pairs (fs : List (Nat × Nat)) : okq (.lst (fs.map pD)) = true := by
  show (fs.map pD).all (okD 19) = true
  rw [List.all_map, List.all_eq_true]
  intro x _
  rfl
theorem okD_str {n : Nat} {x : List Nat} (h : Asc x) : okD n (.str x) = true := by
  have := okq_asc h
  cases n <;> exact this
theorem okq_strs {xs : List (List Nat)} (h : ∀ x ∈ xs, Asc x) : okq (.lst (xs.map D.str)) = true := by
  show (xs.map D.str).all (okD 19) = true
  rw [List.all_map, List.all_eq_true]
  intro x hx
  exact okD_str (h x hx)
/-- a drawn book -/
structure BkA (b : List Fx) : Prop where
  a : ∀ f ∈ b, Ab f.a ∧ f.a.length ≤ 1
  o : ∀ f ∈ b, Ab f.o ∧ 1 ≤ f.o.length ∧ f.o.length ≤ 3
  n : ∀ f ∈ b, Ab f.n ∧ f.n.length ≤ 3
  fb : ∀ f ∈ b, Ab f.b ∧ f.b.length ≤ 1
  l : b.length ≤ 5
theorem Ab.asc {x : List Nat} (h : Ab x) : Asc x := fun c hc => by rcases h c hc with rfl | rfl | rfl | rfl <;> decide
theorem Ab.gs {x : List Nat} (h : Ab x) : Gs x := fun c hc => by rcases h c hc with rfl | rfl | rfl | rfl <;> decide
theorem Gs.asc {x : List Nat} (h : Gs x) : Asc x := fun c hc => by rcases h c hc with rfl | rfl | rfl | rfl | rfl | rfl <;> decide
theorem Gs.txN {x : List Nat} {n : Nat} (h : Gs x) (hl : x.length ≤ n) : txN n x = true := by
  unfold Pg.txN
  rw [decide_eq_true hl, Bool.true_and, List.all_eq_true]
  intro c hc
  rcases h c hc with rfl | rfl | rfl | rfl | rfl | rfl <;> decide
theorem not_nil {x : List Nat} (h : 1 ≤ x.length) : (!(x == [])) = true := by
  cases x with
  | nil => simp at h
  | cons c x => rfl
theorem BkA.ok {b : List Fx} (w : BkA b) : BkOk b where
  f := fun f hf => ⟨(w.a f hf).1.asc, (w.o f hf).1.asc, (w.n f hf).1.asc, (w.fb f hf).1.asc⟩
  o := fun f hf => (w.o f hf).2.2
  n := fun f hf => (w.n f hf).2
  fb := fun f hf => (w.fb f hf).2
  l := w.l
  a := fun f hf => (w.a f hf).2
  ok := fun f hf => by
    unfold fxOk
    rw [(w.a f hf).1.gs.txN (w.a f hf).2, (w.fb f hf).1.gs.txN (w.fb f hf).2, (w.o f hf).1.gs.txN (w.o f hf).2.2, (w.n f hf).1.gs.txN (w.n f hf).2, not_nil (w.o f hf).2.1]
    rfl
theorem BkA.abo {b : List Fx} (w : BkA b) (k : Nat) : Ab (fxAt b k).o := by
  by_cases h : k < b.length
  · exact (w.o _ (fxAt_mem h)).1
  · unfold fxAt
    rw [List.getD_eq_getElem?_getD, List.getElem?_eq_none (by omega)]
    exact fun c h => by cases h
theorem BkA.abn {b : List Fx} (w : BkA b) (k : Nat) : Ab (fxAt b k).n := by
  by_cases h : k < b.length
  · exact (w.n _ (fxAt_mem h)).1
  · unfold fxAt
    rw [List.getD_eq_getElem?_getD, List.getElem?_eq_none (by omega)]
    exact fun c h => by cases h
end Pg
set_option maxRecDepth 100000
set_option maxHeartbeats 1000000
namespace Pg
open PySem PySem.Spec PyProof.Rows L2 Py
/-! ### drawing -/
theorem dcons_ok {da : Dn} {dr : DnL} {p p1 p2 : Py.PS} {x : Rv} {xs : List Rv} (ha : da p = .ok x p1) (hr : dr p1 = .ok xs p2) : dCons da dr p = .ok (x.soft :: xs) p2 := by
  unfold dCons
  simp only [ha, R.bind_ok, hr]
theorem pick_len {x : D} {n m : Nat} {src : List Int × Int} (hlen : opLen [x] = some (.sh (.int (m : Nat)))) (hm : 0 < m) (hm2 : m ≤ 1000000) (h : Dr (n + 1) src) : ∃ (k : Nat) (src' : List Int × Int), k < m ∧ Dr n src' ∧
    dCall 2 sem_law_draw (dCons (dVar 0) (dCons (dN opLen (dCons (dVar 1) dNil)) dNil)) ⟨[.src, .sh x], src⟩ = .ok (.sh (.int (k : Nat))) ⟨[.src, .sh x], src'⟩ := by
  obtain ⟨k, src', h1, h2, h3⟩ := draw_step (limit := (m : Int)) h (by omega) (by omega)
  refine ⟨k, src', by omega, h3, ?_⟩
  have ha : dCons (dVar 0) (dCons (dN opLen (dCons (dVar 1) dNil)) dNil) (⟨[.src, .sh x], src⟩ : Py.PS) = .ok (.sr :: [D.int (m : Nat)].map Rv.sh) ⟨[.src, .sh x], src⟩ := by
    have e := dN1_ok (f := opLen) (p := (⟨[.src, .sh x], src⟩ : Py.PS)) (var_sh (i := 1) rfl) rfl hlen
    have e0 : dVar 0 (⟨[.src, .sh x], src⟩ : Py.PS) = .ok .sr ⟨[.src, .sh x], src⟩ := rfl
    exact dcons_ok e0 (dcons_ok e rfl)
  exact call_src (fresh := false) (back := [.sh (.int (m : Nat))]) ha rfl h1
theorem pick_str {x : List Nat} {n : Nat} {src : List Int × Int} (h0 : x ≠ []) (hl : x.length ≤ 1000) (h : Dr (n + 1) src) : ∃ (c : Nat) (src' : List Int × Int), c ∈ x ∧ Dr n src' ∧ sem_law_pick [.src, .sh (.str x)] src = .ok false (.str [c]) [.src, .sh (.str x)] src' := by
  obtain ⟨k, src', hk, hd, hc⟩ := pick_len (x := .str x) (m := x.length) (opLen_str (by omega)) (List.length_pos_iff.mpr h0) (by omega) h
  refine ⟨x[k], src', List.getElem_mem hk, hd, ?_⟩
  have e := d2_ok (f := opIx) (p := (⟨[.src, .sh (.str x)], src⟩ : Py.PS)) (var_sh (i := 1) rfl) hc rfl rfl (ix_str hk (by omega))
  unfold sem_law_pick semD
  show outFR _ (den_law_pick ⟨[.src, .sh (.str x)], src⟩) = _
  unfold den_law_pick
  rw [ret_ok e]
  rfl
theorem pick_lst {ds : List D} {n : Nat} {src : List Int × Int} (h0 : ds ≠ []) (hl : ds.length ≤ 1000) (h : Dr (n + 1) src) : ∃ (d : D) (src' : List Int × Int), d ∈ ds ∧ Dr n src' ∧ sem_law_pick [.src, .sh (.lst ds)] src = .ok false d [.src, .sh (.lst ds)] src' := by
  obtain ⟨k, src', hk, hd, hc⟩ := pick_len (x := .lst ds) (m := ds.length) rfl (List.length_pos_iff.mpr h0) (by omega) h
  refine ⟨ds[k], src', List.getElem_mem hk, hd, ?_⟩
  have hix : opIx (.lst ds) (.int (k : Nat)) = some (.sh ds[k]) := by
    show (atI ds (k : Int)).map Rv.sh = _
    rw [atI_nat ds k hk]; rfl
  have e := d2_ok (f := opIx) (p := (⟨[.src, .sh (.lst ds)], src⟩ : Py.PS)) (var_sh (i := 1) rfl) hc rfl rfl hix
  unfold sem_law_pick semD
  show outFR _ (den_law_pick ⟨[.src, .sh (.lst ds)], src⟩) = _
  unfold den_law_pick
  rw [ret_ok e]
  rfl
/-- a comprehension whose parts draw -/
theorem compL_draw {α : Type} {own : List Nat} {tg : Tgd} {de : Dn} {env : List Sl} {enc : α → D} {P : D → Prop} (c n : Nat) : ∀ (xs : List α) (acc : List D) (src : List Int × Int), Dr (n + xs.length * c) src → (∀ d ∈ acc, P d) →
    (∀ x ∈ xs, ∃ env', tg (enc x) env = some env' ∧ clrE env' own = env ∧ ∀ m src, Dr (m + c) src → ∃ v d src', de ⟨env', src⟩ = .ok v ⟨env', src'⟩ ∧ v.soft = .sh d ∧ P d ∧ Dr m src') →
    ∃ ds src', compL own tg (dC (.bl true)) de (xs.map enc) acc ⟨env, src⟩ = .ok ds ⟨env, src'⟩ ∧ ds.length = acc.length + xs.length ∧ (∀ d ∈ ds, P d) ∧ Dr n src'
  | [], acc, src, h, hp, _ => ⟨acc, src, rfl, rfl, hp, h.mono (by simp)⟩
  | x :: xs, acc, src, h, hp, hb => by
    obtain ⟨env', h1, h2, h3⟩ := hb x List.mem_cons_self
    obtain ⟨v, d, src', h4, h5, h6, h7⟩ := h3 (n + xs.length * c) src (h.mono (by rw [List.length_cons, Nat.add_mul]; omega))
    obtain ⟨ds, src2, k1, k2, k3, k4⟩ := compL_draw c n xs (acc ++ [d]) src' h7 (fun e he => by
      rcases List.mem_append.mp he with he | he
      · exact hp e he
      · rw [List.mem_singleton.mp he]; exact h6) fun y hy => hb y (List.mem_cons_of_mem _ hy)
    refine ⟨ds, src2, ?_, by rw [k2]; simp; omega, k3, k4⟩
    rw [List.map_cons]
    unfold compL
    simp only [h1]
    show (bindN (de ⟨env', src⟩) fun v p2 => match v.soft with | .sh e => compL own tg (dC (.bl true)) de (xs.map enc) (acc ++ [e]) ⟨clrE p2.env own, p2.src⟩ | _ => .bad) = _
    rw [h4, bindN_ok]
    simp only [h5]
    rw [h2]
    exact k1
theorem comp_draw {α : Type} {own : List Nat} {di : Py.PS → R Iv} {tg : Tgd} {de : Dn} {env : List Sl} {src src1 : List Int × Int} {enc : α → D} {P : D → Prop} (c n : Nat) {xs : List α} (hdi : di ⟨env, src⟩ = .ok ⟨none, xs.map enc⟩ ⟨env, src1⟩) (hf : freeOwn own env = true) (hl : xs.length ≤ 16777216) (hd : Dr (n + xs.length * c) src1)
    (hb : ∀ x ∈ xs, ∃ env', tg (enc x) (clrE env own) = some env' ∧ clrE env' own = clrE env own ∧ ∀ m src, Dr (m + c) src → ∃ v d src', de ⟨env', src⟩ = .ok v ⟨env', src'⟩ ∧ v.soft = .sh d ∧ P d ∧ Dr m src')
    (hr : resE env (clrE env own) own = env) : ∃ ds src', dComp own di tg (dC (.bl true)) de ⟨env, src⟩ = .ok (.ow (.lst ds)) ⟨env, src'⟩ ∧ ds.length = xs.length ∧ (∀ d ∈ ds, P d) ∧ Dr n src' := by
  obtain ⟨ds, src', k1, k2, k3, k4⟩ := compL_draw (own := own) (tg := tg) (de := de) (env := clrE env own) (enc := enc) (P := P) c n xs [] src1 hd (fun d h => by cases h) hb
  refine ⟨ds, src', ?_, by simpa using k2, k3, k4⟩
  unfold dComp
  rw [hdi, R.bind_ok, if_pos ⟨hf, rfl, by rw [List.length_map]; exact hl⟩]
  show bindN (compL own tg (dC (.bl true)) de (xs.map enc) [] ⟨clrE env own, src1⟩) _ = _
  rw [k1, bindN_ok]
  show R.ok (Rv.ow (.lst ds)) ⟨resE env (clrE env own) own, src'⟩ = _
  rw [hr]
theorem ones {x : List Nat} : ∀ {ds : List D}, (∀ d ∈ ds, ∃ c, c ∈ x ∧ d = .str [c]) → ∃ w : List Nat, allStr ds = some (w.map fun c => [c]) ∧ w.length = ds.length ∧ ∀ c ∈ w, c ∈ x
  | [], _ => ⟨[], rfl, rfl, fun c h => by cases h⟩
  | d :: ds, h => by
    obtain ⟨w, h1, h2, h3⟩ := ones (ds := ds) fun e he => h e (List.mem_cons_of_mem _ he)
    obtain ⟨c, hc, rfl⟩ := h d List.mem_cons_self
    refine ⟨c :: w, ?_, by simp [h2], fun e he => ?_⟩
    · unfold allStr
      rw [h1]; rfl
    · rcases List.mem_cons.mp he with rfl | he
      · exact hc
      · exact h3 e he
theorem flat_one (w : List Nat) : (w.map fun c => [c]).flatten = w := by
  induction w with
  | nil => rfl
  | cons c w ih => rw [List.map_cons, List.flatten_cons, ih]; rfl
theorem sum_one (w : List Nat) : ((w.map fun c => [c]).map (·.length)).sum = w.length := by
  induction w with
  | nil => rfl
  | cons c w ih => simp at ih ⊢; omega
theorem word_eq {x : List Nat} {lo hi n : Nat} {src : List Int × Int} (h0 : x ≠ []) (hl : x.length ≤ 1000) (hlo : lo ≤ hi) (hhi : hi ≤ 1000) (h : Dr (n + hi + 1) src) : ∃ (w : List Nat) (src' : List Int × Int), (∀ c ∈ w, c ∈ x) ∧ lo ≤ w.length ∧ w.length ≤ hi ∧ Dr n src' ∧
    sem_law_word [.src, .sh (.str x), .sh (.int (lo : Nat)), .sh (.int (hi : Nat))] src = .ok false (.str w) [.src, .sh (.str x), .sh (.int (lo : Nat)), .sh (.int (hi : Nat))] src' := by
  let env : List Sl := [.src, .sh (.str x), .sh (.int (lo : Nat)), .sh (.int (hi : Nat)), .no]
  obtain ⟨k, src1, dd1, dd2, dd3⟩ := draw_step (limit := ((hi - lo + 1 : Nat) : Int)) h (by omega) (by omega)
  have hlim : d2 opAdd (d2 opSub (dVar 3) (dVar 2)) (dC (.int 1)) (⟨env, src⟩ : Py.PS) = .ok (.sh (.int ((hi - lo + 1 : Nat) : Int))) ⟨env, src⟩ := by
    have : d2 opAdd (d2 opSub (dVar 3) (dVar 2)) (dC (.int 1)) (⟨env, src⟩ : Py.PS) = .ok (.sh (.int ((hi : Int) - (lo : Int) + 1))) ⟨env, src⟩ := rfl
    rw [this, show (hi : Int) - (lo : Int) + 1 = ((hi - lo + 1 : Nat) : Int) by omega]
  have hcall : dCall 2 sem_law_draw (dCons (dVar 0) (dCons (d2 opAdd (d2 opSub (dVar 3) (dVar 2)) (dC (.int 1))) dNil)) (⟨env, src⟩ : Py.PS) = .ok (.sh (.int (k : Nat))) ⟨env, src1⟩ :=
    call_src (fresh := false) (back := [.sh (.int ((hi - lo + 1 : Nat) : Int))]) (ds := [.int ((hi - lo + 1 : Nat) : Int)]) (dcons_ok (show dVar 0 (⟨env, src⟩ : Py.PS) = .ok .sr ⟨env, src⟩ from rfl) (dcons_ok hlim rfl)) rfl dd1
  have hk : k ≤ hi - lo := by omega
  have hadd : d2 opAdd (dVar 2) (dCall 2 sem_law_draw (dCons (dVar 0) (dCons (d2 opAdd (d2 opSub (dVar 3) (dVar 2)) (dC (.int 1))) dNil))) (⟨env, src⟩ : Py.PS) = .ok (.sh (.int ((lo + k : Nat) : Int))) ⟨env, src1⟩ := by
    rw [Int.natCast_add]
    exact d2_ok (var_sh (i := 2) rfl) hcall rfl rfl (add_int _ _)
  have hr := rg1_ok hadd rfl (by omega)
  obtain ⟨ds, src2, c1, c2, c3, c4⟩ := comp_draw (own := [4]) (tg := gN 4) (de := dCall 2 sem_law_pick (dCons (dVar 0) (dCons (dVar 1) dNil))) (P := fun d => ∃ c, c ∈ x ∧ d = .str [c]) 1 n hr rfl (by rw [List.length_range]; omega) (dd3.mono (by rw [List.length_range]; omega)) (fun j _ => by
    let e1 : List Sl := [.src, .sh (.str x), .sh (.int (lo : Nat)), .sh (.int (hi : Nat)), .sh (.int (j : Nat))]
    refine ⟨e1, rfl, rfl, fun m s hs => ?_⟩
    obtain ⟨c, s', p1, p2, p3⟩ := pick_str h0 hl hs
    exact ⟨_, _, s', call_src (fresh := false) (back := [.sh (.str x)]) (ds := [.str x]) (dcons_ok (show dVar 0 (⟨e1, s⟩ : Py.PS) = .ok .sr ⟨e1, s⟩ from rfl) (dcons_ok (var_sh (i := 1) rfl) rfl)) rfl p3, rfl, ⟨c, p1, rfl⟩, p2⟩) rfl
  obtain ⟨w, w1, w2, w3⟩ := ones c3
  rw [List.length_range] at c2
  refine ⟨w, src2, w3, by omega, by omega, c4, ?_⟩
  have hj : opJoin (.str []) (.lst ds) = some (.sh (.str w)) := by
    simp only [opJoin, w1]
    rw [if_pos (by rw [sum_one]; simp; omega), join_nil, flat_one]
  have hm : dM1 opJoin (dC (.str [])) (dComp [4] (dRg1 (d2 opAdd (dVar 2) (dCall 2 sem_law_draw (dCons (dVar 0) (dCons (d2 opAdd (d2 opSub (dVar 3) (dVar 2)) (dC (.int 1))) dNil))))) (gN 4) (dC (.bl true)) (dCall 2 sem_law_pick (dCons (dVar 0) (dCons (dVar 1) dNil)))) ⟨env, src⟩ = .ok (.sh (.str w)) ⟨env, src2⟩ := by
    unfold dM1
    show (R.bind (dComp _ _ _ _ _ ⟨env, src⟩) _) = _
    rw [c1, R.bind_ok]
    unfold fin2
    show give (opJoin (.str []) (.lst ds)) _ = _
    rw [hj]; rfl
  unfold sem_law_word semD
  show outFR _ (den_law_word ⟨env, src⟩) = _
  unfold den_law_word
  rw [ret_ok hm]
  rfl
end Pg
set_option maxRecDepth 100000
set_option maxHeartbeats 1000000
namespace Pg
open PySem PySem.Spec PyProof.Rows L2 Py
theorem pick4 {x : List Nat} {env : List Sl} {m : Nat} {s : List Int × Int} (h0 : x ≠ []) (hl : x.length ≤ 1000) (q0 : env[0]? = some .src) (q1 : env[1]? = some (.sh (.str x))) (h : Dr (m + 2) s) : ∃ (a : List Nat) (s' : List Int × Int), (∀ c ∈ a, c ∈ x) ∧ a.length ≤ 1 ∧ Dr m s' ∧
    dCall 2 sem_law_pick (dCons (dVar 0) (dCons (dLst (dCons (dC (.str [])) (dCons (dC (.str [])) (dCons (dC (.str [])) (dCons (dCall 2 sem_law_pick (dCons (dVar 0) (dCons (dVar 1) dNil))) dNil))))) dNil)) (⟨env, s⟩ : Py.PS) = .ok (.sh (.str a)) ⟨env, s'⟩ := by
  have v0 : ∀ s : List Int × Int, dVar 0 (⟨env, s⟩ : Py.PS) = .ok .sr ⟨env, s⟩ := fun s => by unfold dVar; simp only [q0]
  obtain ⟨c, s1, p1, p2, p3⟩ := pick_str (n := m + 1) h0 hl h
  have hin : dCall 2 sem_law_pick (dCons (dVar 0) (dCons (dVar 1) dNil)) (⟨env, s⟩ : Py.PS) = .ok (.sh (.str [c])) ⟨env, s1⟩ := call_src (fresh := false) (back := [.sh (.str x)]) (ds := [.str x]) (dcons_ok (v0 s) (dcons_ok (var_sh (i := 1) q1) rfl)) rfl p3
  let L : List D := [.str [], .str [], .str [], .str [c]]
  have cc : ∀ s : List Int × Int, dC (.str []) (⟨env, s⟩ : Py.PS) = .ok (.sh (.str [])) ⟨env, s⟩ := fun _ => rfl
  have hL : dLst (dCons (dC (.str [])) (dCons (dC (.str [])) (dCons (dC (.str [])) (dCons (dCall 2 sem_law_pick (dCons (dVar 0) (dCons (dVar 1) dNil))) dNil)))) (⟨env, s⟩ : Py.PS) = .ok (.ow (.lst L)) ⟨env, s1⟩ := by
    unfold dLst
    rw [dcons_ok (cc s) (dcons_ok (cc s) (dcons_ok (cc s) (dcons_ok hin (show dNil (⟨env, s1⟩ : Py.PS) = .ok [] ⟨env, s1⟩ from rfl))))]
    rfl
  obtain ⟨d, s2, r1, r2, r3⟩ := pick_lst (ds := L) (n := m) (by simp [L]) (by simp [L]) p2
  have hc := call_src (k := 2) (sem := sem_law_pick) (fresh := false) (back := [.sh (.lst L)]) (ds := [.lst L]) (dcons_ok (v0 s) (dcons_ok hL (show dNil (⟨env, s1⟩ : Py.PS) = .ok [] ⟨env, s1⟩ from rfl))) rfl r3
  have hd : d = .str [] ∨ d = .str [c] := by
    simp [L] at r1
    exact r1
  rcases hd with rfl | rfl
  · exact ⟨[], s2, (fun c h => by cases h), by simp, r2, hc⟩
  · exact ⟨[c], s2, (fun e he => by rw [List.mem_singleton.mp he]; exact p1), by simp, r2, hc⟩
theorem dTup_ok {da : DnL} {p p1 : Py.PS} {vs : List Rv} {ds : List D} (h : da p = .ok vs p1) (hr : reps vs = some ds) (hl : ds.length ≤ 16777216) : dTup da p = .ok (.sh (.tup ds)) p1 := by
  unfold dTup
  rw [h, R.bind_ok]
  unfold finR
  simp only [hr]
  unfold mkTup
  rw [if_pos hl]
  rfl
theorem fix_eq {x : List Nat} {n : Nat} {src : List Int × Int} (h0 : x ≠ []) (hl : x.length ≤ 1000) (h : Dr (n + 12) src) : ∃ (f : Fx) (src' : List Int × Int), ((∀ c ∈ f.a, c ∈ x) ∧ f.a.length ≤ 1) ∧ ((∀ c ∈ f.o, c ∈ x) ∧ 1 ≤ f.o.length ∧ f.o.length ≤ 3) ∧ ((∀ c ∈ f.n, c ∈ x) ∧ f.n.length ≤ 3) ∧ ((∀ c ∈ f.b, c ∈ x) ∧ f.b.length ≤ 1) ∧ Dr n src' ∧
    sem_law_fix [.src, .sh (.str x)] src = .ok false (fxD f) [.src, .sh (.str x)] src' := by
  let e0 : List Sl := [.src, .sh (.str x), .no, .no]
  obtain ⟨a, s1, a1, a2, a3, a4⟩ := pick4 (env := e0) (m := n + 10) h0 hl rfl rfl h
  let e1 : List Sl := [.src, .sh (.str x), .sh (.str a), .no]
  obtain ⟨b, s2, b1, b2, b3, b4⟩ := pick4 (env := e1) (m := n + 8) h0 hl rfl rfl a3
  let e2 : List Sl := [.src, .sh (.str x), .sh (.str a), .sh (.str b)]
  obtain ⟨o, s3, o1, o2, o3, o4, o5⟩ := word_eq (lo := 1) (hi := 3) (n := n + 4) h0 hl (by omega) (by omega) b3
  obtain ⟨w, s4, w1, w2, w3, w4, w5⟩ := word_eq (lo := 0) (hi := 3) (n := n) h0 hl (by omega) (by omega) o4
  have S1 := asg_ok (i := 2) a4
  have S2 := asg_ok (i := 3) b4
  have v0 : ∀ s : List Int × Int, dVar 0 (⟨e2, s⟩ : Py.PS) = .ok .sr ⟨e2, s⟩ := fun _ => rfl
  have v1 : ∀ s : List Int × Int, dVar 1 (⟨e2, s⟩ : Py.PS) = .ok (.sh (.str x)) ⟨e2, s⟩ := fun _ => rfl
  have ci : ∀ (i : Int) (s : List Int × Int), dC (.int i) (⟨e2, s⟩ : Py.PS) = .ok (.sh (.int i)) ⟨e2, s⟩ := fun _ _ => rfl
  have nl : ∀ s : List Int × Int, dNil (⟨e2, s⟩ : Py.PS) = .ok [] ⟨e2, s⟩ := fun _ => rfl
  have co := call_src (k := 4) (sem := sem_law_word) (fresh := false) (back := [.sh (.str x), .sh (.int 1), .sh (.int 3)]) (ds := [.str x, .int 1, .int 3]) (dcons_ok (v0 s2) (dcons_ok (v1 s2) (dcons_ok (ci 1 s2) (dcons_ok (ci 3 s2) (nl s2))))) rfl o5
  have cw := call_src (k := 4) (sem := sem_law_word) (fresh := false) (back := [.sh (.str x), .sh (.int 0), .sh (.int 3)]) (ds := [.str x, .int 0, .int 3]) (dcons_ok (v0 s3) (dcons_ok (v1 s3) (dcons_ok (ci 0 s3) (dcons_ok (ci 3 s3) (nl s3))))) rfl w5
  have ht := dcons_ok (show dVar 2 (⟨e2, s2⟩ : Py.PS) = .ok (.sh (.str a)) ⟨e2, s2⟩ from rfl) (dcons_ok co (dcons_ok cw (dcons_ok (show dVar 3 (⟨e2, s4⟩ : Py.PS) = .ok (.sh (.str b)) ⟨e2, s4⟩ from rfl) (nl s4))))
  refine ⟨⟨a, o, w, b⟩, s4, ⟨a1, a2⟩, ⟨o1, o2, o3⟩, ⟨w1, w3⟩, ⟨b1, b2⟩, w4, ?_⟩
  unfold sem_law_fix semD
  show outFR _ (den_law_fix ⟨e0, src⟩) = _
  unfold den_law_fix
  rw [seq_nx (S1.trans (show asgn 2 (.sh (.str a)) ⟨e0, s1⟩ = .nx ⟨e1, s1⟩ from rfl)), seq_nx (S2.trans (show asgn 3 (.sh (.str b)) ⟨e1, s2⟩ = .nx ⟨e2, s2⟩ from rfl))]
  have hT := dTup_ok ht (show reps _ = some [.str a, .str o, .str w, .str b] from rfl) (show 4 ≤ 16777216 by omega)
  rw [ret_ok hT]
  rfl
end Pg
set_option maxRecDepth 100000
set_option maxHeartbeats 1000000
namespace Pg
open PySem PySem.Spec PyProof.Rows L2 Py
structure FxA (x : List Nat) (f : Fx) : Prop where
  a : (∀ c ∈ f.a, c ∈ x) ∧ f.a.length ≤ 1
  o : (∀ c ∈ f.o, c ∈ x) ∧ 1 ≤ f.o.length ∧ f.o.length ≤ 3
  n : (∀ c ∈ f.n, c ∈ x) ∧ f.n.length ≤ 3
  b : (∀ c ∈ f.b, c ∈ x) ∧ f.b.length ≤ 1
theorem fixes {x : List Nat} : ∀ {ds : List D}, (∀ d ∈ ds, ∃ f, FxA x f ∧ d = fxD f) → ∃ b : List Fx, ds = b.map fxD ∧ ∀ f ∈ b, FxA x f
  | [], _ => ⟨[], rfl, fun f h => by cases h⟩
  | d :: ds, h => by
    obtain ⟨b, h1, h2⟩ := fixes (ds := ds) fun e he => h e (List.mem_cons_of_mem _ he)
    obtain ⟨f, hf, rfl⟩ := h d List.mem_cons_self
    refine ⟨f :: b, by rw [List.map_cons, h1], fun g hg => ?_⟩
    rcases List.mem_cons.mp hg with rfl | hg
    · exact hf
    · exact h2 g hg
theorem book_eq {x : List Nat} {most n : Nat} {src : List Int × Int} (h0 : x ≠ []) (hl : x.length ≤ 1000) (hm : most ≤ 1000) (h : Dr (n + most * 12 + 1) src) : ∃ (b : List Fx) (src' : List Int × Int), (∀ f ∈ b, FxA x f) ∧ b.length ≤ most ∧ Dr n src' ∧
    sem_law_book [.src, .sh (.str x), .sh (.int (most : Nat))] src = .ok false (bkD b) [.src, .sh (.str x), .sh (.int (most : Nat))] src' := by
  let env : List Sl := [.src, .sh (.str x), .sh (.int (most : Nat)), .no]
  obtain ⟨k, src1, dd1, dd2, dd3⟩ := draw_step (limit := ((most + 1 : Nat) : Int)) h (by omega) (by omega)
  have v0 : ∀ s : List Int × Int, dVar 0 (⟨env, s⟩ : Py.PS) = .ok .sr ⟨env, s⟩ := fun _ => rfl
  have hlim : d2 opAdd (dVar 2) (dC (.int 1)) (⟨env, src⟩ : Py.PS) = .ok (.sh (.int ((most + 1 : Nat) : Int))) ⟨env, src⟩ := rfl
  have hcall := call_src (k := 2) (sem := sem_law_draw) (fresh := false) (back := [.sh (.int ((most + 1 : Nat) : Int))]) (ds := [.int ((most + 1 : Nat) : Int)]) (dcons_ok (v0 src) (dcons_ok hlim (show dNil (⟨env, src⟩ : Py.PS) = .ok [] ⟨env, src⟩ from rfl))) rfl dd1
  have hr := rg1_ok (n := k) hcall rfl (by omega)
  obtain ⟨ds, src2, c1, c2, c3, c4⟩ := comp_draw (own := [3]) (tg := gN 3) (de := dCall 2 sem_law_fix (dCons (dVar 0) (dCons (dVar 1) dNil))) (P := fun d => ∃ f, FxA x f ∧ d = fxD f) 12 n hr rfl (by rw [List.length_range]; omega) (dd3.mono (by rw [List.length_range]; omega)) (fun j _ => by
    let e1 : List Sl := [.src, .sh (.str x), .sh (.int (most : Nat)), .sh (.int (j : Nat))]
    refine ⟨e1, rfl, rfl, fun m s hs => ?_⟩
    obtain ⟨f, s', p1, p2, p3, p4, p5, p6⟩ := fix_eq h0 hl hs
    exact ⟨_, _, s', call_src (fresh := false) (back := [.sh (.str x)]) (ds := [.str x]) (dcons_ok (show dVar 0 (⟨e1, s⟩ : Py.PS) = .ok .sr ⟨e1, s⟩ from rfl) (dcons_ok (var_sh (i := 1) rfl) rfl)) rfl p6, rfl, ⟨f, ⟨p1, p2, p3, p4⟩, rfl⟩, p5⟩) rfl
  obtain ⟨b, rfl, hb⟩ := fixes c3
  rw [List.length_map, List.length_range] at c2
  refine ⟨b, src2, hb, by omega, c4, ?_⟩
  have ht := dN1_ok (f := opTuple) c1 rfl (show opTuple [.lst (b.map fxD)] = some (.sh (bkD b)) from rfl)
  unfold sem_law_book semD
  show outFR _ (den_law_book ⟨env, src⟩) = _
  unfold den_law_book
  rw [ret_ok ht]
  rfl
end Pg
set_option maxRecDepth 100000
set_option maxHeartbeats 1000000
namespace Pg
open PySem PySem.Spec PyProof.Rows L2 Py
theorem forL_ex {α : Type} {tg : Tgd} {body : SDn} {enc : α → D} (I : Nat → Py.PS → Prop) (PA : α → Prop) (h : ∀ n x p, PA x → I (n + 1) p → ∃ env' p', tg (enc x) p.env = some env' ∧ body ⟨env', p.src⟩ = .nx p' ∧ I n p') : ∀ (xs : List α) (p : Py.PS), (∀ x ∈ xs, PA x) → I xs.length p → ∃ p', forL tg body (xs.map enc) p = .nx p' ∧ I 0 p'
  | [], p, _, hi => ⟨p, rfl, hi⟩
  | x :: xs, p, ha, hi => by
    obtain ⟨env', p1, h1, h2, h3⟩ := h xs.length x p (ha x List.mem_cons_self) hi
    obtain ⟨p2, k1, k2⟩ := forL_ex I PA h xs p1 (fun y hy => ha y (List.mem_cons_of_mem _ hy)) h3
    refine ⟨p2, ?_, k2⟩
    rw [List.map_cons]
    unfold forL
    simp only [h1, h2]
    exact k1
end Pg
set_option maxRecDepth 100000
set_option maxHeartbeats 1000000
namespace Pg
open PySem PySem.Spec PyProof.Rows L2 Py
/-! ### the law's own loops -/
def FS (s : Sl) : Prop := s = .no ∨ ∃ d, s = .sh d
theorem FS.set {s : Sl} {env : List Sl} {i : Nat} {v : Sl} (f : FS s) (h : env[i]? = some s) : setSl i v env = some (env.set i v) := by
  unfold setSl
  rcases f with rfl | ⟨d, rfl⟩ <;> simp only [h]
theorem FS.asgn {s : Sl} {env : List Sl} {src : List Int × Int} {i : Nat} {d : D} (f : FS s) (h : env[i]? = some s) : Py.asgn i (.sh d) ⟨env, src⟩ = .nx ⟨env.set i (.sh d), src⟩ := by
  unfold Py.asgn
  simp only [f.set h]
theorem fs_sh (d : D) : FS (.sh d) := .inr ⟨d, rfl⟩
/-- the text of letters to be drawn from -/
def Al (x : List Nat) : Prop := x = [97, 98] ∨ x = [97, 98, 99] ∨ x = [97, 98, 99, 100]
theorem Al.ab {x : List Nat} (h : Al x) : ∀ c ∈ x, c = 97 ∨ c = 98 ∨ c = 99 ∨ c = 100 := by
  rcases h with rfl | rfl | rfl <;> intro c hc <;> simp at hc <;> omega
theorem Al.len {x : List Nat} (h : Al x) : x ≠ [] ∧ x.length ≤ 4 := by
  rcases h with rfl | rfl | rfl <;> simp
theorem FxA.bk {x : List Nat} {b : List Fx} (hx : Al x) (h : ∀ f ∈ b, FxA x f) (hl : b.length ≤ 5) : BkA b where
  a := fun f hf => ⟨fun c hc => hx.ab c ((h f hf).a.1 c hc), (h f hf).a.2⟩
  o := fun f hf => ⟨fun c hc => hx.ab c ((h f hf).o.1 c hc), (h f hf).o.2⟩
  n := fun f hf => ⟨fun c hc => hx.ab c ((h f hf).n.1 c hc), (h f hf).n.2⟩
  fb := fun f hf => ⟨fun c hc => hx.ab c ((h f hf).b.1 c hc), (h f hf).b.2⟩
  l := hl
theorem rg_c {n : Nat} (h : n ≤ 16777216) (p : Py.PS) : dRg1 (dC (.int (n : Nat))) p = .ok ⟨none, (List.range n).map fun i => .int (i : Nat)⟩ p := rg1_ok (v := .sh (.int (n : Nat))) rfl rfl h
end Pg
set_option maxRecDepth 100000
set_option maxHeartbeats 400000
namespace Pg
open PySem PySem.Spec PyProof.Rows L2 Py
/-! ### own objects, handed on -/
theorem fldO {c i j : Nat} {ds : List D} {d : D} {l z : Bool} {env : List Sl} {src : List Int × Int} (h : env[i]? = some (.own l z (.obj c ds))) (hd : ds[j]? = some d) : d1 (opFld c j) (dVar i) ⟨env, src⟩ = .ok (.sh d) ⟨env, src⟩ := by
  have hv : dVar i (⟨env, src⟩ : Py.PS) = .ok (.bo i) ⟨env, src⟩ := by unfold dVar; simp only [h]
  refine d1_ok hv (a := .obj c ds) ?_ ?_
  · show (match env[i]? with | some (.own _ _ d) => some d | _ => none) = _
    rw [h]
  · show (if c = c then ds[j]?.map Rv.sh else none) = _
    rw [if_pos rfl, hd]; rfl
theorem dcons_ok' {da : Dn} {dr : DnL} {p p1 p2 : Py.PS} {x y : Rv} {xs : List Rv} (ha : da p = .ok x p1) (hr : dr p1 = .ok xs p2) (hy : x.soft = y) : dCons da dr p = .ok (y :: xs) p2 := by
  rw [← hy]; exact dcons_ok ha hr
theorem own_args {i k : Nat} {sem : List Sl → List Int × Int → FR} {env : List Sl} {src : List Int × Int} {as : List D} {d : D} {l : Bool} (he : env[i]? = some (.own l false d)) (hk : as.length + 1 = k) :
    finC k sem (.bo i :: as.map .sh) ⟨env, src⟩ = finS (sem (.own true false d :: as.map .sh) src) (.bo i :: as.map .sh) ⟨env, src⟩ := by
  unfold finC
  rw [if_pos ⟨by show (i :: lentI (as.map Rv.sh)).Nodup; rw [lentI_sh]; simp, by simp [hk]⟩]
  have e : argSls (⟨env, src⟩ : Py.PS) (.bo i :: as.map Rv.sh) = some (.own true false d :: as.map Sl.sh) := by
    show (match argSl _ (.bo i), argSls _ (as.map Rv.sh) with | some a, some as => some (a :: as) | _, _ => none) = _
    rw [argSls_sh]
    show (match (match env[i]? with | some (.own _ false d) => some (Sl.own true false d) | _ => none), some (as.map Sl.sh) with | some a, some as => some (a :: as) | _, _ => none) = _
    rw [he]
  rw [e]
theorem back_own {i : Nat} {env back : List Sl} {as : List D} {d d2 : D} {l l2 z2 : Bool} (he : env[i]? = some (.own l false d)) : putBack env (.bo i :: as.map Rv.sh) (.own l2 z2 d2 :: back) = env.set i (.own l false d2) := by
  show (match env[i]? with
    | some (.own l z _) => putBack (env.set i (.own l z d2)) (as.map Rv.sh) back
    | _ => putBack env (as.map Rv.sh) back) = _
  rw [he]
  exact putBack_sh _ _ _
theorem own_ok {i k : Nat} {sem : List Sl → List Int × Int → FR} {env back : List Sl} {src src' : List Int × Int} {as : List D} {d d2 e : D} {l fresh : Bool} (he : env[i]? = some (.own l false d)) (hk : as.length + 1 = k) (hs : sem (.own true false d :: as.map .sh) src = .ok fresh e (.own true false d2 :: back) src') :
    finC k sem (.bo i :: as.map .sh) ⟨env, src⟩ = .ok (if fresh then .ow e else .sh e) ⟨env.set i (.own l false d2), src'⟩ := by
  rw [own_args he hk, hs]
  show R.ok _ (⟨putBack env _ _, src'⟩ : Py.PS) = _
  rw [back_own he]
theorem own_exc {i k c : Nat} {sem : List Sl → List Int × Int → FR} {env back : List Sl} {src src' : List Int × Int} {as : List D} {d d2 : D} {l : Bool} (he : env[i]? = some (.own l false d)) (hk : as.length + 1 = k) (hs : sem (.own true false d :: as.map .sh) src = .exc c (.own true false d2 :: back) src') :
    finC k sem (.bo i :: as.map .sh) ⟨env, src⟩ = .exc c ⟨env.set i (.own l false d2), src'⟩ := by
  rw [own_args he hk, hs]
  show R.exc _ (⟨putBack env _ _, src'⟩ : Py.PS) = _
  rw [back_own he]
theorem meth_go {c i k : Nat} {sem : List Sl → List Int × Int → FR} {da : DnL} {env : List Sl} {src : List Int × Int} {as : List D} {ds : List D} {l : Bool} (he : env[i]? = some (.own l false (.obj c ds))) (hda : da ⟨env, src⟩ = .ok (as.map .sh) ⟨env, src⟩) : dMeth c i k sem da ⟨env, src⟩ = finC k sem (.bo i :: as.map .sh) ⟨env, src⟩ := by
  unfold dMeth
  show (match env[i]? with
    | some (.own _ _ (.obj c' _)) => if c' = c then (da ⟨env, src⟩).bind fun xs p2 => finC k sem (.bo i :: xs) p2 else .bad
    | _ => .bad) = _
  rw [he]
  show (if c = c then _ else _) = _
  rw [if_pos rfl, hda, R.bind_ok]
theorem prop_go {c i k : Nat} {sem : List Sl → List Int × Int → FR} {env : List Sl} {src : List Int × Int} {ds : List D} {l : Bool} {v : Rv} {p2 : Py.PS} (he : env[i]? = some (.own l false (.obj c ds))) (h : finC k sem [.bo i] ⟨env, src⟩ = .ok v p2) : dProp c i k sem ⟨env, src⟩ = .ok v p2 := by
  unfold dProp
  show (match env[i]? with
    | some (.own _ _ (.obj c' _)) => if c' = c then (match finC k sem [.bo i] ⟨env, src⟩ with
      | .ok v p2 => R.ok v p2
      | _ => R.bad) else R.bad
    | _ => R.bad) = _
  rw [he]
  show (if c = c then _ else _) = _
  rw [if_pos rfl, h]
theorem len_go {c i k : Nat} {sem : List Sl → List Int × Int → FR} {env : List Sl} {src : List Int × Int} {ds : List D} {l : Bool} {n : Int} {p2 : Py.PS} (he : env[i]? = some (.own l false (.obj c ds))) (h : finC k sem [.bo i] ⟨env, src⟩ = .ok (.sh (.int n)) p2) (hn : 0 ≤ n ∧ n < 1000000000) : dLenO c i k sem ⟨env, src⟩ = .ok (.sh (.int n)) p2 := by
  unfold dLenO
  show (match env[i]? with
    | some (.own _ _ (.obj c' _)) => if c' = c then (match finC k sem [.bo i] ⟨env, src⟩ with
      | .ok (.sh (.int n)) p2 => if 0 ≤ n ∧ n < 1000000000 then R.ok (Rv.sh (.int n)) p2 else R.bad
      | _ => R.bad) else R.bad
    | _ => R.bad) = _
  rw [he]
  show (if c = c then _ else _) = _
  rw [if_pos rfl, h]
  show (if 0 ≤ n ∧ n < 1000000000 then _ else _) = _
  rw [if_pos hn]
theorem seq_exc {a b : SDn} {p p1 : Py.PS} {c : Nat} (h : a p = .exc c p1) : sSeq a b p = .exc c p1 := by unfold sSeq; rw [h]; rfl
theorem exp_exc {da : Dn} {p p1 : Py.PS} {c : Nat} (h : da p = .exc c p1) : sExp da p = .exc c p1 := by unfold sExp; rw [h]; rfl
theorem asg_exc {i : Nat} {da : Dn} {p p1 : Py.PS} {c : Nat} (h : da p = .exc c p1) : sAsg i da p = .exc c p1 := by unfold sAsg; rw [h]; rfl
theorem try_nx {er : Nat → Bool} {c i j : Nat} {b : SDn} {p p1 : Py.PS} (h : b p = .nx p1) : sTry er c i j b p = .nx p1 := by unfold sTry; rw [h]
theorem try_exc {er : Nat → Bool} {c i j k : Nat} {b : SDn} {p p1 : Py.PS} {env' : List Sl} (h : b p = .exc k p1) (he : er k = true) (hs : subN k c = true) (h1 : p1.env[i]? = some .no) (h2 : setSl j (.sh (.err k)) p1.env = some env') (hk : k < 100 := by decide) : sTry er c i j b p = .nx ⟨env', p1.src⟩ := by
  unfold sTry
  simp only [h]
  rw [bc_lt hk, if_pos (by rw [he, decide_eq_true hk]; rfl), if_pos hs]
  simp only [h1, h2]
theorem lst_ok {da : DnL} {p p1 : Py.PS} {vs : List Rv} {ds : List D} (h : da p = .ok vs p1) (hr : reps vs = some ds) (hl : ds.length ≤ 16777216) : dLst da p = .ok (.ow (.lst ds)) p1 := by
  unfold dLst
  rw [h, R.bind_ok]
  unfold finR
  simp only [hr]
  unfold mkLst
  rw [if_pos hl]
  rfl
theorem star_ok {de : Dn} {dr : DnL} {p p1 p2 : Py.PS} {v : Rv} {ds : List D} {xs : List Rv} (h : de p = .ok v p1) (hv : v.soft = .sh (.tup ds)) (hr : dr p1 = .ok xs p2) : dStar de dr p = .ok (ds.map .sh ++ xs) p2 := by
  unfold dStar
  rw [h, R.bind_ok]
  simp only [hv, hr]
  rfl
theorem reps_sh : ∀ (ds : List D), reps (ds.map .sh) = some ds
  | [] => rfl
  | d :: ds => by
    show (reps (ds.map .sh)).map (d :: ·) = _
    rw [reps_sh ds]; rfl
theorem fld_set {i c k : Nat} {de : Dn} {env : List Sl} {src : List Int × Int} {l : Bool} {ds : List D} {v : Rv} {d : D} (he : env[i]? = some (.own l false (.obj c ds))) (hd : de ⟨env, src⟩ = .ok v ⟨env, src⟩) (hv : v.soft = .sh d) (hk : k < ds.length) (hl : ds.length ≤ (flds c).length) : sFldP i c k de ⟨env, src⟩ = .nx ⟨env.set i (.own l false (.obj c (ds.set k d))), src⟩ := by
  unfold sFldP
  rw [hd, onR_ok]
  unfold fldS
  simp only [hv]
  show (match env[i]? with
    | some (.own l false (.obj c' ds)) => if c' = c ∧ k ≤ ds.length ∧ ds.length ≤ (flds c).length then Out.nx ⟨env.set i (.own l false (.obj c (putD k d ds))), src⟩ else .bad
    | _ => .bad) = _
  rw [he]
  show (if c = c ∧ k ≤ ds.length ∧ ds.length ≤ (flds c).length then _ else _) = _
  rw [if_pos ⟨rfl, by omega, hl⟩]
  unfold putD
  rw [if_pos hk]
theorem chain_le {da db dc : Dn} {p : Py.PS} {i j k : Int} (ha : da p = .ok (.sh (.int i)) p) (hb : db p = .ok (.sh (.int j)) p) (hc : dc p = .ok (.sh (.int k)) p) : dChain opLe opLe da db dc p = .ok (.sh (.bl (decide (i ≤ j) && decide (j ≤ k)))) p := by
  unfold dChain
  rw [ha, R.bind_ok, hb, R.bind_ok]
  show (R.ok (Rv.sh (.bl (decide (i ≤ j)))) p).bind _ = _
  rw [R.bind_ok]
  by_cases h : i ≤ j
  · rw [decide_eq_true h, Bool.true_and]
    show (dc p).bind _ = _
    rw [hc, R.bind_ok]
    rfl
  · rw [decide_eq_false h, Bool.false_and]
    rfl
theorem chain3_le {da db dc dd : Dn} {p : Py.PS} {i j k m : Int} (ha : da p = .ok (.sh (.int i)) p) (hb : db p = .ok (.sh (.int j)) p) (hc : dc p = .ok (.sh (.int k)) p) (hd : dd p = .ok (.sh (.int m)) p) : dChain3 opLe opLe opLe da db dc dd p = .ok (.sh (.bl (decide (i ≤ j) && (decide (j ≤ k) && decide (k ≤ m))))) p := by
  unfold dChain3
  rw [ha, R.bind_ok, hb, R.bind_ok]
  show (R.ok (Rv.sh (.bl (decide (i ≤ j)))) p).bind _ = _
  rw [R.bind_ok]
  by_cases h : i ≤ j
  · rw [decide_eq_true h, Bool.true_and]
    show (dc p).bind _ = _
    rw [hc, R.bind_ok]
    show (R.ok (Rv.sh (.bl (decide (j ≤ k)))) p).bind _ = _
    rw [R.bind_ok]
    by_cases h2 : j ≤ k
    · rw [decide_eq_true h2, Bool.true_and]
      show (dd p).bind _ = _
      rw [hd, R.bind_ok]
      rfl
    · rw [decide_eq_false h2, Bool.false_and]
      rfl
  · rw [decide_eq_false h, Bool.false_and]
    rfl
end Pg
set_option maxRecDepth 100000
set_option maxHeartbeats 2000000
namespace K38
open PySem PySem.Spec PyProof.Rows L2 Py Pg
def ordN : List Nat := [1, 2, 3, 4, 5, 7, 8, 9, 10, 11, 12, 6, 13]
def kindsL (b : Nat) : List D := ordN.map fun n => .bl (subN b n)
theorem ise {c n : Nat} {env : List Sl} {src : List Int × Int} {i : Nat} (hc : er (bc c) = true) (hn : er n = true) (h : env[i]? = some (.sh (.err c))) : d1 (opIsE er n) (dVar i) ⟨env, src⟩ = .ok (.sh (.bl (subN (bc c) n))) ⟨env, src⟩ := by
  refine d1_ok (f := opIsE er n) (var_sh (i := i) h) rfl ?_
  show (if er (bc c) = true ∧ er n = true then some (Rv.sh (.bl (subN (bc c) n))) else none) = _
  rw [if_pos ⟨hc, hn⟩]
theorem kinds_eq {c : Nat} {src : List Int × Int} (hc : er (bc c) = true) : sem_law_kinds [.sh (.err c)] src = .ok true (.lst (kindsL (bc c))) [.sh (.err c)] src := by
  let E (l : List Nat) : List Sl := [.sh (.err c), .own false false (.lst (l.map fun n => .bl (subN (bc c) n)))]
  have is0 : ∀ n, er n = true → ∀ (s : Sl), d1 (opIsE er n) (dVar 0) (⟨[.sh (.err c), s], src⟩ : Py.PS) = .ok (.sh (.bl (subN (bc c) n))) ⟨[.sh (.err c), s], src⟩ := fun n hn s => ise hc hn rfl
  have S0 : sAsg 1 (dLst (dCons (d1 (opIsE er 1) (dVar 0)) (dCons (d1 (opIsE er 2) (dVar 0)) (dCons (d1 (opIsE er 3) (dVar 0)) (dNil))))) ⟨[.sh (.err c), .no], src⟩ = .nx ⟨E [1, 2, 3], src⟩ :=
    (asg_ok (i := 1) (lst_ok (dcons_ok (is0 1 rfl _) (dcons_ok (is0 2 rfl _) (dcons_ok (is0 3 rfl _) (show dNil _ = .ok [] _ from rfl)))) rfl (by show 3 ≤ _; omega))).trans rfl
  have two : ∀ (l : List Nat) (a b : Nat), l.length ≤ 20 → er a = true → er b = true → sAsg 1 (d2 opAdd (dVar 1) (dLst (dCons (d1 (opIsE er a) (dVar 0)) (dCons (d1 (opIsE er b) (dVar 0)) (dNil))))) ⟨E l, src⟩ = .nx ⟨E (l ++ [a, b]), src⟩ := fun l a b hl ha hb => by
    have h := d2_ok (f := opAdd) (da := dVar 1) (p := ⟨E l, src⟩) (x := .bo 1) (a := .lst (l.map fun n => .bl (subN (bc c) n))) rfl (lst_ok (dcons_ok (is0 a ha _) (dcons_ok (is0 b hb _) (show dNil _ = .ok [] _ from rfl))) rfl (by show 2 ≤ _; omega)) rfl rfl (add_lst (by simp; omega))
    refine (asg_ok (i := 1) h).trans ?_
    show Out.nx (⟨[.sh (.err c), .own false false (.lst (l.map (fun n => D.bl (subN (bc c) n)) ++ [D.bl (subN (bc c) a), D.bl (subN (bc c) b)]))], src⟩ : Py.PS) = _
    have e : l.map (fun n => D.bl (subN (bc c) n)) ++ [D.bl (subN (bc c) a), D.bl (subN (bc c) b)] = (l ++ [a, b]).map fun n => D.bl (subN (bc c) n) := by rw [List.map_append]; rfl
    rw [e]
  unfold sem_law_kinds semD
  show outFR _ (den_law_kinds ⟨[.sh (.err c), .no], src⟩) = _
  unfold den_law_kinds
  rw [seq_nx S0, seq_nx (two [1, 2, 3] 4 5 (by decide) rfl rfl), seq_nx (two _ 7 8 (by decide) rfl rfl), seq_nx (two _ 9 10 (by decide) rfl rfl), seq_nx (two _ 11 12 (by decide) rfl rfl), seq_nx (two _ 6 13 (by decide) rfl rfl)]
  rfl
abbrev eQ (a b c d e f g h i : Sl) : List Sl := [.no, .src, a, b, c, d, e, f, g, h, i]
theorem ord_eq : ∀ k < 13, ordN.map (subN (ordN.getD k 0)) = (List.range 13).map (· == k) := by decide
noncomputable def inner : SDn := sSeq (sIf (d2 opNe (dCall 1 sem_law_kinds (dCons (d2 opIx (dVar 8) (dVar 9)) (dNil))) (dComp [10] (dRg1 (dN opLen (dCons (dVar 8) (dNil)))) (gN 10) (dC (.bl true)) (d2 opEq (dVar 10) (dVar 9)))) (sRet (dC (.bl false))) (sNil)) (sIf (dOr (dNot (d1 (opIsE er 0) (d2 opIx (dVar 8) (dVar 9)))) (dNot (d1 (opIsV er) (d2 opIx (dVar 8) (dVar 9))))) (sRet (dC (.bl false))) (sNil))
def Cs (cs : List Nat) : Prop := cs.map bc = ordN
theorem er_ord : ∀ n ∈ ordN, er n = true := by decide
theorem inner_ok {a b c d e f : Sl} {src : List Int × Int} {cs : List Nat} {k : Nat} (h : Cs cs) (hk : k < 13) : inner ⟨eQ a b c d e f (.sh (.lst (cs.map .err))) (.sh (.int (k : Nat))) .no, src⟩ = .nx ⟨eQ a b c d e f (.sh (.lst (cs.map .err))) (.sh (.int (k : Nat))) .no, src⟩ := by
  let E (i : Sl) : List Sl := eQ a b c d e f (.sh (.lst (cs.map .err))) (.sh (.int (k : Nat))) i
  let p : Py.PS := ⟨E .no, src⟩
  have hl : cs.length = 13 := by have := congrArg List.length h; rw [List.length_map] at this; exact this
  have hkl : k < cs.length := by omega
  have hbc : bc cs[k] = ordN.getD k 0 := by
    have h2 : (cs.map bc)[k]? = ordN[k]? := by rw [h]
    rw [List.getElem?_map, List.getElem?_eq_getElem hkl] at h2
    rw [List.getD_eq_getElem?_getD, ← h2]; rfl
  have hen : er (bc cs[k]) = true := er_ord _ (by rw [← h]; exact List.mem_map.mpr ⟨_, List.getElem_mem hkl, rfl⟩)
  have hix : d2 opIx (dVar 8) (dVar 9) p = .ok (.sh (.err cs[k])) p := by
    refine d2_ok (f := opIx) (var_sh (i := 8) rfl) (var_sh (i := 9) rfl) rfl rfl ?_
    show (atI (cs.map D.err) (k : Int)).map Rv.sh = _
    rw [atI_nat _ _ (by rw [List.length_map]; exact hkl), List.getElem_map]; rfl
  have hkd := call1 (k := 1) (fresh := true) (p := p) hix rfl rfl (kinds_eq (src := src) hen)
  have hlen : dN opLen (dCons (dVar 8) (dNil)) p = .ok (.sh (.int (13 : Nat))) p := dN1_ok (f := opLen) (var_sh (i := 8) rfl) rfl (show some (Rv.sh (.int ((cs.map D.err).length : Nat))) = _ by rw [List.length_map, hl])
  have hcm : dComp [10] (dRg1 (dN opLen (dCons (dVar 8) (dNil)))) (gN 10) (dC (.bl true)) (d2 opEq (dVar 10) (dVar 9)) p = .ok (.ow (.lst ((List.range 13).map fun j => .bl (j == k)))) p :=
    comp_map (enc := fun j : Nat => D.int (j : Nat)) (rg1_ok (n := 13) hlen rfl (by omega)) rfl (by decide) (fun j _ => by
      refine ⟨E (.sh (.int (j : Nat))), rfl, rfl, .sh (.bl (j == k)), ?_, rfl⟩
      refine d2_ok (f := opEq) (var_sh (i := 10) rfl) (var_sh (i := 9) rfl) rfl rfl ?_
      show some (Rv.sh (.bl (((j : Nat) : Int) == ((k : Nat) : Int)))) = _
      congr 3
      rw [Bool.eq_iff_iff, beq_iff_eq, beq_iff_eq]; omega) rfl
  have heq : kindsL (bc cs[k]) = (List.range 13).map fun j => .bl (j == k) := by
    have := congrArg (List.map D.bl) (ord_eq k hk)
    rw [List.map_map, List.map_map, ← hbc] at this
    exact this
  rw [← heq] at hcm
  have okl : okq (.lst (kindsL (bc cs[k]))) = true := by
    show (kindsL (bc cs[k])).all (okD 19) = true
    unfold kindsL
    rw [List.all_map, List.all_eq_true]
    intro n _; rfl
  have t1 := d2_ok (f := opNe) hkd hcm rfl rfl (ne_same okl)
  have i1 : d1 (opIsE er 0) (d2 opIx (dVar 8) (dVar 9)) p = .ok (.sh (.bl true)) p := by
    refine d1_ok (f := opIsE er 0) hix rfl ?_
    show (if er (bc cs[k]) = true ∧ er 0 = true then some (Rv.sh (.bl (subN (bc cs[k]) 0))) else none) = _
    rw [if_pos ⟨hen, rfl⟩]
    unfold subN
    simp
  have i2 : d1 (opIsV er) (d2 opIx (dVar 8) (dVar 9)) p = .ok (.sh (.bl true)) p := by
    refine d1_ok (f := opIsV er) hix rfl ?_
    show (if er (bc cs[k]) = true then some (Rv.sh (.bl true)) else none) = _
    rw [if_pos hen]
  unfold inner
  exact (seq_nx (if_skip t1)).trans (if_skip ((or_f (not_b i1)).trans (not_b i2)))
noncomputable def mid : SDn := sFor (dRg1 (dN opLen (dCons (dVar 8) (dNil)))) (gN 9) inner
theorem mid_ok {a b c d e f h : Sl} {src : List Int × Int} {cs : List Nat} (hc : Cs cs) (fh : FS h) : ∃ h', FS h' ∧ mid ⟨eQ a b c d e f (.sh (.lst (cs.map .err))) h .no, src⟩ = .nx ⟨eQ a b c d e f (.sh (.lst (cs.map .err))) h' .no, src⟩ := by
  have hl : cs.length = 13 := by have := congrArg List.length hc; rw [List.length_map] at this; exact this
  let p : Py.PS := ⟨eQ a b c d e f (.sh (.lst (cs.map .err))) h .no, src⟩
  have hlen : dN opLen (dCons (dVar 8) (dNil)) p = .ok (.sh (.int (13 : Nat))) p := dN1_ok (f := opLen) (var_sh (i := 8) rfl) rfl (show some (Rv.sh (.int ((cs.map D.err).length : Nat))) = _ by rw [List.length_map, hl])
  have hr := rg1_ok (n := 13) hlen rfl (by omega)
  obtain ⟨p', h1, h', f', h2⟩ := forL_ex (tg := gN 9) (body := inner) (enc := fun i : Nat => D.int (i : Nat)) (fun _ q => ∃ h', FS h' ∧ q = ⟨eQ a b c d e f (.sh (.lst (cs.map .err))) h' .no, src⟩) (fun k => k < 13) (fun _ k q hk ⟨h', f', e'⟩ => by
    subst e'
    exact ⟨_, _, FS.set f' (i := 9) rfl, inner_ok hc hk, _, fs_sh _, rfl⟩) (List.range 13) p (fun x hx => List.mem_range.mp hx) ⟨h, fh, rfl⟩
  subst h2
  exact ⟨h', f', for_none hr h1⟩
end K38
set_option maxRecDepth 100000
set_option maxHeartbeats 4000000
namespace K38
open PySem PySem.Spec PyProof.Rows L2 Py Pg
def ord11 : List Nat := [1, 2, 3, 4, 5, 7, 8, 9, 10, 11, 12]
theorem made_eq {src : List Int × Int} : sem_law_made [] src = .ok true (.lst (ord11.map .err)) [] src := by kernel_rfl
theorem with_eq {w : List Nat} {src : List Int × Int} : sem_law_made_with [.sh (.str w)] src = .ok true (.lst (ord11.map .err)) [.sh (.str w)] src := by kernel_rfl
def cT (l : Nat) : Nat := 100 + 2 * l
def cL (l j : Nat) : Nat := 100 + 2 * (l * 6 + j) + 1
theorem bcT (l : Nat) : bc (cT l) = 6 := by unfold bc cT; rw [if_neg (by omega), if_pos (by omega)]
theorem bcL (l j : Nat) : bc (cL l j) = 13 := by unfold bc cL; rw [if_neg (by omega), if_neg (by omega)]
theorem xcT (l : Nat) : xcode 6 [.int (l : Nat)] = some (cT l) := by
  unfold xcode
  rw [if_pos rfl]
  show (if 0 ≤ (l : Int) then some (100 + 2 * (l : Int).toNat) else none) = _
  rw [if_pos (by omega), Int.toNat_natCast]; rfl
theorem xcL {l j : Nat} {r : List Nat} (h : rsi r = some j) : xcode 13 [.int (l : Nat), .str r] = some (cL l j) := by
  unfold xcode
  rw [if_neg (by decide)]
  show (if 0 ≤ (l : Int) then (rsi r).map fun j => 100 + 2 * ((l : Int).toNat * 6 + j) + 1 else none) = _
  rw [if_pos (by omega), h, Int.toNat_natCast]; rfl
theorem xfT (l : Nat) : xfl (cT l) "at" = some (.int (l : Nat)) := by
  unfold xfl cT
  rw [if_pos (by omega), if_pos rfl]
  congr 2; omega
theorem xfL1 {l j : Nat} (hj : j < 6) : xfl (cL l j) "line" = some (.int (l : Nat)) := by
  unfold xfl cL
  rw [if_neg (by omega), if_pos rfl]
  congr 2; omega
theorem xfL2 {l j : Nat} (hj : j < 6) : xfl (cL l j) "reason" = some (.str (rsn j)) := by
  unfold xfl cL
  rw [if_neg (by omega), if_neg (by decide), if_pos rfl]
  congr 3; omega
theorem mk6 {da : Dn} {p : Py.PS} {l : Nat} (h : da p = .ok (.sh (.int (l : Nat))) p) : dMkX 6 (dCons da dNil) p = .ok (.sh (.err (cT l))) p := by
  unfold dMkX
  rw [dcons_ok h (show dNil p = .ok [] p from rfl), R.bind_ok]
  show (match xcode 6 [.int (l : Nat)] with | some c => R.ok (Rv.sh (.err c)) p | none => .bad) = _
  rw [xcT]
theorem mk13 {da db : Dn} {p : Py.PS} {l j : Nat} {r : List Nat} (hj : rsi r = some j) (h : da p = .ok (.sh (.int (l : Nat))) p) (h2 : db p = .ok (.sh (.str r)) p) : dMkX 13 (dCons da (dCons db dNil)) p = .ok (.sh (.err (cL l j))) p := by
  unfold dMkX
  rw [dcons_ok h (dcons_ok h2 (show dNil p = .ok [] p from rfl)), R.bind_ok]
  show (match xcode 13 [.int (l : Nat), .str r] with | some c => R.ok (Rv.sh (.err c)) p | none => .bad) = _
  rw [xcL hj]
theorem fld_ {c : Nat} {f : Str} {d : D} {da : Dn} {p : Py.PS} (h : da p = .ok (.sh (.err c)) p) (hc : 100 ≤ c) (he : er (bc c) = true) (hx : xfl c f = some d) : d1 (opXf er f) da p = .ok (.sh d) p := by
  refine d1_ok (f := opXf er f) h rfl ?_
  show (if 100 ≤ c ∧ er (bc c) = true then (xfl c f).map Rv.sh else none) = _
  rw [if_pos ⟨hc, he⟩, hx]; rfl
theorem okq3 {a b j : Nat} (hj : j < 6) : okq (.lst [.int (a : Nat), .int (b : Nat), .str (rsn j)]) = true := by
  have : j = 0 ∨ j = 1 ∨ j = 2 ∨ j = 3 ∨ j = 4 ∨ j = 5 := by omega
  rcases this with rfl | rfl | rfl | rfl | rfl | rfl <;> kernel_rfl
/-- the four fields -/
theorem flds_ok {i l m j : Nat} {env : List Sl} {src : List Int × Int} (hj : j < 6) (h : env[i]? = some (.own false false (.lst [.err (cT l), .err (cL m j)]))) :
    dLst (dCons (d1 (opXf er "at") (d2 opIx (dVar i) (dC (.int 0)))) (dCons (d1 (opXf er "line") (d2 opIx (dVar i) (dC (.int 1)))) (dCons (d1 (opXf er "reason") (d2 opIx (dVar i) (dC (.int 1)))) (dNil)))) ⟨env, src⟩ = .ok (.ow (.lst [.int (l : Nat), .int (m : Nat), .str (rsn j)])) ⟨env, src⟩ := by
  have hv : dVar i (⟨env, src⟩ : Py.PS) = .ok (.bo i) ⟨env, src⟩ := by unfold dVar; simp only [h]
  have ho : opd (.bo i) (⟨env, src⟩ : Py.PS) = some (.lst [.err (cT l), .err (cL m j)]) := by
    show (match env[i]? with | some (.own _ _ d) => some d | _ => none) = _
    rw [h]
  have e0 := d2_ok (f := opIx) hv (show dC (.int 0) (⟨env, src⟩ : Py.PS) = .ok (.sh (.int 0)) ⟨env, src⟩ from rfl) ho rfl (show _ = some (Rv.sh (.err (cT l))) from rfl)
  have e1 := d2_ok (f := opIx) hv (show dC (.int 1) (⟨env, src⟩ : Py.PS) = .ok (.sh (.int 1)) ⟨env, src⟩ from rfl) ho rfl (show _ = some (Rv.sh (.err (cL m j))) from rfl)
  have a := fld_ (f := "at") e0 (by unfold cT; omega) (by rw [bcT]; rfl) (xfT l)
  have b := fld_ (f := "line") e1 (by unfold cL; omega) (by rw [bcL]; rfl) (xfL1 (l := m) hj)
  have c := fld_ (f := "reason") e1 (by unfold cL; omega) (by rw [bcL]; rfl) (xfL2 (l := m) hj)
  exact lst_ok (dcons_ok a (dcons_ok b (dcons_ok c (show dNil _ = .ok [] _ from rfl)))) rfl (by show 3 ≤ _; omega)
theorem dr_src {n : Nat} {ns : List Int} (hn : ns.length ≤ 63) (h : n < 2 ^ 60) : Dr n (srcCells ns, 0) := by
  have h1 : (ns.take 63).length ≤ 63 := by rw [List.length_take]; omega
  refine ⟨?_, ?_, by omega, by show (0 : Int) + n < 2 ^ 60; omega⟩
  · unfold srcCells
    split <;> simp
  · unfold srcCells
    split
    · simp
    · rename_i c cs e
      have := congrArg List.length e
      rw [List.length_map] at this
      show (c :: cs).length ≤ _
      omega
def nxt : Nat → Nat
  | 1 => 2 | 2 => 4 | 4 => 5 | _ => 1
theorem mulN (p : Py.PS) : d2 opMul (dC (.str [110, 111, 32, 118, 97, 108, 117, 101, 32])) (dC (.int 9)) p = .ok (.sh (.str (List.replicate 9 [110, 111, 32, 118, 97, 108, 117, 101, 32]).flatten)) p := by
  refine d2_ok (f := opMul) (show dC (.str [110, 111, 32, 118, 97, 108, 117, 101, 32]) p = .ok (.sh (.str [110, 111, 32, 118, 97, 108, 117, 101, 32])) p from rfl) (show dC (.int 9) p = .ok (.sh (.int 9)) p from rfl) rfl rfl ?_
  simp only [opMul]
  rw [if_pos (sb_iff.mpr ⟨by omega, by omega, by decide⟩)]
  rfl
theorem kinds0 {src : List Int × Int} : sem_law_kinds [.sh (.err 0)] src = .ok true (.lst (kindsL 0)) [.sh (.err 0)] src := kinds_eq (c := 0) rfl
theorem law_eq {ns : List Int} (hn : ns.length ≤ 63) : ∃ p', den_law ⟨.no :: .src :: List.replicate 9 .no, (srcCells ns, 0)⟩ = .rt (.sh (.bl true)) p' := by
  let p0 : Py.PS := ⟨eQ .no .no .no .no .no .no .no .no .no, (srcCells ns, 0)⟩
  have hd : Dr 10 (srcCells ns, 0) := dr_src hn (by omega)
  let W : List D := [.str [], .str [97], .str [119, 114, 111, 110, 103], .str (List.replicate 9 [110, 111, 32, 118, 97, 108, 117, 101, 32]).flatten]
  obtain ⟨d, s1, m1, m2, m3⟩ := pick_lst (ds := W) (n := 9) (by simp [W]) (by simp [W]) hd
  obtain ⟨w, rfl⟩ : ∃ w, d = .str w := by
    simp only [W, List.mem_cons, List.not_mem_nil, or_false] at m1
    rcases m1 with rfl | rfl | rfl | rfl <;> exact ⟨_, rfl⟩
  have hL : dLst (dCons (dC (.str [])) (dCons (dC (.str [97])) (dCons (dC (.str [119, 114, 111, 110, 103])) (dCons (d2 opMul (dC (.str [110, 111, 32, 118, 97, 108, 117, 101, 32])) (dC (.int 9))) (dNil))))) p0 = .ok (.ow (.lst W)) p0 :=
    lst_ok (dcons_ok (show dC (.str []) p0 = .ok (.sh (.str [])) p0 from rfl) (dcons_ok (show dC (.str [97]) p0 = .ok (.sh (.str [97])) p0 from rfl) (dcons_ok (show dC (.str [119, 114, 111, 110, 103]) p0 = .ok (.sh (.str [119, 114, 111, 110, 103])) p0 from rfl) (dcons_ok (mulN p0) (show dNil p0 = .ok [] p0 from rfl))))) rfl (by show 4 ≤ _; omega)
  have c1 := call_src (k := 2) (sem := sem_law_pick) (fresh := false) (back := [.sh (.lst W)]) (ds := [.lst W]) (dcons_ok (show dVar 1 p0 = .ok .sr p0 from rfl) (dcons_ok hL (show dNil p0 = .ok [] p0 from rfl))) rfl m3
  have S1 := (asg_ok (i := 2) c1).trans (show asgn 2 _ _ = .nx ⟨eQ (.sh (.str w)) .no .no .no .no .no .no .no .no, s1⟩ from rfl)
  -- the line, the reason
  let e1 : List Sl := eQ (.sh (.str w)) .no .no .no .no .no .no .no .no
  obtain ⟨l, s2, g1, g2, g3⟩ := draw_step (limit := 1000) (src := s1) (n := 8) m2 (by omega) (by omega)
  have c2 := call_src (k := 2) (sem := sem_law_draw) (fresh := false) (back := [.sh (.int 1000)]) (ds := [.int 1000]) (p := (⟨e1, s1⟩ : Py.PS)) (da := dCons (dVar 1) (dCons (dC (.int 1000)) (dNil))) (dcons_ok (show dVar 1 (⟨e1, s1⟩ : Py.PS) = .ok .sr ⟨e1, s1⟩ from rfl) (dcons_ok (show dC (.int 1000) (⟨e1, s1⟩ : Py.PS) = .ok (.sh (.int 1000)) ⟨e1, s1⟩ from rfl) (show dNil (⟨e1, s1⟩ : Py.PS) = .ok [] ⟨e1, s1⟩ from rfl))) rfl g1
  let V : List D := [.str [108, 105, 110, 101], .str [102, 105, 120], .str [116, 101, 120, 116], .str [101, 110, 100]]
  obtain ⟨r, s3, n1, n2, n3⟩ := pick_lst (ds := V) (n := 7) (src := s2) (by simp [V]) (by simp [V]) g3
  obtain ⟨j, hj, hr, hs⟩ : ∃ j, j < 6 ∧ r = .str (rsn j) ∧ (rsi (rsn j) = some j ∧ nxt j < 6 ∧ rsi (rsn (nxt j)) = some (nxt j) ∧ opIxA (.dic [(.str [108, 105, 110, 101], .str [102, 105, 120]), (.str [102, 105, 120], .str [116, 101, 120, 116]), (.str [116, 101, 120, 116], .str [101, 110, 100]), (.str [101, 110, 100], .str [108, 105, 110, 101])]) (.str (rsn j)) = some (.sh (.str (rsn (nxt j))))) := by
    simp only [V, List.mem_cons, List.not_mem_nil, or_false] at n1
    rcases n1 with rfl | rfl | rfl | rfl
    · exact ⟨1, by omega, rfl, by decide, by decide, by decide, by kernel_rfl⟩
    · exact ⟨2, by omega, rfl, by decide, by decide, by decide, by kernel_rfl⟩
    · exact ⟨4, by omega, rfl, by decide, by decide, by decide, by kernel_rfl⟩
    · exact ⟨5, by omega, rfl, by decide, by decide, by decide, by kernel_rfl⟩
  subst hr
  obtain ⟨r1, k6, r2, hx⟩ := hs
  have c3 := call_src (k := 2) (sem := sem_law_pick) (fresh := false) (back := [.sh (.lst V)]) (ds := [.lst V]) (p := (⟨e1, s2⟩ : Py.PS)) (da := dCons (dVar 1) (dCons (dLst (dCons (dC (.str [108, 105, 110, 101])) (dCons (dC (.str [102, 105, 120])) (dCons (dC (.str [116, 101, 120, 116])) (dCons (dC (.str [101, 110, 100])) (dNil)))))) (dNil))) (dcons_ok (show dVar 1 (⟨e1, s2⟩ : Py.PS) = .ok .sr ⟨e1, s2⟩ from rfl) (dcons_ok (show dLst (dCons (dC (.str [108, 105, 110, 101])) (dCons (dC (.str [102, 105, 120])) (dCons (dC (.str [116, 101, 120, 116])) (dCons (dC (.str [101, 110, 100])) (dNil))))) (⟨e1, s2⟩ : Py.PS) = .ok (.ow (.lst V)) ⟨e1, s2⟩ from rfl) (show dNil (⟨e1, s2⟩ : Py.PS) = .ok [] ⟨e1, s2⟩ from rfl))) rfl n3
  let e2 : List Sl := eQ (.sh (.str w)) (.sh (.int (l : Nat))) (.sh (.str (rsn j))) .no .no .no .no .no .no
  have S2 : sParA 3 4 (dCall 2 sem_law_draw (dCons (dVar 1) (dCons (dC (.int 1000)) (dNil)))) (dCall 2 sem_law_pick (dCons (dVar 1) (dCons (dLst (dCons (dC (.str [108, 105, 110, 101])) (dCons (dC (.str [102, 105, 120])) (dCons (dC (.str [116, 101, 120, 116])) (dCons (dC (.str [101, 110, 100])) (dNil)))))) (dNil)))) (⟨e1, s1⟩ : Py.PS) = .nx ⟨e2, s3⟩ := by
    unfold sParA
    rw [c2, onR_ok]
    show onR ((dCall 2 sem_law_pick (dCons (dVar 1) (dCons (dLst (dCons (dC (.str [108, 105, 110, 101])) (dCons (dC (.str [102, 105, 120])) (dCons (dC (.str [116, 101, 120, 116])) (dCons (dC (.str [101, 110, 100])) (dNil)))))) (dNil)))) (⟨e1, s2⟩ : Py.PS)) _ = _
    rw [c3, onR_ok]
    rfl
  let e3 : List Sl := eQ (.sh (.str w)) (.sh (.int (l : Nat))) (.sh (.str (rsn j))) (.sh (.str (rsn (nxt j)))) .no .no .no .no .no
  have S3 : sAsg 5 (d2 opIxA ((fun p => .ok (.ow (.dic [(.str [108, 105, 110, 101], .str [102, 105, 120]), (.str [102, 105, 120], .str [116, 101, 120, 116]), (.str [116, 101, 120, 116], .str [101, 110, 100]), (.str [101, 110, 100], .str [108, 105, 110, 101])])) p)) (dVar 4)) ⟨e2, s3⟩ = .nx ⟨e3, s3⟩ :=
    (asg_ok (i := 5) (d2_ok (f := opIxA) (p := (⟨e2, s3⟩ : Py.PS)) rfl (var_sh (i := 4) rfl) rfl rfl hx)).trans rfl
  -- the errors
  let L1 : List D := [.err (cT l), .err (cL l j)]
  let L2 : List D := [.err (cT (l + 1)), .err (cL (l + 2) (nxt j))]
  let e4 : List Sl := eQ (.sh (.str w)) (.sh (.int (l : Nat))) (.sh (.str (rsn j))) (.sh (.str (rsn (nxt j)))) (.own false false (.lst L1)) .no .no .no .no
  let e5 : List Sl := eQ (.sh (.str w)) (.sh (.int (l : Nat))) (.sh (.str (rsn j))) (.sh (.str (rsn (nxt j)))) (.own false false (.lst L1)) (.own false false (.lst L2)) .no .no .no
  have S4 := (asg_ok (i := 6) (p := (⟨e3, s3⟩ : Py.PS)) (lst_ok (dcons_ok (mk6 (l := l) (var_sh (i := 3) rfl)) (dcons_ok (mk13 (l := l) (r := rsn j) r1 (var_sh (i := 3) rfl) (var_sh (i := 4) rfl)) (show dNil (⟨e3, s3⟩ : Py.PS) = .ok [] _ from rfl))) rfl (by show 2 ≤ _; omega))).trans (show asgn 6 _ _ = .nx ⟨e4, s3⟩ from rfl)
  have pl : ∀ (n : Nat) (e : List Sl), e[3]? = some (.sh (.int (l : Nat))) → d2 opAdd (dVar 3) (dC (.int (n : Nat))) (⟨e, s3⟩ : Py.PS) = .ok (.sh (.int ((l + n : Nat) : Int))) ⟨e, s3⟩ := fun n e he => by
    rw [Int.natCast_add]
    exact d2_ok (f := opAdd) (var_sh (i := 3) he) (show dC (.int (n : Nat)) _ = .ok (.sh (.int (n : Nat))) _ from rfl) rfl rfl (add_int _ _)
  have S5 := (asg_ok (i := 7) (p := (⟨e4, s3⟩ : Py.PS)) (lst_ok (dcons_ok (mk6 (l := l + 1) (pl 1 e4 rfl)) (dcons_ok (mk13 (l := l + 2) (r := rsn (nxt j)) r2 (pl 2 e4 rfl) (var_sh (i := 5) rfl)) (show dNil (⟨e4, s3⟩ : Py.PS) = .ok [] _ from rfl))) rfl (by show 2 ≤ _; omega))).trans (show asgn 7 _ _ = .nx ⟨e5, s3⟩ from rfl)
  let q : Py.PS := ⟨e5, s3⟩
  have f1 := flds_ok (i := 6) (l := l) (m := l) (j := j) (env := e5) (src := s3) hj rfl
  have f2 := flds_ok (i := 7) (l := l + 1) (m := l + 2) (j := nxt j) (env := e5) (src := s3) k6 rfl
  have d1' : dLst (dCons (dVar 3) (dCons (dVar 3) (dCons (dVar 4) (dNil)))) q = .ok (.ow (.lst [.int (l : Nat), .int (l : Nat), .str (rsn j)])) q := rfl
  have d2' : dLst (dCons (d2 opAdd (dVar 3) (dC (.int 1))) (dCons (d2 opAdd (dVar 3) (dC (.int 2))) (dCons (dVar 5) (dNil)))) q = .ok (.ow (.lst [.int ((l + 1 : Nat) : Int), .int ((l + 2 : Nat) : Int), .str (rsn (nxt j))])) q :=
    lst_ok (dcons_ok (pl 1 e5 rfl) (dcons_ok (pl 2 e5 rfl) (dcons_ok (show dVar 5 q = .ok (.sh (.str (rsn (nxt j)))) q from rfl) (show dNil q = .ok [] q from rfl)))) rfl (by show 3 ≤ _; omega)
  have t1 := d2_ok (f := opNe) f1 d1' rfl rfl (ne_same (okq3 hj))
  have t2 := d2_ok (f := opNe) f2 d2' rfl rfl (ne_same (okq3 k6))
  have c4 := call1 (k := 1) (fresh := true) (p := q) (da := dMk0 0) (show dMk0 0 q = .ok (.sh (.err 0)) q from rfl) rfl rfl (kinds0 (src := s3))
  have c5 := call1 (k := 1) (fresh := true) (p := q) (da := dMk1 0 (dVar 2)) (show dMk1 0 (dVar 2) q = .ok (.sh (.err 0)) q from rfl) rfl rfl (kinds0 (src := s3))
  have hin : opIn (.bl true) (.lst (kindsL 0)) = some (.sh (.bl false)) := by kernel_rfl
  have t3 := d2_ok (f := opIn) (show dC (.bl true) q = .ok (.sh (.bl true)) q from rfl) c4 rfl rfl hin
  have t4 := d2_ok (f := opIn) (show dC (.bl true) q = .ok (.sh (.bl true)) q from rfl) c5 rfl rfl hin
  -- the lists
  let A1 : List Nat := ord11 ++ [cT l, cL l j]
  let A2 : List Nat := ord11 ++ [cT (l + 1), cL (l + 2) (nxt j)]
  have h1 : Cs A1 := by
    show (ord11 ++ [cT l, cL l j]).map bc = ordN
    rw [List.map_append, List.map_cons, List.map_cons, bcT, bcL]; rfl
  have h2 : Cs A2 := by
    show (ord11 ++ [cT (l + 1), cL (l + 2) (nxt j)]).map bc = ordN
    rw [List.map_append, List.map_cons, List.map_cons, bcT, bcL]; rfl
  have m1' : dCall 0 sem_law_made dNil q = .ok (.ow (.lst (ord11.map .err))) q := call_pure (k := 0) (ds := []) (fresh := true) (p := q) (back := []) rfl rfl (made_eq (src := s3))
  have m2' := call1 (k := 1) (fresh := true) (p := q) (da := dVar 2) (show dVar 2 q = .ok (.sh (.str w)) q from rfl) rfl rfl (with_eq (w := w) (src := s3))
  have a1 := d2_ok (f := opAdd) (db := dVar 6) (y := .bo 6) m1' rfl rfl rfl (add_lst (x := ord11.map .err) (y := L1) (by show 13 ≤ _; omega))
  have a2 := d2_ok (f := opAdd) (db := dVar 7) (y := .bo 7) m2' rfl rfl rfl (add_lst (x := ord11.map .err) (y := L2) (by show 13 ≤ _; omega))
  have hlst := lst_ok (dcons_ok a1 (dcons_ok a2 (show dNil q = .ok [] q from rfl))) rfl (show ([.lst (A1.map D.err), .lst (A2.map D.err)] : List D).length ≤ _ by show 2 ≤ _; omega)
  have hdi := div_of (d := .lst [.lst (A1.map D.err), .lst (A2.map D.err)]) hlst rfl rfl
  obtain ⟨h', f', o1⟩ := mid_ok (a := .sh (.str w)) (b := .sh (.int (l : Nat))) (c := .sh (.str (rsn j))) (d := .sh (.str (rsn (nxt j)))) (e := .own false false (.lst L1)) (f := .own false false (.lst L2)) (src := s3) h1 (.inl rfl)
  obtain ⟨h'', f'', o2⟩ := mid_ok (a := .sh (.str w)) (b := .sh (.int (l : Nat))) (c := .sh (.str (rsn j))) (d := .sh (.str (rsn (nxt j)))) (e := .own false false (.lst L1)) (f := .own false false (.lst L2)) (src := s3) h2 f'
  have hfor : forL (gN 8) mid [.lst (A1.map D.err), .lst (A2.map D.err)] q = .nx ⟨eQ (.sh (.str w)) (.sh (.int (l : Nat))) (.sh (.str (rsn j))) (.sh (.str (rsn (nxt j)))) (.own false false (.lst L1)) (.own false false (.lst L2)) (.sh (.lst (A2.map D.err))) h'' .no, s3⟩ := by
    unfold forL
    show (match mid ⟨eQ (.sh (.str w)) (.sh (.int (l : Nat))) (.sh (.str (rsn j))) (.sh (.str (rsn (nxt j)))) (.own false false (.lst L1)) (.own false false (.lst L2)) (.sh (.lst (A1.map D.err))) .no .no, s3⟩ with | .nx p' => forL (gN 8) mid [.lst (A2.map D.err)] p' | .ct p' => forL (gN 8) mid [.lst (A2.map D.err)] p' | .bk p' => .nx p' | .rt v p' => .rt v p' | .exc c p' => .exc c p' | .bad => .bad) = _
    rw [o1]
    show forL (gN 8) mid [.lst (A2.map D.err)] ⟨eQ (.sh (.str w)) (.sh (.int (l : Nat))) (.sh (.str (rsn j))) (.sh (.str (rsn (nxt j)))) (.own false false (.lst L1)) (.own false false (.lst L2)) (.sh (.lst (A1.map D.err))) h' .no, s3⟩ = _
    unfold forL
    show (match mid ⟨eQ (.sh (.str w)) (.sh (.int (l : Nat))) (.sh (.str (rsn j))) (.sh (.str (rsn (nxt j)))) (.own false false (.lst L1)) (.own false false (.lst L2)) (.sh (.lst (A2.map D.err))) h' .no, s3⟩ with | .nx p' => forL (gN 8) mid [] p' | .ct p' => forL (gN 8) mid [] p' | .bk p' => .nx p' | .rt v p' => .rt v p' | .exc c p' => .exc c p' | .bad => .bad) = _
    rw [o2]
    rfl
  have S9 := for_none hdi hfor
  refine ⟨⟨eQ (.sh (.str w)) (.sh (.int (l : Nat))) (.sh (.str (rsn j))) (.sh (.str (rsn (nxt j)))) (.own false false (.lst L1)) (.own false false (.lst L2)) (.sh (.lst (A2.map D.err))) h'' .no, s3⟩, ?_⟩
  unfold den_law
  exact (seq_nx S1).trans ((seq_nx S2).trans ((seq_nx S3).trans ((seq_nx S4).trans ((seq_nx S5).trans ((seq_nx (if_skip t1)).trans ((seq_nx (if_skip t2)).trans ((seq_nx (if_skip ((or_f t3).trans t4))).trans ((seq_nx S9).trans rfl))))))))
end K38
theorem PySem.Challenge.cw_restingfixes_k38_errors_holds : PySem.Challenge.rw_restingfixes_k38_errors.Holds := by
  exact holds_of_k38 (fun ns h => K38.law_eq h)
