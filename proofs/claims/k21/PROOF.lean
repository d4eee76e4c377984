import PyProof.Rows.All
import Wide.All
import OpenK.AllK
import Wide.FinOn
import KE.KStateDown
import HandS.ForMost
import HandS.More
import HandS.WordsExc
import HandS.Defaults
import HandS.Walk
import HandS.Zip
import HandS.Wide
import HandS.Gcd
import HandS.IsInst
import HandS.Conv
import HandS.Deep
import HandS.TupAny
import HandS.TupLe
import HandS.Flow
import HandS.Property
import HandS.ExcInit
import HandS.ExcField
import HandS.TryOnly
import HandS.EndBits
import HandS.NoneIn
import HandS.Head0
import HandS.Head1
import HandS.Head2
import HandS.Head3
import HandS.HeadEnd
import HandS.HeadHook1
import HandS.HeadHook2
import KE.KDictZip
import KE.KDictItemsList
import KE.GoesEnum
import HandS.SetFor
import PySem.Challenge.RW_thinslopes_k21_whole_least_losses_by_all
set_option Elab.async false
set_option linter.all false
set_option maxRecDepth 100000
set_option maxHeartbeats 4000000
/-! part B1 -/
namespace Th
open PySem PySem.Spec PyProof.Rows L2

/-! ### the stable part S of a heap H -/
structure Ext (m : Addr → Prop) (S H S' H' : Hp) : Prop where
  s : Same S S'
  i : Same S' H'
  h : ∀ b o, ¬ m b → H b = some o → H' b = some o
  d : ∀ b, H b ≠ none → H' b ≠ none
  n : ∀ b, H b ≠ none → S b = none → S' b = none
/-- nothing is changed -/
abbrev No : Addr → Prop := fun _ => False
section
variable {m m' : Addr → Prop} {S H S1 H1 S2 H2 : Hp} {p : Addr} {o u : HO}
theorem Ext.refl (h : Same S H) : Ext m S H S H := ⟨Same.refl S, h, fun _ _ _ e => e, fun _ e => e, fun _ _ e => e⟩
theorem Ext.trans (a : Ext m S H S1 H1) (b : Ext m S1 H1 S2 H2) : Ext m S H S2 H2 :=
  ⟨a.s.trans b.s, b.i, fun x o hm e => b.h x o hm (a.h x o hm e), fun x e => b.d x (a.d x e), fun x e q => b.n x (a.d x e) (a.n x e q)⟩
theorem Ext.weak (a : Ext No S H S1 H1) : Ext m S H S1 H1 := ⟨a.s, a.i, fun x o _ e => a.h x o (fun z => z) e, a.d, a.n⟩
theorem Ext.same (a : Ext No S H S1 H1) : Same H H1 := fun b o e => a.h b o (fun z => z) e
theorem none_of_same (h : Same S H) (e : H p = none) : S p = none := by
  cases q : S p with
  | none => rfl
  | some x => rw [h p x q] at e; cases e
theorem same_upd (h : H p = none) : Same H (upd H p o) := fun b x e => by
  rw [upd_ne (ne_of_none e h)]; exact e
theorem same_upd2 (h : Same S H) (hp : H p = none) : Same (upd S p o) (upd H p o) := fun b x e => by
  by_cases hb : b = p
  · subst hb; rw [upd_same] at e ⊢; exact e
  · rw [upd_ne hb] at e ⊢; exact h b x e
/-- a new object, never changed from here on -/
theorem Ext.new (a : Ext m S H S1 H1) (hp : H1 p = none) : Ext m S H (upd S1 p o) (upd H1 p o) := by
  have hs : S1 p = none := none_of_same a.i hp
  refine ⟨a.s.trans (same_upd hs), same_upd2 a.i hp, fun b x hm e => ?_, fun b e => ?_, fun b e q => ?_⟩
  · have z := a.h b x hm e
    rw [upd_ne (ne_of_none z hp)]; exact z
  · by_cases hb : b = p
    · subst hb; rw [upd_same]; simp
    · rw [upd_ne hb]; exact a.d b e
  · have hb : b ≠ p := fun z => by subst z; exact a.d b e hp
    rw [upd_ne hb]; exact a.n b e q
/-- a new object that will be changed -/
theorem Ext.newM (a : Ext m S H S1 H1) (hp : H1 p = none) : Ext m S H S1 (upd H1 p o) := by
  have hs : S1 p = none := none_of_same a.i hp
  refine ⟨a.s, a.i.trans (same_upd hp), fun b x hm e => ?_, fun b e => ?_, a.n⟩
  · have z := a.h b x hm e
    rw [upd_ne (ne_of_none z hp)]; exact z
  · by_cases hb : b = p
    · subst hb; rw [upd_same]; simp
    · rw [upd_ne hb]; exact a.d b e
/-- an object of our own is changed -/
theorem Ext.mut (a : Ext m S H S1 H1) (hp : H p = none ∨ m p) (hs : S1 p = none) : Ext m S H S1 (upd H1 p o) := by
  refine ⟨a.s, fun b x e => ?_, fun b x hm e => ?_, fun b e => ?_, a.n⟩
  · rw [upd_ne (ne_of_none e hs)]; exact a.i b x e
  · have hb : b ≠ p := fun z => by
      subst z
      rcases hp with hp | hp
      · rw [hp] at e; cases e
      · exact hm hp
    rw [upd_ne hb]; exact a.h b x hm e
  · by_cases hb : b = p
    · subst hb; rw [upd_same]; simp
    · rw [upd_ne hb]; exact a.d b e
/-- from here on it is not changed -/
theorem Ext.fix (a : Ext m S H S1 H1) (hp : H p = none) (hs : S1 p = none) (e : H1 p = some o) : Ext m S H (upd S1 p o) H1 := by
  refine ⟨a.s.trans (same_upd hs), fun b x z => ?_, a.h, a.d, fun b z q => ?_⟩
  · by_cases hb : b = p
    · subst hb; rw [upd_same] at z; cases z; exact e
    · rw [upd_ne hb] at z; exact a.i b x z
  · have hb : b ≠ p := fun y => by subst y; exact z hp
    rw [upd_ne hb]; exact a.n b z q
theorem Ext.none1 (a : Ext m S H S1 H1) (hp : H1 p = none) : H p = none := by
  cases q : H p with
  | none => rfl
  | some x => exact absurd hp (a.d p (by rw [q]; simp))
theorem ne_none (e : H p = some o) : H p ≠ none := by rw [e]; simp
end

/-! ### relations of values and plain data, over a stable heap -/
abbrev Rp (α : Type) := Hp → V → α → Prop
def MonoR {α : Type} (R : Rp α) : Prop := ∀ S S' v x, Same S S' → R S v x → R S' v x
def rI : Rp Int := fun _ v n => v = .int n
/-- a list | a tuple of ints, either -/
def lI : Rp (List Int) := fun S v ns => ∃ a, v = .ref a ∧ S a = some (.lst (ns.map V.int))
def tI : Rp (List Int) := fun S v ns => ∃ a, v = .ref a ∧ S a = some (.tup (ns.map V.int))
def sI : Rp (List Int) := fun S v ns => lI S v ns ∨ tI S v ns
/-- item by item -/
inductive All2 {α β : Type} (R : α → β → Prop) : List α → List β → Prop where
  | nil : All2 R [] []
  | cons {a : α} {b : β} {as : List α} {bs : List β} (h : R a b) (t : All2 R as bs) : All2 R (a :: as) (b :: bs)
section
variable {α β : Type} {R R' : α → β → Prop}
theorem All2.len : ∀ {l : List α} {k : List β}, All2 R l k → l.length = k.length
  | _, _, .nil => rfl
  | _, _, .cons _ t => congrArg Nat.succ t.len
theorem All2.mp : ∀ {l : List α} {k : List β}, All2 R l k → (∀ a b, R a b → R' a b) → All2 R' l k
  | _, _, .nil, _ => .nil
  | _, _, .cons h t, f => .cons (f _ _ h) (t.mp f)
theorem All2.get : ∀ {l : List α} {k : List β} {i : Nat} {a : α}, All2 R l k → l[i]? = some a → ∃ b, k[i]? = some b ∧ R a b
  | _, _, _, _, .nil, e => by simp at e
  | _, _, 0, _, .cons h _, e => by simp at e; subst e; exact ⟨_, rfl, h⟩
  | _, _, i + 1, a, .cons _ t, e => by
    obtain ⟨b, h1, h2⟩ := All2.get (i := i) (a := a) t (by simpa using e)
    exact ⟨b, by simpa using h1, h2⟩
theorem All2.get2 : ∀ {l : List α} {k : List β} {i : Nat} {b : β}, All2 R l k → k[i]? = some b → ∃ a, l[i]? = some a ∧ R a b
  | _, _, _, _, .nil, e => by simp at e
  | _, _, 0, _, .cons h _, e => by simp at e; subst e; exact ⟨_, rfl, h⟩
  | _, _, i + 1, a, .cons _ t, e => by
    obtain ⟨b, h1, h2⟩ := All2.get2 (i := i) (b := a) t (by simpa using e)
    exact ⟨b, by simpa using h1, h2⟩
theorem All2.app : ∀ {l l' : List α} {k k' : List β}, All2 R l k → All2 R l' k' → All2 R (l ++ l') (k ++ k')
  | _, _, _, _, .nil, t => t
  | _, _, _, _, .cons h s, t => .cons h (s.app t)
theorem All2.snoc {l : List α} {k : List β} {a : α} {b : β} (h : All2 R l k) (r : R a b) : All2 R (l ++ [a]) (k ++ [b]) := h.app (.cons r .nil)
theorem All2.erase : ∀ {l : List α} {k : List β} (i : Nat), All2 R l k → All2 R (l.eraseIdx i) (k.eraseIdx i)
  | _, _, _, .nil => .nil
  | _, _, 0, .cons _ t => t
  | _, _, i + 1, .cons h t => .cons h (t.erase i)
theorem All2.set {a : α} {b : β} (r : R a b) : ∀ {l : List α} {k : List β} (i : Nat), All2 R l k → All2 R (l.set i a) (k.set i b)
  | _, _, _, .nil => .nil
  | _, _, 0, .cons _ t => .cons r t
  | _, _, i + 1, .cons h t => .cons h (t.set r i)
theorem All2.take : ∀ {l : List α} {k : List β} (i : Nat), All2 R l k → All2 R (l.take i) (k.take i)
  | _, _, 0, _ => .nil
  | _, _, _ + 1, .nil => .nil
  | _, _, i + 1, .cons h t => .cons h (t.take i)
theorem All2.drop : ∀ {l : List α} {k : List β} (i : Nat), All2 R l k → All2 R (l.drop i) (k.drop i)
  | _, _, 0, h => h
  | _, _, _ + 1, .nil => .nil
  | _, _, i + 1, .cons _ t => t.drop i
theorem All2.map {γ : Type} (f : γ → α) (g : γ → β) (h : ∀ c, R (f c) (g c)) : ∀ l : List γ, All2 R (l.map f) (l.map g)
  | [] => .nil
  | c :: l => .cons (h c) (All2.map f g h l)
end
theorem all2_ints : ∀ {vs : List V} {ns : List Int}, All2 (fun v n => v = V.int n) vs ns → vs = ns.map V.int
  | _, _, .nil => rfl
  | _, _, .cons h t => by rw [h, all2_ints t]; rfl
section
variable {α β : Type}
/-- a list | a tuple, either, item by item -/
def lR (R : Rp α) : Rp (List α) := fun S v xs => ∃ a vs, v = .ref a ∧ S a = some (.lst vs) ∧ All2 (R S) vs xs
def tR (R : Rp α) : Rp (List α) := fun S v xs => ∃ a vs, v = .ref a ∧ S a = some (.tup vs) ∧ All2 (R S) vs xs
def sR (R : Rp α) : Rp (List α) := fun S v xs => lR R S v xs ∨ tR R S v xs
/-- a pair -/
def pR (R : Rp α) (R' : Rp β) : Rp (α × β) := fun S v x => ∃ a v1 v2, v = .ref a ∧ S a = some (.tup [v1, v2]) ∧ R S v1 x.1 ∧ R' S v2 x.2
theorem rI_m : MonoR rI := fun _ _ _ _ _ h => h
theorem lI_m : MonoR lI := fun _ _ _ _ k ⟨a, e, h⟩ => ⟨a, e, k _ _ h⟩
theorem tI_m : MonoR tI := fun _ _ _ _ k ⟨a, e, h⟩ => ⟨a, e, k _ _ h⟩
theorem sI_m : MonoR sI := fun _ _ _ _ k h => h.imp (lI_m _ _ _ _ k) (tI_m _ _ _ _ k)
theorem lR_m {R : Rp α} (hR : MonoR R) : MonoR (lR R) := fun _ _ _ _ k ⟨a, vs, e, h, t⟩ => ⟨a, vs, e, k _ _ h, t.mp fun _ _ => hR _ _ _ _ k⟩
theorem tR_m {R : Rp α} (hR : MonoR R) : MonoR (tR R) := fun _ _ _ _ k ⟨a, vs, e, h, t⟩ => ⟨a, vs, e, k _ _ h, t.mp fun _ _ => hR _ _ _ _ k⟩
theorem sR_m {R : Rp α} (hR : MonoR R) : MonoR (sR R) := fun _ _ _ _ k h => h.imp (lR_m hR _ _ _ _ k) (tR_m hR _ _ _ _ k)
theorem pR_m {R : Rp α} {R' : Rp β} (h1 : MonoR R) (h2 : MonoR R') : MonoR (pR R R') := fun _ _ _ _ k ⟨a, v1, v2, e, h, r, r'⟩ => ⟨a, v1, v2, e, k _ _ h, h1 _ _ _ _ k r, h2 _ _ _ _ k r'⟩
theorem All2.mono {R : Rp α} (hR : MonoR R) {S S' : Hp} (k : Same S S') {vs : List V} {xs : List α} (h : All2 (R S) vs xs) : All2 (R S') vs xs := h.mp fun _ _ => hR _ _ _ _ k
end
end Th

/-! part Text -/
namespace Th
open PySem PySem.Spec PyProof.Rows L2
/-! the text by places (printed by gen.py) -/
def topS (i : Nat) : Stmt := PySem.Challenge.pw_thinslopes_k21_whole_least_losses_by_all.main.body.getD i (.Pass ⟨0, 0, 0, 0⟩)
/-- a def of the text: its name, qualified name, arguments, body, scope, defaults, where it stands -/
structure DefE where
  name : Str
  qual : Str
  params : Arguments
  body : List Stmt
  scope : Scope
  dfl : List V
  ad : Addr
def fdAt (K : PySem.W.Frag) (a : Addr) : FuncData := match K.lookup a with
  | some ⟨_, _, .func fd, _⟩ => fd
  | _ => default
abbrev st_BadRatio_init : Stmt := (inClass (topS 4) 0)
abbrev A_BadRatio_init : Addr := 76
abbrev N_BadRatio_init : List Str := ["self", "what"]
abbrev P_BadRatio_init : List Str := ["self", "what"]
theorem sc_BadRatio_init : FnScope N_BadRatio_init P_BadRatio_init (defScope st_BadRatio_init) := ⟨rfl, rfl, rfl, by decide +kernel, rfl, by decide +kernel, by decide +kernel⟩
abbrev e_BadRatio_init : DefE := ⟨"__init__", "BadRatio.__init__", defArgs st_BadRatio_init, defBody st_BadRatio_init, defScope st_BadRatio_init, [], A_BadRatio_init⟩
abbrev st_BadMould_init : Stmt := (inClass (topS 5) 0)
abbrev A_BadMould_init : Addr := 95
abbrev N_BadMould_init : List Str := ["self", "what", "index"]
abbrev P_BadMould_init : List Str := ["self", "what", "index"]
theorem sc_BadMould_init : FnScope N_BadMould_init P_BadMould_init (defScope st_BadMould_init) := ⟨rfl, rfl, rfl, by decide +kernel, rfl, by decide +kernel, by decide +kernel⟩
abbrev e_BadMould_init : DefE := ⟨"__init__", "BadMould.__init__", defArgs st_BadMould_init, defBody st_BadMould_init, defScope st_BadMould_init, [], A_BadMould_init⟩
abbrev st_BadLetter_init : Stmt := (inClass (topS 6) 0)
abbrev A_BadLetter_init : Addr := 114
abbrev N_BadLetter_init : List Str := ["self", "letter"]
abbrev P_BadLetter_init : List Str := ["self", "letter"]
theorem sc_BadLetter_init : FnScope N_BadLetter_init P_BadLetter_init (defScope st_BadLetter_init) := ⟨rfl, rfl, rfl, by decide +kernel, rfl, by decide +kernel, by decide +kernel⟩
abbrev e_BadLetter_init : DefE := ⟨"__init__", "BadLetter.__init__", defArgs st_BadLetter_init, defBody st_BadLetter_init, defScope st_BadLetter_init, [], A_BadLetter_init⟩
abbrev st_BadAsk_init : Stmt := (inClass (topS 7) 0)
abbrev A_BadAsk_init : Addr := 133
abbrev N_BadAsk_init : List Str := ["self", "index", "what"]
abbrev P_BadAsk_init : List Str := ["self", "index", "what"]
theorem sc_BadAsk_init : FnScope N_BadAsk_init P_BadAsk_init (defScope st_BadAsk_init) := ⟨rfl, rfl, rfl, by decide +kernel, rfl, by decide +kernel, by decide +kernel⟩
abbrev e_BadAsk_init : DefE := ⟨"__init__", "BadAsk.__init__", defArgs st_BadAsk_init, defBody st_BadAsk_init, defScope st_BadAsk_init, [], A_BadAsk_init⟩
abbrev st_BadMost_init : Stmt := (inClass (topS 8) 0)
abbrev A_BadMost_init : Addr := 152
abbrev N_BadMost_init : List Str := ["self", "most"]
abbrev P_BadMost_init : List Str := ["self", "most"]
theorem sc_BadMost_init : FnScope N_BadMost_init P_BadMost_init (defScope st_BadMost_init) := ⟨rfl, rfl, rfl, by decide +kernel, rfl, by decide +kernel, by decide +kernel⟩
abbrev e_BadMost_init : DefE := ⟨"__init__", "BadMost.__init__", defArgs st_BadMost_init, defBody st_BadMost_init, defScope st_BadMost_init, [], A_BadMost_init⟩
abbrev st_TooMany_init : Stmt := (inClass (topS 9) 0)
abbrev A_TooMany_init : Addr := 171
abbrev N_TooMany_init : List Str := ["self", "count"]
abbrev P_TooMany_init : List Str := ["self", "count"]
theorem sc_TooMany_init : FnScope N_TooMany_init P_TooMany_init (defScope st_TooMany_init) := ⟨rfl, rfl, rfl, by decide +kernel, rfl, by decide +kernel, by decide +kernel⟩
abbrev e_TooMany_init : DefE := ⟨"__init__", "TooMany.__init__", defArgs st_TooMany_init, defBody st_TooMany_init, defScope st_TooMany_init, [], A_TooMany_init⟩
abbrev st_is_sequence : Stmt := (topS 11)
abbrev A_is_sequence : Addr := 183
abbrev N_is_sequence : List Str := ["thing"]
abbrev P_is_sequence : List Str := ["thing"]
theorem sc_is_sequence : FnScope N_is_sequence P_is_sequence (defScope st_is_sequence) := ⟨rfl, rfl, rfl, by decide +kernel, rfl, by decide +kernel, by decide +kernel⟩
abbrev e_is_sequence : DefE := ⟨"is_sequence", "is_sequence", defArgs st_is_sequence, defBody st_is_sequence, defScope st_is_sequence, [], A_is_sequence⟩
abbrev st_is_whole : Stmt := (topS 12)
abbrev A_is_whole : Addr := 191
abbrev N_is_whole : List Str := ["thing", "low", "high"]
abbrev P_is_whole : List Str := ["thing", "low", "high"]
theorem sc_is_whole : FnScope N_is_whole P_is_whole (defScope st_is_whole) := ⟨rfl, rfl, rfl, by decide +kernel, rfl, by decide +kernel, by decide +kernel⟩
abbrev e_is_whole : DefE := ⟨"is_whole", "is_whole", defArgs st_is_whole, defBody st_is_whole, defScope st_is_whole, [V.non, V.non], A_is_whole⟩
abbrev st_common_divisor : Stmt := (topS 13)
abbrev A_common_divisor : Addr := 198
abbrev N_common_divisor : List Str := ["one", "other"]
abbrev P_common_divisor : List Str := ["one", "other"]
theorem sc_common_divisor : FnScope N_common_divisor P_common_divisor (defScope st_common_divisor) := ⟨rfl, rfl, rfl, by decide +kernel, rfl, by decide +kernel, by decide +kernel⟩
abbrev e_common_divisor : DefE := ⟨"common_divisor", "common_divisor", defArgs st_common_divisor, defBody st_common_divisor, defScope st_common_divisor, [], A_common_divisor⟩
abbrev st_make_ratio : Stmt := (topS 14)
abbrev A_make_ratio : Addr := 206
abbrev N_make_ratio : List Str := ["top", "bottom", "shared"]
abbrev P_make_ratio : List Str := ["top", "bottom"]
theorem sc_make_ratio : FnScope N_make_ratio P_make_ratio (defScope st_make_ratio) := ⟨rfl, rfl, rfl, by decide +kernel, rfl, by decide +kernel, by decide +kernel⟩
abbrev e_make_ratio : DefE := ⟨"make_ratio", "make_ratio", defArgs st_make_ratio, defBody st_make_ratio, defScope st_make_ratio, [V.int 1], A_make_ratio⟩
abbrev st_is_ratio : Stmt := (topS 15)
abbrev A_is_ratio : Addr := 213
abbrev N_is_ratio : List Str := ["thing"]
abbrev P_is_ratio : List Str := ["thing"]
theorem sc_is_ratio : FnScope N_is_ratio P_is_ratio (defScope st_is_ratio) := ⟨rfl, rfl, rfl, by decide +kernel, rfl, by decide +kernel, by decide +kernel⟩
abbrev e_is_ratio : DefE := ⟨"is_ratio", "is_ratio", defArgs st_is_ratio, defBody st_is_ratio, defScope st_is_ratio, [], A_is_ratio⟩
abbrev st_as_ratio : Stmt := (topS 16)
abbrev A_as_ratio : Addr := 220
abbrev N_as_ratio : List Str := ["thing"]
abbrev P_as_ratio : List Str := ["thing"]
theorem sc_as_ratio : FnScope N_as_ratio P_as_ratio (defScope st_as_ratio) := ⟨rfl, rfl, rfl, by decide +kernel, rfl, by decide +kernel, by decide +kernel⟩
abbrev e_as_ratio : DefE := ⟨"as_ratio", "as_ratio", defArgs st_as_ratio, defBody st_as_ratio, defScope st_as_ratio, [], A_as_ratio⟩
abbrev st_ratio_plus : Stmt := (topS 17)
abbrev A_ratio_plus : Addr := 227
abbrev N_ratio_plus : List Str := ["one", "other"]
abbrev P_ratio_plus : List Str := ["one", "other"]
theorem sc_ratio_plus : FnScope N_ratio_plus P_ratio_plus (defScope st_ratio_plus) := ⟨rfl, rfl, rfl, by decide +kernel, rfl, by decide +kernel, by decide +kernel⟩
abbrev e_ratio_plus : DefE := ⟨"ratio_plus", "ratio_plus", defArgs st_ratio_plus, defBody st_ratio_plus, defScope st_ratio_plus, [], A_ratio_plus⟩
abbrev st_ratio_times : Stmt := (topS 18)
abbrev A_ratio_times : Addr := 234
abbrev N_ratio_times : List Str := ["one", "other"]
abbrev P_ratio_times : List Str := ["one", "other"]
theorem sc_ratio_times : FnScope N_ratio_times P_ratio_times (defScope st_ratio_times) := ⟨rfl, rfl, rfl, by decide +kernel, rfl, by decide +kernel, by decide +kernel⟩
abbrev e_ratio_times : DefE := ⟨"ratio_times", "ratio_times", defArgs st_ratio_times, defBody st_ratio_times, defScope st_ratio_times, [], A_ratio_times⟩
abbrev st_is_couple : Stmt := (topS 21)
abbrev A_is_couple : Addr := 241
abbrev N_is_couple : List Str := ["thing", "height", "width"]
abbrev P_is_couple : List Str := ["thing", "height", "width"]
theorem sc_is_couple : FnScope N_is_couple P_is_couple (defScope st_is_couple) := ⟨rfl, rfl, rfl, by decide +kernel, rfl, by decide +kernel, by decide +kernel⟩
abbrev e_is_couple : DefE := ⟨"is_couple", "is_couple", defArgs st_is_couple, defBody st_is_couple, defScope st_is_couple, [], A_is_couple⟩
abbrev st_checked_cells : Stmt := (topS 22)
abbrev A_checked_cells : Addr := 248
abbrev N_checked_cells : List Str := ["height", "width", "cells", "told", "at", "cell"]
abbrev P_checked_cells : List Str := ["height", "width", "cells"]
theorem sc_checked_cells : FnScope N_checked_cells P_checked_cells (defScope st_checked_cells) := ⟨rfl, rfl, rfl, by decide +kernel, rfl, by decide +kernel, by decide +kernel⟩
abbrev e_checked_cells : DefE := ⟨"checked_cells", "checked_cells", defArgs st_checked_cells, defBody st_checked_cells, defScope st_checked_cells, [], A_checked_cells⟩
abbrev st_checked_letters : Stmt := (topS 23)
abbrev A_checked_letters : Addr := 255
abbrev N_checked_letters : List Str := ["many", "letters", "fresh", "at", "letter"]
abbrev P_checked_letters : List Str := ["many", "letters"]
theorem sc_checked_letters : FnScope N_checked_letters P_checked_letters (defScope st_checked_letters) := ⟨rfl, rfl, rfl, by decide +kernel, rfl, by decide +kernel, by decide +kernel⟩
abbrev e_checked_letters : DefE := ⟨"checked_letters", "checked_letters", defArgs st_checked_letters, defBody st_checked_letters, defScope st_checked_letters, [], A_checked_letters⟩
abbrev st_check_letter : Stmt := (topS 24)
abbrev A_check_letter : Addr := 262
abbrev N_check_letter : List Str := ["mould", "letter"]
abbrev P_check_letter : List Str := ["mould", "letter"]
theorem sc_check_letter : FnScope N_check_letter P_check_letter (defScope st_check_letter) := ⟨rfl, rfl, rfl, by decide +kernel, rfl, by decide +kernel, by decide +kernel⟩
abbrev e_check_letter : DefE := ⟨"check_letter", "check_letter", defArgs st_check_letter, defBody st_check_letter, defScope st_check_letter, [], A_check_letter⟩
abbrev st_Mould_init : Stmt := (inClass (topS 25) 0)
abbrev A_Mould_init : Addr := 277
abbrev N_Mould_init : List Str := ["self", "height", "width", "cells", "letters"]
abbrev P_Mould_init : List Str := ["self", "height", "width", "cells", "letters"]
theorem sc_Mould_init : FnScope N_Mould_init P_Mould_init (defScope st_Mould_init) := ⟨rfl, rfl, rfl, by decide +kernel, rfl, by decide +kernel, by decide +kernel⟩
abbrev e_Mould_init : DefE := ⟨"__init__", "Mould.__init__", defArgs st_Mould_init, defBody st_Mould_init, defScope st_Mould_init, [V.non], A_Mould_init⟩
abbrev st_Mould_letters_many : Stmt := (inClass (topS 25) 2)
abbrev A_Mould_letters_many : Addr := 292
abbrev N_Mould_letters_many : List Str := ["self"]
abbrev P_Mould_letters_many : List Str := ["self"]
theorem sc_Mould_letters_many : FnScope N_Mould_letters_many P_Mould_letters_many (defScope st_Mould_letters_many) := ⟨rfl, rfl, rfl, by decide +kernel, rfl, by decide +kernel, by decide +kernel⟩
abbrev e_Mould_letters_many : DefE := ⟨"letters_many", "Mould.letters_many", defArgs st_Mould_letters_many, defBody st_Mould_letters_many, defScope st_Mould_letters_many, [], A_Mould_letters_many⟩
abbrev st_check_ask : Stmt := (topS 29)
abbrev A_check_ask : Addr := 406
abbrev N_check_ask : List Str := ["mould", "ask", "index", "length", "number"]
abbrev P_check_ask : List Str := ["mould", "ask", "index"]
theorem sc_check_ask : FnScope N_check_ask P_check_ask (defScope st_check_ask) := ⟨rfl, rfl, rfl, by decide +kernel, rfl, by decide +kernel, by decide +kernel⟩
abbrev e_check_ask : DefE := ⟨"check_ask", "check_ask", defArgs st_check_ask, defBody st_check_ask, defScope st_check_ask, [V.int 0], A_check_ask⟩
abbrev st_check_book : Stmt := (topS 30)
abbrev A_check_book : Addr := 411
abbrev N_check_book : List Str := ["mould", "book", "at", "ask"]
abbrev P_check_book : List Str := ["mould", "book"]
theorem sc_check_book : FnScope N_check_book P_check_book (defScope st_check_book) := ⟨rfl, rfl, rfl, by decide +kernel, rfl, by decide +kernel, by decide +kernel⟩
abbrev e_check_book : DefE := ⟨"check_book", "check_book", defArgs st_check_book, defBody st_check_book, defScope st_check_book, [], A_check_book⟩
abbrev st_span_rows : Stmt := (topS 31)
abbrev A_span_rows : Addr := 416
abbrev N_span_rows : List Str := ["mould", "book", "rows", "kind", "numbers", "side", "lines", "added", "cell", "letter", "row", "_"]
abbrev P_span_rows : List Str := ["mould", "book"]
theorem sc_span_rows : FnScope N_span_rows P_span_rows (defScope st_span_rows) := ⟨rfl, rfl, rfl, by decide +kernel, rfl, by decide +kernel, by decide +kernel⟩
abbrev e_span_rows : DefE := ⟨"span_rows", "span_rows", defArgs st_span_rows, defBody st_span_rows, defScope st_span_rows, [], A_span_rows⟩
abbrev st_lots_of : Stmt := (topS 33)
abbrev A_lots_of : Addr := 421
abbrev N_lots_of : List Str := ["things", "size", "lots", "_", "lot", "thing"]
abbrev P_lots_of : List Str := ["things", "size"]
theorem sc_lots_of : FnScope N_lots_of P_lots_of (defScope st_lots_of) := ⟨rfl, rfl, rfl, by decide +kernel, rfl, by decide +kernel, by decide +kernel⟩
abbrev e_lots_of : DefE := ⟨"lots_of", "lots_of", defArgs st_lots_of, defBody st_lots_of, defScope st_lots_of, [], A_lots_of⟩
abbrev st_Weights_init : Stmt := (inClass (topS 35) 0)
abbrev A_Weights_init : Addr := 435
abbrev N_Weights_init : List Str := ["self", "row"]
abbrev P_Weights_init : List Str := ["self", "row"]
theorem sc_Weights_init : FnScope N_Weights_init P_Weights_init (defScope st_Weights_init) := ⟨rfl, rfl, rfl, by decide +kernel, rfl, by decide +kernel, by decide +kernel⟩
abbrev e_Weights_init : DefE := ⟨"__init__", "Weights.__init__", defArgs st_Weights_init, defBody st_Weights_init, defScope st_Weights_init, [], A_Weights_init⟩
abbrev st_plain_row : Stmt := (topS 36)
abbrev A_plain_row : Addr := 447
abbrev N_plain_row : List Str := ["row", "common", "number"]
abbrev P_plain_row : List Str := ["row"]
theorem sc_plain_row : FnScope N_plain_row P_plain_row (defScope st_plain_row) := ⟨rfl, rfl, rfl, by decide +kernel, rfl, by decide +kernel, by decide +kernel⟩
abbrev e_plain_row : DefE := ⟨"plain_row", "plain_row", defArgs st_plain_row, defBody st_plain_row, defScope st_plain_row, [], A_plain_row⟩
abbrev st_cleared_row : Stmt := (topS 37)
abbrev A_cleared_row : Addr := 452
abbrev N_cleared_row : List Str := ["row", "pivot", "column", "here", "there", "common", "up", "down", "one", "other"]
abbrev P_cleared_row : List Str := ["row", "pivot", "column"]
theorem sc_cleared_row : FnScope N_cleared_row P_cleared_row (defScope st_cleared_row) := ⟨rfl, rfl, rfl, by decide +kernel, rfl, by decide +kernel, by decide +kernel⟩
abbrev e_cleared_row : DefE := ⟨"cleared_row", "cleared_row", defArgs st_cleared_row, defBody st_cleared_row, defScope st_cleared_row, [], A_cleared_row⟩
abbrev st_cleared_rows : Stmt := (topS 38)
abbrev A_cleared_rows : Addr := 457
abbrev N_cleared_rows : List Str := ["rows", "pivot", "column", "row"]
abbrev P_cleared_rows : List Str := ["rows", "pivot", "column"]
theorem sc_cleared_rows : FnScope N_cleared_rows P_cleared_rows (defScope st_cleared_rows) := ⟨rfl, rfl, rfl, by decide +kernel, rfl, by decide +kernel, by decide +kernel⟩
abbrev e_cleared_rows : DefE := ⟨"cleared_rows", "cleared_rows", defArgs st_cleared_rows, defBody st_cleared_rows, defScope st_cleared_rows, [], A_cleared_rows⟩
abbrev st_echelon_pairs : Stmt := (topS 39)
abbrev A_echelon_pairs : Addr := 462
abbrev N_echelon_pairs : List Str := ["rows", "width", "left", "done", "leads", "column", "found", "at", "row", "pivot"]
abbrev P_echelon_pairs : List Str := ["rows", "width"]
theorem sc_echelon_pairs : FnScope N_echelon_pairs P_echelon_pairs (defScope st_echelon_pairs) := ⟨rfl, rfl, rfl, by decide +kernel, rfl, by decide +kernel, by decide +kernel⟩
abbrev e_echelon_pairs : DefE := ⟨"echelon_pairs", "echelon_pairs", defArgs st_echelon_pairs, defBody st_echelon_pairs, defScope st_echelon_pairs, [], A_echelon_pairs⟩
abbrev st_reduced_rows : Stmt := (topS 40)
abbrev A_reduced_rows : Addr := 467
abbrev N_reduced_rows : List Str := ["rows", "width", "out", "row", "lead", "plain", "number"]
abbrev P_reduced_rows : List Str := ["rows"]
theorem sc_reduced_rows : FnScope N_reduced_rows P_reduced_rows (defScope st_reduced_rows) := ⟨rfl, rfl, rfl, by decide +kernel, rfl, by decide +kernel, by decide +kernel⟩
abbrev e_reduced_rows : DefE := ⟨"reduced_rows", "reduced_rows", defArgs st_reduced_rows, defBody st_reduced_rows, defScope st_reduced_rows, [], A_reduced_rows⟩
abbrev st_bordered_rows : Stmt := (topS 41)
abbrev A_bordered_rows : Addr := 474
abbrev N_bordered_rows : List Str := ["rows", "many", "out", "at", "row", "border"]
abbrev P_bordered_rows : List Str := ["rows"]
theorem sc_bordered_rows : FnScope N_bordered_rows P_bordered_rows (defScope st_bordered_rows) := ⟨rfl, rfl, rfl, by decide +kernel, rfl, by decide +kernel, by decide +kernel⟩
abbrev e_bordered_rows : DefE := ⟨"bordered_rows", "bordered_rows", defArgs st_bordered_rows, defBody st_bordered_rows, defScope st_bordered_rows, [], A_bordered_rows⟩
abbrev st_weights_in : Stmt := (topS 42)
abbrev A_weights_in : Addr := 479
abbrev N_weights_in : List Str := ["pairs", "many", "row", "width", "target", "pivot", "lead", "scale", "number"]
abbrev P_weights_in : List Str := ["pairs", "many", "row"]
theorem sc_weights_in : FnScope N_weights_in P_weights_in (defScope st_weights_in) := ⟨rfl, rfl, rfl, by decide +kernel, rfl, by decide +kernel, by decide +kernel⟩
abbrev e_weights_in : DefE := ⟨"weights_in", "weights_in", defArgs st_weights_in, defBody st_weights_in, defScope st_weights_in, [], A_weights_in⟩
abbrev st_weights_for : Stmt := (topS 43)
abbrev A_weights_for : Addr := 486
abbrev N_weights_for : List Str := ["rows", "row"]
abbrev P_weights_for : List Str := ["rows", "row"]
theorem sc_weights_for : FnScope N_weights_for P_weights_for (defScope st_weights_for) := ⟨rfl, rfl, rfl, by decide +kernel, rfl, by decide +kernel, by decide +kernel⟩
abbrev e_weights_for : DefE := ⟨"weights_for", "weights_for", defArgs st_weights_for, defBody st_weights_for, defScope st_weights_for, [], A_weights_for⟩
abbrev st_free_row : Stmt := (topS 44)
abbrev A_free_row : Addr := 493
abbrev N_free_row : List Str := ["pairs", "column", "width", "scale", "row", "lead", "numbers"]
abbrev P_free_row : List Str := ["pairs", "column", "width"]
theorem sc_free_row : FnScope N_free_row P_free_row (defScope st_free_row) := ⟨rfl, rfl, rfl, by decide +kernel, rfl, by decide +kernel, by decide +kernel⟩
abbrev e_free_row : DefE := ⟨"free_row", "free_row", defArgs st_free_row, defBody st_free_row, defScope st_free_row, [], A_free_row⟩
abbrev st_hidden_basis : Stmt := (topS 45)
abbrev A_hidden_basis : Addr := 498
abbrev N_hidden_basis : List Str := ["rows", "width", "pairs", "leads", "row", "lead", "column"]
abbrev P_hidden_basis : List Str := ["rows", "width"]
theorem sc_hidden_basis : FnScope N_hidden_basis P_hidden_basis (defScope st_hidden_basis) := ⟨rfl, rfl, rfl, by decide +kernel, rfl, by decide +kernel, by decide +kernel⟩
abbrev e_hidden_basis : DefE := ⟨"hidden_basis", "hidden_basis", defArgs st_hidden_basis, defBody st_hidden_basis, defScope st_hidden_basis, [], A_hidden_basis⟩
abbrev st_Lost_init : Stmt := (inClass (topS 48) 0)
abbrev A_Lost_init : Addr := 512
abbrev N_Lost_init : List Str := ["self", "answers", "numbers"]
abbrev P_Lost_init : List Str := ["self", "answers", "numbers"]
theorem sc_Lost_init : FnScope N_Lost_init P_Lost_init (defScope st_Lost_init) := ⟨rfl, rfl, rfl, by decide +kernel, rfl, by decide +kernel, by decide +kernel⟩
abbrev e_Lost_init : DefE := ⟨"__init__", "Lost.__init__", defArgs st_Lost_init, defBody st_Lost_init, defScope st_Lost_init, [], A_Lost_init⟩
abbrev st_check_most : Stmt := (topS 49)
abbrev A_check_most : Addr := 526
abbrev N_check_most : List Str := ["most", "greatest"]
abbrev P_check_most : List Str := ["most", "greatest"]
theorem sc_check_most : FnScope N_check_most P_check_most (defScope st_check_most) := ⟨rfl, rfl, rfl, by decide +kernel, rfl, by decide +kernel, by decide +kernel⟩
abbrev e_check_most : DefE := ⟨"check_most", "check_most", defArgs st_check_most, defBody st_check_most, defScope st_check_most, [], A_check_most⟩
abbrev st_unit_row : Stmt := (topS 50)
abbrev A_unit_row : Addr := 531
abbrev N_unit_row : List Str := ["many", "letter", "at"]
abbrev P_unit_row : List Str := ["many", "letter"]
theorem sc_unit_row : FnScope N_unit_row P_unit_row (defScope st_unit_row) := ⟨rfl, rfl, rfl, by decide +kernel, rfl, by decide +kernel, by decide +kernel⟩
abbrev e_unit_row : DefE := ⟨"unit_row", "unit_row", defArgs st_unit_row, defBody st_unit_row, defScope st_unit_row, [], A_unit_row⟩
abbrev st_few_answers : Stmt := (topS 51)
abbrev A_few_answers : Addr := 538
abbrev N_few_answers : List Str := ["rows"]
abbrev P_few_answers : List Str := ["rows"]
theorem sc_few_answers : FnScope N_few_answers P_few_answers (defScope st_few_answers) := ⟨rfl, rfl, rfl, by decide +kernel, rfl, by decide +kernel, by decide +kernel⟩
abbrev e_few_answers : DefE := ⟨"few_answers", "few_answers", defArgs st_few_answers, defBody st_few_answers, defScope st_few_answers, [], A_few_answers⟩
abbrev st_first_loss : Stmt := (topS 52)
abbrev A_first_loss : Addr := 543
abbrev N_first_loss : List Str := ["rows", "many", "letter", "most", "unit", "size", "lot", "kept", "answer", "row"]
abbrev P_first_loss : List Str := ["rows", "many", "letter", "most"]
theorem sc_first_loss : FnScope N_first_loss P_first_loss (defScope st_first_loss) := ⟨rfl, rfl, rfl, by decide +kernel, rfl, by decide +kernel, by decide +kernel⟩
abbrev e_first_loss : DefE := ⟨"first_loss", "first_loss", defArgs st_first_loss, defBody st_first_loss, defScope st_first_loss, [], A_first_loss⟩
abbrev st_lost_told : Stmt := (topS 53)
abbrev A_lost_told : Addr := 548
abbrev N_lost_told : List Str := ["mould", "book", "letter", "most", "rows", "lot", "kept", "numbers", "answer", "row"]
abbrev P_lost_told : List Str := ["mould", "book", "letter", "most"]
theorem sc_lost_told : FnScope N_lost_told P_lost_told (defScope st_lost_told) := ⟨rfl, rfl, rfl, by decide +kernel, rfl, by decide +kernel, by decide +kernel⟩
abbrev e_lost_told : DefE := ⟨"lost_told", "lost_told", defArgs st_lost_told, defBody st_lost_told, defScope st_lost_told, [], A_lost_told⟩
abbrev st_lost_fault : Stmt := (topS 54)
abbrev A_lost_fault : Addr := 553
abbrev N_lost_fault : List Str := ["mould", "book", "letter", "lost", "rows", "at", "answer", "ratios", "row", "number"]
abbrev P_lost_fault : List Str := ["mould", "book", "letter", "lost"]
theorem sc_lost_fault : FnScope N_lost_fault P_lost_fault (defScope st_lost_fault) := ⟨rfl, rfl, rfl, by decide +kernel, rfl, by decide +kernel, by decide +kernel⟩
abbrev e_lost_fault : DefE := ⟨"lost_fault", "lost_fault", defArgs st_lost_fault, defBody st_lost_fault, defScope st_lost_fault, [], A_lost_fault⟩
abbrev st_row_sum : Stmt := (topS 55)
abbrev A_row_sum : Addr := 560
abbrev N_row_sum : List Str := ["row", "ratios", "total", "often", "ratio"]
abbrev P_row_sum : List Str := ["row", "ratios"]
theorem sc_row_sum : FnScope N_row_sum P_row_sum (defScope st_row_sum) := ⟨rfl, rfl, rfl, by decide +kernel, rfl, by decide +kernel, by decide +kernel⟩
abbrev e_row_sum : DefE := ⟨"row_sum", "row_sum", defArgs st_row_sum, defBody st_row_sum, defScope st_row_sum, [], A_row_sum⟩
abbrev st_least_loss : Stmt := (topS 56)
abbrev A_least_loss : Addr := 567
abbrev N_least_loss : List Str := ["mould", "book", "letter", "rows"]
abbrev P_least_loss : List Str := ["mould", "book", "letter"]
theorem sc_least_loss : FnScope N_least_loss P_least_loss (defScope st_least_loss) := ⟨rfl, rfl, rfl, by decide +kernel, rfl, by decide +kernel, by decide +kernel⟩
abbrev e_least_loss : DefE := ⟨"least_loss", "least_loss", defArgs st_least_loss, defBody st_least_loss, defScope st_least_loss, [], A_least_loss⟩
abbrev st_wrong_told : Stmt := (topS 57)
abbrev A_wrong_told : Addr := 574
abbrev N_wrong_told : List Str := ["mould", "book", "letter", "most", "rows"]
abbrev P_wrong_told : List Str := ["mould", "book", "letter", "most"]
theorem sc_wrong_told : FnScope N_wrong_told P_wrong_told (defScope st_wrong_told) := ⟨rfl, rfl, rfl, by decide +kernel, rfl, by decide +kernel, by decide +kernel⟩
abbrev e_wrong_told : DefE := ⟨"wrong_told", "wrong_told", defArgs st_wrong_told, defBody st_wrong_told, defScope st_wrong_told, [], A_wrong_told⟩
abbrev st_law_hand : Stmt := (topS 59)
abbrev A_law_hand : Addr := 581
abbrev N_law_hand : List Str := ["_law_script", "_law_total", "_law_cells_here", "_law_cell"]
abbrev P_law_hand : List Str := ["_law_script"]
theorem sc_law_hand : FnScope N_law_hand P_law_hand (defScope st_law_hand) := ⟨rfl, rfl, rfl, by decide +kernel, rfl, by decide +kernel, by decide +kernel⟩
abbrev e_law_hand : DefE := ⟨"_law_hand", "_law_hand", defArgs st_law_hand, defBody st_law_hand, defScope st_law_hand, [], A_law_hand⟩
abbrev st_law_mixed : Stmt := (topS 60)
abbrev A_law_mixed : Addr := 588
abbrev N_law_mixed : List Str := ["_law_number_here", "_law_turn", "_law_once", "_law_twice"]
abbrev P_law_mixed : List Str := ["_law_number_here", "_law_turn"]
theorem sc_law_mixed : FnScope N_law_mixed P_law_mixed (defScope st_law_mixed) := ⟨rfl, rfl, rfl, by decide +kernel, rfl, by decide +kernel, by decide +kernel⟩
abbrev e_law_mixed : DefE := ⟨"_law_mixed", "_law_mixed", defArgs st_law_mixed, defBody st_law_mixed, defScope st_law_mixed, [], A_law_mixed⟩
abbrev st_law_take : Stmt := (topS 61)
abbrev A_law_take : Addr := 595
abbrev N_law_take : List Str := ["_law_hand_here", "_law_many_here", "_law_cell", "_law_rest"]
abbrev P_law_take : List Str := ["_law_hand_here", "_law_many_here"]
theorem sc_law_take : FnScope N_law_take P_law_take (defScope st_law_take) := ⟨rfl, rfl, rfl, by decide +kernel, rfl, by decide +kernel, by decide +kernel⟩
abbrev e_law_take : DefE := ⟨"_law_take", "_law_take", defArgs st_law_take, defBody st_law_take, defScope st_law_take, [], A_law_take⟩
abbrev st_law_cells : Stmt := (topS 62)
abbrev A_law_cells : Addr := 600
abbrev N_law_cells : List Str := ["_law_hand_here", "_law_height", "_law_width", "_law_part", "_law_row", "_law_column"]
abbrev P_law_cells : List Str := ["_law_hand_here", "_law_height", "_law_width"]
theorem sc_law_cells : FnScope N_law_cells P_law_cells (defScope st_law_cells) := ⟨rfl, rfl, rfl, by decide +kernel, rfl, by decide +kernel, by decide +kernel⟩
abbrev e_law_cells : DefE := ⟨"_law_cells", "_law_cells", defArgs st_law_cells, defBody st_law_cells, defScope st_law_cells, [], A_law_cells⟩
abbrev st_law_pairs : Stmt := (topS 63)
abbrev A_law_pairs : Addr := 607
abbrev N_law_pairs : List Str := ["_law_height", "_law_width", "_law_pairs_here", "_law_row", "_law_column"]
abbrev P_law_pairs : List Str := ["_law_height", "_law_width"]
theorem sc_law_pairs : FnScope N_law_pairs P_law_pairs (defScope st_law_pairs) := ⟨rfl, rfl, rfl, by decide +kernel, rfl, by decide +kernel, by decide +kernel⟩
abbrev e_law_pairs : DefE := ⟨"_law_pairs", "_law_pairs", defArgs st_law_pairs, defBody st_law_pairs, defScope st_law_pairs, [], A_law_pairs⟩
abbrev st_law_letters : Stmt := (topS 64)
abbrev A_law_letters : Addr := 614
abbrev N_law_letters : List Str := ["_law_hand_here", "_law_many_here", "_law_shared", "_law_letters_here", "_law_fresh", "_law_at"]
abbrev P_law_letters : List Str := ["_law_hand_here", "_law_many_here"]
theorem sc_law_letters : FnScope N_law_letters P_law_letters (defScope st_law_letters) := ⟨rfl, rfl, rfl, by decide +kernel, rfl, by decide +kernel, by decide +kernel⟩
abbrev e_law_letters : DefE := ⟨"_law_letters", "_law_letters", defArgs st_law_letters, defBody st_law_letters, defScope st_law_letters, [], A_law_letters⟩
abbrev st_law_many : Stmt := (topS 65)
abbrev A_law_many : Addr := 621
abbrev N_law_many : List Str := ["_law_letters_here"]
abbrev P_law_many : List Str := ["_law_letters_here"]
theorem sc_law_many : FnScope N_law_many P_law_many (defScope st_law_many) := ⟨rfl, rfl, rfl, by decide +kernel, rfl, by decide +kernel, by decide +kernel⟩
abbrev e_law_many : DefE := ⟨"_law_many", "_law_many", defArgs st_law_many, defBody st_law_many, defScope st_law_many, [], A_law_many⟩
abbrev st_law_number : Stmt := (topS 66)
abbrev A_law_number : Addr := 628
abbrev N_law_number : List Str := ["_law_hand_here", "_law_kind"]
abbrev P_law_number : List Str := ["_law_hand_here"]
theorem sc_law_number : FnScope N_law_number P_law_number (defScope st_law_number) := ⟨rfl, rfl, rfl, by decide +kernel, rfl, by decide +kernel, by decide +kernel⟩
abbrev e_law_number : DefE := ⟨"_law_number", "_law_number", defArgs st_law_number, defBody st_law_number, defScope st_law_number, [], A_law_number⟩
abbrev st_law_ask : Stmt := (topS 67)
abbrev A_law_ask : Addr := 633
abbrev N_law_ask : List Str := ["_law_hand_here", "_law_height", "_law_width", "_law_kind", "_law_length", "_law_step"]
abbrev P_law_ask : List Str := ["_law_hand_here", "_law_height", "_law_width"]
theorem sc_law_ask : FnScope N_law_ask P_law_ask (defScope st_law_ask) := ⟨rfl, rfl, rfl, by decide +kernel, rfl, by decide +kernel, by decide +kernel⟩
abbrev e_law_ask : DefE := ⟨"_law_ask", "_law_ask", defArgs st_law_ask, defBody st_law_ask, defScope st_law_ask, [], A_law_ask⟩
abbrev st_law_book : Stmt := (topS 68)
abbrev A_law_book : Addr := 638
abbrev N_law_book : List Str := ["_law_hand_here", "_law_height", "_law_width", "_law_most", "_law_step"]
abbrev P_law_book : List Str := ["_law_hand_here", "_law_height", "_law_width", "_law_most"]
theorem sc_law_book : FnScope N_law_book P_law_book (defScope st_law_book) := ⟨rfl, rfl, rfl, by decide +kernel, rfl, by decide +kernel, by decide +kernel⟩
abbrev e_law_book : DefE := ⟨"_law_book", "_law_book", defArgs st_law_book, defBody st_law_book, defScope st_law_book, [], A_law_book⟩
abbrev st_law_ratio : Stmt := (topS 69)
abbrev A_law_ratio : Addr := 645
abbrev N_law_ratio : List Str := ["_law_top", "_law_bottom", "_law_one", "_law_other"]
abbrev P_law_ratio : List Str := ["_law_top", "_law_bottom"]
theorem sc_law_ratio : FnScope N_law_ratio P_law_ratio (defScope st_law_ratio) := ⟨rfl, rfl, rfl, by decide +kernel, rfl, by decide +kernel, by decide +kernel⟩
abbrev e_law_ratio : DefE := ⟨"_law_ratio", "_law_ratio", defArgs st_law_ratio, defBody st_law_ratio, defScope st_law_ratio, [], A_law_ratio⟩
abbrev st_law_grouping : Stmt := (topS 70)
abbrev A_law_grouping : Addr := 652
abbrev N_law_grouping : List Str := ["_law_hand_here", "_law_many_here", "_law_groups", "_law_at"]
abbrev P_law_grouping : List Str := ["_law_hand_here", "_law_many_here"]
theorem sc_law_grouping : FnScope N_law_grouping P_law_grouping (defScope st_law_grouping) := ⟨rfl, rfl, rfl, by decide +kernel, rfl, by decide +kernel, by decide +kernel⟩
abbrev e_law_grouping : DefE := ⟨"_law_grouping", "_law_grouping", defArgs st_law_grouping, defBody st_law_grouping, defScope st_law_grouping, [], A_law_grouping⟩
abbrev st_law_span : Stmt := (topS 71)
abbrev A_law_span : Addr := 659
abbrev N_law_span : List Str := ["_law_height", "_law_width", "_law_cells_here", "_law_letters_here", "_law_book_here", "_law_many_here", "_law_rows", "_law_kind", "_law_numbers", "_law_line", "_law_row", "_law_at", "_law_here", "_law_there"]
abbrev P_law_span : List Str := ["_law_height", "_law_width", "_law_cells_here", "_law_letters_here", "_law_book_here"]
theorem sc_law_span : FnScope N_law_span P_law_span (defScope st_law_span) := ⟨rfl, rfl, rfl, by decide +kernel, rfl, by decide +kernel, by decide +kernel⟩
abbrev e_law_span : DefE := ⟨"_law_span", "_law_span", defArgs st_law_span, defBody st_law_span, defScope st_law_span, [], A_law_span⟩
abbrev st_law_divisor : Stmt := (topS 72)
abbrev A_law_divisor : Addr := 666
abbrev N_law_divisor : List Str := ["_law_row", "_law_shared", "_law_number_here", "_law_one"]
abbrev P_law_divisor : List Str := ["_law_row"]
theorem sc_law_divisor : FnScope N_law_divisor P_law_divisor (defScope st_law_divisor) := ⟨rfl, rfl, rfl, by decide +kernel, rfl, by decide +kernel, by decide +kernel⟩
abbrev e_law_divisor : DefE := ⟨"_law_divisor", "_law_divisor", defArgs st_law_divisor, defBody st_law_divisor, defScope st_law_divisor, [], A_law_divisor⟩
abbrev st_law_echelon : Stmt := (topS 73)
abbrev A_law_echelon : Addr := 671
abbrev N_law_echelon : List Str := ["_law_rows", "_law_kept", "_law_row", "_law_left", "_law_lead_here", "_law_shared", "_law_number_here"]
abbrev P_law_echelon : List Str := ["_law_rows"]
theorem sc_law_echelon : FnScope N_law_echelon P_law_echelon (defScope st_law_echelon) := ⟨rfl, rfl, rfl, by decide +kernel, rfl, by decide +kernel, by decide +kernel⟩
abbrev e_law_echelon : DefE := ⟨"_law_echelon", "_law_echelon", defArgs st_law_echelon, defBody st_law_echelon, defScope st_law_echelon, [], A_law_echelon⟩
abbrev st_law_lead : Stmt := (topS 74)
abbrev A_law_lead : Addr := 678
abbrev N_law_lead : List Str := ["_law_row", "_law_at"]
abbrev P_law_lead : List Str := ["_law_row"]
theorem sc_law_lead : FnScope N_law_lead P_law_lead (defScope st_law_lead) := ⟨rfl, rfl, rfl, by decide +kernel, rfl, by decide +kernel, by decide +kernel⟩
abbrev e_law_lead : DefE := ⟨"_law_lead", "_law_lead", defArgs st_law_lead, defBody st_law_lead, defScope st_law_lead, [], A_law_lead⟩
abbrev st_law_reduce : Stmt := (topS 75)
abbrev A_law_reduce : Addr := 683
abbrev N_law_reduce : List Str := ["_law_kept", "_law_row", "_law_left", "_law_lead_here", "_law_other", "_law_here", "_law_shared", "_law_number_here", "_law_mate"]
abbrev P_law_reduce : List Str := ["_law_kept", "_law_row"]
theorem sc_law_reduce : FnScope N_law_reduce P_law_reduce (defScope st_law_reduce) := ⟨rfl, rfl, rfl, by decide +kernel, rfl, by decide +kernel, by decide +kernel⟩
abbrev e_law_reduce : DefE := ⟨"_law_reduce", "_law_reduce", defArgs st_law_reduce, defBody st_law_reduce, defScope st_law_reduce, [], A_law_reduce⟩
abbrev st_law_unit : Stmt := (topS 76)
abbrev A_law_unit : Addr := 688
abbrev N_law_unit : List Str := ["_law_many_here", "_law_at", "_law_other"]
abbrev P_law_unit : List Str := ["_law_many_here", "_law_at"]
theorem sc_law_unit : FnScope N_law_unit P_law_unit (defScope st_law_unit) := ⟨rfl, rfl, rfl, by decide +kernel, rfl, by decide +kernel, by decide +kernel⟩
abbrev e_law_unit : DefE := ⟨"_law_unit", "_law_unit", defArgs st_law_unit, defBody st_law_unit, defScope st_law_unit, [], A_law_unit⟩
abbrev st_law_sum : Stmt := (topS 77)
abbrev A_law_sum : Addr := 695
abbrev N_law_sum : List Str := ["_law_pairs_here", "_law_top", "_law_bottom", "_law_one", "_law_other"]
abbrev P_law_sum : List Str := ["_law_pairs_here"]
theorem sc_law_sum : FnScope N_law_sum P_law_sum (defScope st_law_sum) := ⟨rfl, rfl, rfl, by decide +kernel, rfl, by decide +kernel, by decide +kernel⟩
abbrev e_law_sum : DefE := ⟨"_law_sum", "_law_sum", defArgs st_law_sum, defBody st_law_sum, defScope st_law_sum, [], A_law_sum⟩
abbrev st_law_seq : Stmt := (topS 78)
abbrev A_law_seq : Addr := 702
abbrev N_law_seq : List Str := ["_law_thing"]
abbrev P_law_seq : List Str := ["_law_thing"]
theorem sc_law_seq : FnScope N_law_seq P_law_seq (defScope st_law_seq) := ⟨rfl, rfl, rfl, by decide +kernel, rfl, by decide +kernel, by decide +kernel⟩
abbrev e_law_seq : DefE := ⟨"_law_seq", "_law_seq", defArgs st_law_seq, defBody st_law_seq, defScope st_law_seq, [], A_law_seq⟩
abbrev st_law_int : Stmt := (topS 79)
abbrev A_law_int : Addr := 709
abbrev N_law_int : List Str := ["_law_thing"]
abbrev P_law_int : List Str := ["_law_thing"]
theorem sc_law_int : FnScope N_law_int P_law_int (defScope st_law_int) := ⟨rfl, rfl, rfl, by decide +kernel, rfl, by decide +kernel, by decide +kernel⟩
abbrev e_law_int : DefE := ⟨"_law_int", "_law_int", defArgs st_law_int, defBody st_law_int, defScope st_law_int, [], A_law_int⟩
abbrev st_law_is_ratio : Stmt := (topS 80)
abbrev A_law_is_ratio : Addr := 716
abbrev N_law_is_ratio : List Str := ["_law_thing"]
abbrev P_law_is_ratio : List Str := ["_law_thing"]
theorem sc_law_is_ratio : FnScope N_law_is_ratio P_law_is_ratio (defScope st_law_is_ratio) := ⟨rfl, rfl, rfl, by decide +kernel, rfl, by decide +kernel, by decide +kernel⟩
abbrev e_law_is_ratio : DefE := ⟨"_law_is_ratio", "_law_is_ratio", defArgs st_law_is_ratio, defBody st_law_is_ratio, defScope st_law_is_ratio, [], A_law_is_ratio⟩
abbrev st_law_drawn : Stmt := (topS 81)
abbrev A_law_drawn : Addr := 723
abbrev N_law_drawn : List Str := ["_law_hand_here", "_law_most", "_law_height", "_law_width", "_law_cells_here", "_law_first"]
abbrev P_law_drawn : List Str := ["_law_hand_here", "_law_most"]
theorem sc_law_drawn : FnScope N_law_drawn P_law_drawn (defScope st_law_drawn) := ⟨rfl, rfl, rfl, by decide +kernel, rfl, by decide +kernel, by decide +kernel⟩
abbrev e_law_drawn : DefE := ⟨"_law_drawn", "_law_drawn", defArgs st_law_drawn, defBody st_law_drawn, defScope st_law_drawn, [], A_law_drawn⟩
abbrev st_law_thin : Stmt := (topS 82)
abbrev A_law_thin : Addr := 730
abbrev N_law_thin : List Str := ["_law_hand_here"]
abbrev P_law_thin : List Str := ["_law_hand_here"]
theorem sc_law_thin : FnScope N_law_thin P_law_thin (defScope st_law_thin) := ⟨rfl, rfl, rfl, by decide +kernel, rfl, by decide +kernel, by decide +kernel⟩
abbrev e_law_thin : DefE := ⟨"_law_thin", "_law_thin", defArgs st_law_thin, defBody st_law_thin, defScope st_law_thin, [], A_law_thin⟩
abbrev st_law_asked : Stmt := (topS 83)
abbrev A_law_asked : Addr := 735
abbrev N_law_asked : List Str := ["_law_hand_here", "_law_height", "_law_width", "_law_most", "_law_way", "_law_groups", "_law_book_here", "_law_group", "_law_step", "_law_kind", "_law_length", "_law_mark", "_law_place"]
abbrev P_law_asked : List Str := ["_law_hand_here", "_law_height", "_law_width", "_law_most"]
theorem sc_law_asked : FnScope N_law_asked P_law_asked (defScope st_law_asked) := ⟨rfl, rfl, rfl, by decide +kernel, rfl, by decide +kernel, by decide +kernel⟩
abbrev e_law_asked : DefE := ⟨"_law_asked", "_law_asked", defArgs st_law_asked, defBody st_law_asked, defScope st_law_asked, [], A_law_asked⟩
abbrev st_law_either : Stmt := (topS 84)
abbrev A_law_either : Addr := 742
abbrev N_law_either : List Str := ["_law_hand_here", "_law_row"]
abbrev P_law_either : List Str := ["_law_hand_here", "_law_row"]
theorem sc_law_either : FnScope N_law_either P_law_either (defScope st_law_either) := ⟨rfl, rfl, rfl, by decide +kernel, rfl, by decide +kernel, by decide +kernel⟩
abbrev e_law_either : DefE := ⟨"_law_either", "_law_either", defArgs st_law_either, defBody st_law_either, defScope st_law_either, [], A_law_either⟩
abbrev st_law_built : Stmt := (topS 85)
abbrev A_law_built : Addr := 747
abbrev N_law_built : List Str := ["_law_hand_here", "_law_one", "_law_cells_here", "_law_cell"]
abbrev P_law_built : List Str := ["_law_hand_here", "_law_one"]
theorem sc_law_built : FnScope N_law_built P_law_built (defScope st_law_built) := ⟨rfl, rfl, rfl, by decide +kernel, rfl, by decide +kernel, by decide +kernel⟩
abbrev e_law_built : DefE := ⟨"_law_built", "_law_built", defArgs st_law_built, defBody st_law_built, defScope st_law_built, [], A_law_built⟩
abbrev st_law_passed : Stmt := (topS 86)
abbrev A_law_passed : Addr := 752
abbrev N_law_passed : List Str := ["_law_hand_here", "_law_book_here", "_law_ask_here"]
abbrev P_law_passed : List Str := ["_law_hand_here", "_law_book_here"]
theorem sc_law_passed : FnScope N_law_passed P_law_passed (defScope st_law_passed) := ⟨rfl, rfl, rfl, by decide +kernel, rfl, by decide +kernel, by decide +kernel⟩
abbrev e_law_passed : DefE := ⟨"_law_passed", "_law_passed", defArgs st_law_passed, defBody st_law_passed, defScope st_law_passed, [], A_law_passed⟩
abbrev st_law_exact : Stmt := (topS 87)
abbrev A_law_exact : Addr := 757
abbrev N_law_exact : List Str := ["_law_told", "_law_due", "_law_at"]
abbrev P_law_exact : List Str := ["_law_told", "_law_due"]
theorem sc_law_exact : FnScope N_law_exact P_law_exact (defScope st_law_exact) := ⟨rfl, rfl, rfl, by decide +kernel, rfl, by decide +kernel, by decide +kernel⟩
abbrev e_law_exact : DefE := ⟨"_law_exact", "_law_exact", defArgs st_law_exact, defBody st_law_exact, defScope st_law_exact, [], A_law_exact⟩
abbrev st_law_alike : Stmt := (topS 88)
abbrev A_law_alike : Addr := 764
abbrev N_law_alike : List Str := ["_law_told", "_law_due"]
abbrev P_law_alike : List Str := ["_law_told", "_law_due"]
theorem sc_law_alike : FnScope N_law_alike P_law_alike (defScope st_law_alike) := ⟨rfl, rfl, rfl, by decide +kernel, rfl, by decide +kernel, by decide +kernel⟩
abbrev e_law_alike : DefE := ⟨"_law_alike", "_law_alike", defArgs st_law_alike, defBody st_law_alike, defScope st_law_alike, [], A_law_alike⟩
abbrev st_law_lots : Stmt := (topS 89)
abbrev A_law_lots : Addr := 771
abbrev N_law_lots : List Str := ["_law_many_here", "_law_most", "_law_row", "_law_lots_here", "_law_size", "_law_longer", "_law_lot", "_law_at"]
abbrev P_law_lots : List Str := ["_law_many_here", "_law_most"]
theorem sc_law_lots : FnScope N_law_lots P_law_lots (defScope st_law_lots) := ⟨rfl, rfl, rfl, by decide +kernel, rfl, by decide +kernel, by decide +kernel⟩
abbrev e_law_lots : DefE := ⟨"_law_lots", "_law_lots", defArgs st_law_lots, defBody st_law_lots, defScope st_law_lots, [], A_law_lots⟩
abbrev st_law_tells : Stmt := (topS 90)
abbrev A_law_tells : Addr := 778
abbrev N_law_tells : List Str := ["_law_rows", "_law_many_here", "_law_letter"]
abbrev P_law_tells : List Str := ["_law_rows", "_law_many_here", "_law_letter"]
theorem sc_law_tells : FnScope N_law_tells P_law_tells (defScope st_law_tells) := ⟨rfl, rfl, rfl, by decide +kernel, rfl, by decide +kernel, by decide +kernel⟩
abbrev e_law_tells : DefE := ⟨"_law_tells", "_law_tells", defArgs st_law_tells, defBody st_law_tells, defScope st_law_tells, [], A_law_tells⟩
abbrev st_law_without : Stmt := (topS 91)
abbrev A_law_without : Addr := 783
abbrev N_law_without : List Str := ["_law_rows", "_law_lot", "_law_at"]
abbrev P_law_without : List Str := ["_law_rows", "_law_lot"]
theorem sc_law_without : FnScope N_law_without P_law_without (defScope st_law_without) := ⟨rfl, rfl, rfl, by decide +kernel, rfl, by decide +kernel, by decide +kernel⟩
abbrev e_law_without : DefE := ⟨"_law_without", "_law_without", defArgs st_law_without, defBody st_law_without, defScope st_law_without, [], A_law_without⟩
abbrev st_law_wholes : Stmt := (topS 92)
abbrev A_law_wholes : Addr := 788
abbrev N_law_wholes : List Str := ["_law_numbers", "_law_many_here", "_law_one"]
abbrev P_law_wholes : List Str := ["_law_numbers", "_law_many_here"]
theorem sc_law_wholes : FnScope N_law_wholes P_law_wholes (defScope st_law_wholes) := ⟨rfl, rfl, rfl, by decide +kernel, rfl, by decide +kernel, by decide +kernel⟩
abbrev e_law_wholes : DefE := ⟨"_law_wholes", "_law_wholes", defArgs st_law_wholes, defBody st_law_wholes, defScope st_law_wholes, [], A_law_wholes⟩
abbrev st_law_made : Stmt := (topS 93)
abbrev A_law_made : Addr := 793
abbrev N_law_made : List Str := ["_law_row", "_law_numbers", "_law_at"]
abbrev P_law_made : List Str := ["_law_row", "_law_numbers"]
theorem sc_law_made : FnScope N_law_made P_law_made (defScope st_law_made) := ⟨rfl, rfl, rfl, by decide +kernel, rfl, by decide +kernel, by decide +kernel⟩
abbrev e_law_made : DefE := ⟨"_law_made", "_law_made", defArgs st_law_made, defBody st_law_made, defScope st_law_made, [], A_law_made⟩
abbrev st_law_loss : Stmt := (topS 94)
abbrev A_law_loss : Addr := 800
abbrev N_law_loss : List Str := ["_law_rows", "_law_many_here", "_law_letter", "_law_lot"]
abbrev P_law_loss : List Str := ["_law_rows", "_law_many_here", "_law_letter"]
theorem sc_law_loss : FnScope N_law_loss P_law_loss (defScope st_law_loss) := ⟨rfl, rfl, rfl, by decide +kernel, rfl, by decide +kernel, by decide +kernel⟩
abbrev e_law_loss : DefE := ⟨"_law_loss", "_law_loss", defArgs st_law_loss, defBody st_law_loss, defScope st_law_loss, [], A_law_loss⟩
abbrev st_law_lost_word : Stmt := (topS 95)
abbrev A_law_lost_word : Addr := 805
abbrev N_law_lost_word : List Str := ["_law_rows", "_law_many_here", "_law_letter", "_law_answers", "_law_numbers", "_law_at", "_law_plain", "_law_one", "_law_k"]
abbrev P_law_lost_word : List Str := ["_law_rows", "_law_many_here", "_law_letter", "_law_answers", "_law_numbers"]
theorem sc_law_lost_word : FnScope N_law_lost_word P_law_lost_word (defScope st_law_lost_word) := ⟨rfl, rfl, rfl, by decide +kernel, rfl, by decide +kernel, by decide +kernel⟩
abbrev e_law_lost_word : DefE := ⟨"_law_lost_word", "_law_lost_word", defArgs st_law_lost_word, defBody st_law_lost_word, defScope st_law_lost_word, [], A_law_lost_word⟩
abbrev st_law_lost_fits : Stmt := (topS 96)
abbrev A_law_lost_fits : Addr := 810
abbrev N_law_lost_fits : List Str := ["_law_told", "_law_rows", "_law_many_here", "_law_letter", "_law_lot", "_law_most", "_law_at"]
abbrev P_law_lost_fits : List Str := ["_law_told", "_law_rows", "_law_many_here", "_law_letter", "_law_lot", "_law_most"]
theorem sc_law_lost_fits : FnScope N_law_lost_fits P_law_lost_fits (defScope st_law_lost_fits) := ⟨rfl, rfl, rfl, by decide +kernel, rfl, by decide +kernel, by decide +kernel⟩
abbrev e_law_lost_fits : DefE := ⟨"_law_lost_fits", "_law_lost_fits", defArgs st_law_lost_fits, defBody st_law_lost_fits, defScope st_law_lost_fits, [], A_law_lost_fits⟩
abbrev st_law_judged : Stmt := (topS 97)
abbrev A_law_judged : Addr := 815
abbrev N_law_judged : List Str := ["_law_hand_here", "_law_mould", "_law_asks", "_law_letter", "_law_told", "_law_rows", "_law_halves", "_law_mixed_here", "_law_more", "_law_other", "_law_one", "_law_at"]
abbrev P_law_judged : List Str := ["_law_hand_here", "_law_mould", "_law_asks", "_law_letter", "_law_told", "_law_rows"]
theorem sc_law_judged : FnScope N_law_judged P_law_judged (defScope st_law_judged) := ⟨rfl, rfl, rfl, by decide +kernel, rfl, by decide +kernel, by decide +kernel⟩
abbrev e_law_judged : DefE := ⟨"_law_judged", "_law_judged", defArgs st_law_judged, defBody st_law_judged, defScope st_law_judged, [], A_law_judged⟩
abbrev st_law_changed : Stmt := (topS 98)
abbrev A_law_changed : Addr := 820
abbrev N_law_changed : List Str := ["_law_hand_here", "_law_lot", "_law_numbers", "_law_rows", "_law_many_here", "_law_way", "_law_answers", "_law_told", "_law_one"]
abbrev P_law_changed : List Str := ["_law_hand_here", "_law_lot", "_law_numbers", "_law_rows", "_law_many_here"]
theorem sc_law_changed : FnScope N_law_changed P_law_changed (defScope st_law_changed) := ⟨rfl, rfl, rfl, by decide +kernel, rfl, by decide +kernel, by decide +kernel⟩
abbrev e_law_changed : DefE := ⟨"_law_changed", "_law_changed", defArgs st_law_changed, defBody st_law_changed, defScope st_law_changed, [], A_law_changed⟩
abbrev st_law_most_refused : Stmt := (topS 99)
abbrev A_law_most_refused : Addr := 827
abbrev N_law_most_refused : List Str := ["_law_mould", "_law_asks", "_law_letter", "_law_odd", "_law_wrong", "_law_told", "e"]
abbrev P_law_most_refused : List Str := ["_law_mould", "_law_asks", "_law_letter", "_law_odd", "_law_wrong"]
theorem sc_law_most_refused : FnScope N_law_most_refused P_law_most_refused (defScope st_law_most_refused) := ⟨rfl, rfl, rfl, by decide +kernel, rfl, by decide +kernel, by decide +kernel⟩
abbrev e_law_most_refused : DefE := ⟨"_law_most_refused", "_law_most_refused", defArgs st_law_most_refused, defBody st_law_most_refused, defScope st_law_most_refused, [], A_law_most_refused⟩
abbrev st_law : Stmt := (topS 100)
abbrev A_law : Addr := 834
abbrev N_law : List Str := ["_law_script", "_law_hand_here", "_law_one", "_law_many_here", "_law_book_here", "_law_rows", "_law_mould", "_law_asks", "_law_letter", "_law_lot", "_law_most", "_law_told", "_law_wrong", "_law_odd", "_law_hidden", "_law_shown", "_law_answers", "_law_numbers", "_law_pair", "_law_due", "_law_more"]
abbrev P_law : List Str := ["_law_script"]
theorem sc_law : FnScope N_law P_law (defScope st_law) := ⟨rfl, rfl, rfl, by decide +kernel, rfl, by decide +kernel, by decide +kernel⟩
abbrev e_law : DefE := ⟨"law", "law", defArgs st_law, defBody st_law, defScope st_law, [], A_law⟩
def fnL : List DefE := ([e_BadRatio_init, e_BadMould_init, e_BadLetter_init, e_BadAsk_init, e_BadMost_init, e_TooMany_init, e_is_sequence, e_is_whole, e_common_divisor, e_make_ratio, e_is_ratio, e_as_ratio, e_ratio_plus, e_ratio_times, e_is_couple, e_checked_cells, e_checked_letters, e_check_letter, e_Mould_init, e_Mould_letters_many] : List (DefE)) ++ ([e_check_ask, e_check_book, e_span_rows, e_lots_of, e_Weights_init, e_plain_row, e_cleared_row, e_cleared_rows, e_echelon_pairs, e_reduced_rows, e_bordered_rows, e_weights_in, e_weights_for, e_free_row, e_hidden_basis, e_Lost_init, e_check_most, e_unit_row, e_few_answers, e_first_loss] : List (DefE)) ++ ([e_lost_told, e_lost_fault, e_row_sum, e_least_loss, e_wrong_told, e_law_hand, e_law_mixed, e_law_take, e_law_cells, e_law_pairs, e_law_letters, e_law_many, e_law_number, e_law_ask, e_law_book, e_law_ratio, e_law_grouping, e_law_span, e_law_divisor, e_law_echelon] : List (DefE)) ++ ([e_law_lead, e_law_reduce, e_law_unit, e_law_sum, e_law_seq, e_law_int, e_law_is_ratio, e_law_drawn, e_law_thin, e_law_asked, e_law_either, e_law_built, e_law_passed, e_law_exact, e_law_alike, e_law_lots, e_law_tells, e_law_without, e_law_wholes, e_law_made] : List (DefE)) ++ ([e_law_loss, e_law_lost_word, e_law_lost_fits, e_law_judged, e_law_changed, e_law_most_refused, e_law] : List (DefE))
def gloL : List (Str × Addr) := ([("is_sequence", A_is_sequence), ("is_whole", A_is_whole), ("common_divisor", A_common_divisor), ("make_ratio", A_make_ratio), ("is_ratio", A_is_ratio), ("as_ratio", A_as_ratio), ("ratio_plus", A_ratio_plus), ("ratio_times", A_ratio_times), ("is_couple", A_is_couple), ("checked_cells", A_checked_cells), ("checked_letters", A_checked_letters), ("check_letter", A_check_letter), ("check_ask", A_check_ask), ("check_book", A_check_book), ("span_rows", A_span_rows), ("lots_of", A_lots_of), ("plain_row", A_plain_row), ("cleared_row", A_cleared_row), ("cleared_rows", A_cleared_rows), ("echelon_pairs", A_echelon_pairs)] : List (Str × Addr)) ++ ([("reduced_rows", A_reduced_rows), ("bordered_rows", A_bordered_rows), ("weights_in", A_weights_in), ("weights_for", A_weights_for), ("free_row", A_free_row), ("hidden_basis", A_hidden_basis), ("check_most", A_check_most), ("unit_row", A_unit_row), ("few_answers", A_few_answers), ("first_loss", A_first_loss), ("lost_told", A_lost_told), ("lost_fault", A_lost_fault), ("row_sum", A_row_sum), ("least_loss", A_least_loss), ("wrong_told", A_wrong_told), ("_law_hand", A_law_hand), ("_law_mixed", A_law_mixed), ("_law_take", A_law_take), ("_law_cells", A_law_cells), ("_law_pairs", A_law_pairs)] : List (Str × Addr)) ++ ([("_law_letters", A_law_letters), ("_law_many", A_law_many), ("_law_number", A_law_number), ("_law_ask", A_law_ask), ("_law_book", A_law_book), ("_law_ratio", A_law_ratio), ("_law_grouping", A_law_grouping), ("_law_span", A_law_span), ("_law_divisor", A_law_divisor), ("_law_echelon", A_law_echelon), ("_law_lead", A_law_lead), ("_law_reduce", A_law_reduce), ("_law_unit", A_law_unit), ("_law_sum", A_law_sum), ("_law_seq", A_law_seq), ("_law_int", A_law_int), ("_law_is_ratio", A_law_is_ratio), ("_law_drawn", A_law_drawn), ("_law_thin", A_law_thin), ("_law_asked", A_law_asked)] : List (Str × Addr)) ++ ([("_law_either", A_law_either), ("_law_built", A_law_built), ("_law_passed", A_law_passed), ("_law_exact", A_law_exact), ("_law_alike", A_law_alike), ("_law_lots", A_law_lots), ("_law_tells", A_law_tells), ("_law_without", A_law_without), ("_law_wholes", A_law_wholes), ("_law_made", A_law_made), ("_law_loss", A_law_loss), ("_law_lost_word", A_law_lost_word), ("_law_lost_fits", A_law_lost_fits), ("_law_judged", A_law_judged), ("_law_changed", A_law_changed), ("_law_most_refused", A_law_most_refused), ("law", A_law), ("SlopeError", 59), ("BadRatio", 79), ("BadMould", 98)] : List (Str × Addr)) ++ ([("BadLetter", 117), ("BadAsk", 136), ("BadMost", 155), ("TooMany", 174), ("Mould", 394), ("Weights", 438), ("Lost", 515)] : List (Str × Addr))
def freL : List Str := (["abs", "bool", "enumerate", "int", "isinstance", "len", "list", "max", "min", "range", "str", "sum", "tuple", "zip"] : List (Str))
def intL : List (Str × Int) := ([("MOST", 6), ("GREATEST", 1000000000), ("MOST_ASKS", 8), ("MOST_ANSWERS", 12)] : List (Str × Int))
abbrev C_SlopeError : Addr := 59
abbrev C_BadRatio : Addr := 79
abbrev C_BadMould : Addr := 98
abbrev C_BadLetter : Addr := 117
abbrev C_BadAsk : Addr := 136
abbrev C_BadMost : Addr := 155
abbrev C_TooMany : Addr := 174
abbrev C_Mould : Addr := 394
abbrev C_Weights : Addr := 438
abbrev C_Lost : Addr := 515
/-- what the top leaves -/
structure Tx (K : PySem.W.Frag) (mg : Str → Option Value) : Prop where
  fn : ∀ (i : Nat) (d : DefE), fnL[i]? = some d → FunD K d.name d.qual d.params d.body d.scope d.dfl [] d.ad (fdAt K d.ad)
  glo : ∀ (i : Nat) (x : Str) (a : Addr), gloL[i]? = some (x, a) → mg x = some (.ref a)
  fre : ∀ (i : Nat) (x : Str), freL[i]? = some x → mg x = none
  int : ∀ (i : Nat) (x : Str) (n : Int), intL[i]? = some (x, n) → ∃ t, mg x = some (.int n t)
  gcd : mg "gcd" = some (.builtin "math.gcd")
  lcm : mg "lcm" = some (.builtin "math.lcm")
  kM : Cls K C_Mould
  kL : Cls K C_Lost
  kW : Cls K C_Weights
  mM : Mk K C_Mould A_Mould_init
  mL : Mk K C_Lost A_Lost_init
  mW : Mk K C_Weights A_Weights_init
  nM : ∀ f ∈ (["height", "width", "cells", "letters"] : List Str), NoAttr K C_Mould f
  nL : ∀ f ∈ (["answers", "numbers"] : List Str), NoAttr K C_Lost f
  nW : ∀ f ∈ (["row"] : List Str), NoAttr K C_Weights f
  pM : PropOf K C_Mould "letters_many" 293 A_Mould_letters_many
  bX : OexC K C_BadMost
  bI : PySem.W.findIn K (.ref C_BadMost) "__init__" = some (some (.ref A_BadMost_init))
  bT : PySem.W.typeIn K (.ref A_BadMost_init) = some (.type "function")
  bN : PySem.W.findIn K (.ref C_BadMost) "most" = some none
  bF : XfC K C_BadMost
  bK : PySem.W.keepIn K (.ref C_BadMost) = true
  bE : PySem.W.exmOne K (.ref C_BadMost) (.ref C_BadMost) = some true
  sR : PySem.W.readsIn K C_SlopeError (.type "type") = true
  sV : PySem.W.findCls K (.ref C_SlopeError) (.type "type") "__init__" = some (.val (.builtin "ValueError.__init__"))
section
variable {K : PySem.W.Frag} {mg : Str → Option Value}
theorem fn_BadRatio_init (T : Tx K mg) : FunD K e_BadRatio_init.name e_BadRatio_init.qual (defArgs st_BadRatio_init) (defBody st_BadRatio_init) (defScope st_BadRatio_init) e_BadRatio_init.dfl [] A_BadRatio_init (fdAt K A_BadRatio_init) := T.fn 0 _ rfl
theorem b_BadRatio_init (T : Tx K mg) : Binds K (fdAt K A_BadRatio_init) P_BadRatio_init [] := (fn_BadRatio_init T).bindsN fun _ _ _ _ _ _ us hl => match us, hl with | [_, _], _ => rfl
theorem fn_BadMould_init (T : Tx K mg) : FunD K e_BadMould_init.name e_BadMould_init.qual (defArgs st_BadMould_init) (defBody st_BadMould_init) (defScope st_BadMould_init) e_BadMould_init.dfl [] A_BadMould_init (fdAt K A_BadMould_init) := T.fn 1 _ rfl
theorem b_BadMould_init (T : Tx K mg) : Binds K (fdAt K A_BadMould_init) P_BadMould_init [] := (fn_BadMould_init T).bindsN fun _ _ _ _ _ _ us hl => match us, hl with | [_, _, _], _ => rfl
theorem fn_BadLetter_init (T : Tx K mg) : FunD K e_BadLetter_init.name e_BadLetter_init.qual (defArgs st_BadLetter_init) (defBody st_BadLetter_init) (defScope st_BadLetter_init) e_BadLetter_init.dfl [] A_BadLetter_init (fdAt K A_BadLetter_init) := T.fn 2 _ rfl
theorem b_BadLetter_init (T : Tx K mg) : Binds K (fdAt K A_BadLetter_init) P_BadLetter_init [] := (fn_BadLetter_init T).bindsN fun _ _ _ _ _ _ us hl => match us, hl with | [_, _], _ => rfl
theorem fn_BadAsk_init (T : Tx K mg) : FunD K e_BadAsk_init.name e_BadAsk_init.qual (defArgs st_BadAsk_init) (defBody st_BadAsk_init) (defScope st_BadAsk_init) e_BadAsk_init.dfl [] A_BadAsk_init (fdAt K A_BadAsk_init) := T.fn 3 _ rfl
theorem b_BadAsk_init (T : Tx K mg) : Binds K (fdAt K A_BadAsk_init) P_BadAsk_init [] := (fn_BadAsk_init T).bindsN fun _ _ _ _ _ _ us hl => match us, hl with | [_, _, _], _ => rfl
theorem fn_BadMost_init (T : Tx K mg) : FunD K e_BadMost_init.name e_BadMost_init.qual (defArgs st_BadMost_init) (defBody st_BadMost_init) (defScope st_BadMost_init) e_BadMost_init.dfl [] A_BadMost_init (fdAt K A_BadMost_init) := T.fn 4 _ rfl
theorem b_BadMost_init (T : Tx K mg) : Binds K (fdAt K A_BadMost_init) P_BadMost_init [] := (fn_BadMost_init T).bindsN fun _ _ _ _ _ _ us hl => match us, hl with | [_, _], _ => rfl
theorem fn_TooMany_init (T : Tx K mg) : FunD K e_TooMany_init.name e_TooMany_init.qual (defArgs st_TooMany_init) (defBody st_TooMany_init) (defScope st_TooMany_init) e_TooMany_init.dfl [] A_TooMany_init (fdAt K A_TooMany_init) := T.fn 5 _ rfl
theorem b_TooMany_init (T : Tx K mg) : Binds K (fdAt K A_TooMany_init) P_TooMany_init [] := (fn_TooMany_init T).bindsN fun _ _ _ _ _ _ us hl => match us, hl with | [_, _], _ => rfl
theorem fn_is_sequence (T : Tx K mg) : FunD K e_is_sequence.name e_is_sequence.qual (defArgs st_is_sequence) (defBody st_is_sequence) (defScope st_is_sequence) e_is_sequence.dfl [] A_is_sequence (fdAt K A_is_sequence) := T.fn 6 _ rfl
theorem g_is_sequence (T : Tx K mg) : mg "is_sequence" = some (.ref A_is_sequence) := T.glo 0 _ _ rfl
theorem b_is_sequence (T : Tx K mg) : Binds K (fdAt K A_is_sequence) P_is_sequence [] := (fn_is_sequence T).bindsN fun _ _ _ _ _ _ us hl => match us, hl with | [_], _ => rfl
theorem fn_is_whole (T : Tx K mg) : FunD K e_is_whole.name e_is_whole.qual (defArgs st_is_whole) (defBody st_is_whole) (defScope st_is_whole) e_is_whole.dfl [] A_is_whole (fdAt K A_is_whole) := T.fn 7 _ rfl
theorem g_is_whole (T : Tx K mg) : mg "is_whole" = some (.ref A_is_whole) := T.glo 1 _ _ rfl
theorem b0_is_whole (T : Tx K mg) : Binds K (fdAt K A_is_whole) P_is_whole [] := by
  obtain ⟨ds, h1, h2⟩ := (fn_is_whole T).binds1 (ps := P_is_whole) 3 2 (by decide) (by decide) fun T0 kV doc pm an cdv ct us its hl hi => match us, hl, its, hi with | [_, _, _], _, [_, _], _ => ⟨_, rfl, rfl⟩
  cases h1
  exact h2
theorem b1_is_whole (T : Tx K mg) : ∃ ds, Vals (e_is_whole.dfl.drop 1) ds ∧ Binds K (fdAt K A_is_whole) P_is_whole ds := (fn_is_whole T).binds1 2 1 (by decide) (by decide) fun T0 kV doc pm an cdv ct us its hl hi => match us, hl, its, hi with | [_, _], _, [_, _], _ => ⟨_, rfl, rfl⟩
theorem b2_is_whole (T : Tx K mg) : ∃ ds, Vals (e_is_whole.dfl.drop 0) ds ∧ Binds K (fdAt K A_is_whole) P_is_whole ds := (fn_is_whole T).binds1 1 0 (by decide) (by decide) fun T0 kV doc pm an cdv ct us its hl hi => match us, hl, its, hi with | [_], _, [_, _], _ => ⟨_, rfl, rfl⟩
theorem fn_common_divisor (T : Tx K mg) : FunD K e_common_divisor.name e_common_divisor.qual (defArgs st_common_divisor) (defBody st_common_divisor) (defScope st_common_divisor) e_common_divisor.dfl [] A_common_divisor (fdAt K A_common_divisor) := T.fn 8 _ rfl
theorem g_common_divisor (T : Tx K mg) : mg "common_divisor" = some (.ref A_common_divisor) := T.glo 2 _ _ rfl
theorem b_common_divisor (T : Tx K mg) : Binds K (fdAt K A_common_divisor) P_common_divisor [] := (fn_common_divisor T).bindsN fun _ _ _ _ _ _ us hl => match us, hl with | [_, _], _ => rfl
theorem fn_make_ratio (T : Tx K mg) : FunD K e_make_ratio.name e_make_ratio.qual (defArgs st_make_ratio) (defBody st_make_ratio) (defScope st_make_ratio) e_make_ratio.dfl [] A_make_ratio (fdAt K A_make_ratio) := T.fn 9 _ rfl
theorem g_make_ratio (T : Tx K mg) : mg "make_ratio" = some (.ref A_make_ratio) := T.glo 3 _ _ rfl
theorem b0_make_ratio (T : Tx K mg) : Binds K (fdAt K A_make_ratio) P_make_ratio [] := by
  obtain ⟨ds, h1, h2⟩ := (fn_make_ratio T).binds1 (ps := P_make_ratio) 2 1 (by decide) (by decide) fun T0 kV doc pm an cdv ct us its hl hi => match us, hl, its, hi with | [_, _], _, [_], _ => ⟨_, rfl, rfl⟩
  cases h1
  exact h2
theorem b1_make_ratio (T : Tx K mg) : ∃ ds, Vals (e_make_ratio.dfl.drop 0) ds ∧ Binds K (fdAt K A_make_ratio) P_make_ratio ds := (fn_make_ratio T).binds1 1 0 (by decide) (by decide) fun T0 kV doc pm an cdv ct us its hl hi => match us, hl, its, hi with | [_], _, [_], _ => ⟨_, rfl, rfl⟩
theorem fn_is_ratio (T : Tx K mg) : FunD K e_is_ratio.name e_is_ratio.qual (defArgs st_is_ratio) (defBody st_is_ratio) (defScope st_is_ratio) e_is_ratio.dfl [] A_is_ratio (fdAt K A_is_ratio) := T.fn 10 _ rfl
theorem g_is_ratio (T : Tx K mg) : mg "is_ratio" = some (.ref A_is_ratio) := T.glo 4 _ _ rfl
theorem b_is_ratio (T : Tx K mg) : Binds K (fdAt K A_is_ratio) P_is_ratio [] := (fn_is_ratio T).bindsN fun _ _ _ _ _ _ us hl => match us, hl with | [_], _ => rfl
theorem fn_as_ratio (T : Tx K mg) : FunD K e_as_ratio.name e_as_ratio.qual (defArgs st_as_ratio) (defBody st_as_ratio) (defScope st_as_ratio) e_as_ratio.dfl [] A_as_ratio (fdAt K A_as_ratio) := T.fn 11 _ rfl
theorem g_as_ratio (T : Tx K mg) : mg "as_ratio" = some (.ref A_as_ratio) := T.glo 5 _ _ rfl
theorem b_as_ratio (T : Tx K mg) : Binds K (fdAt K A_as_ratio) P_as_ratio [] := (fn_as_ratio T).bindsN fun _ _ _ _ _ _ us hl => match us, hl with | [_], _ => rfl
theorem fn_ratio_plus (T : Tx K mg) : FunD K e_ratio_plus.name e_ratio_plus.qual (defArgs st_ratio_plus) (defBody st_ratio_plus) (defScope st_ratio_plus) e_ratio_plus.dfl [] A_ratio_plus (fdAt K A_ratio_plus) := T.fn 12 _ rfl
theorem g_ratio_plus (T : Tx K mg) : mg "ratio_plus" = some (.ref A_ratio_plus) := T.glo 6 _ _ rfl
theorem b_ratio_plus (T : Tx K mg) : Binds K (fdAt K A_ratio_plus) P_ratio_plus [] := (fn_ratio_plus T).bindsN fun _ _ _ _ _ _ us hl => match us, hl with | [_, _], _ => rfl
theorem fn_ratio_times (T : Tx K mg) : FunD K e_ratio_times.name e_ratio_times.qual (defArgs st_ratio_times) (defBody st_ratio_times) (defScope st_ratio_times) e_ratio_times.dfl [] A_ratio_times (fdAt K A_ratio_times) := T.fn 13 _ rfl
theorem g_ratio_times (T : Tx K mg) : mg "ratio_times" = some (.ref A_ratio_times) := T.glo 7 _ _ rfl
theorem b_ratio_times (T : Tx K mg) : Binds K (fdAt K A_ratio_times) P_ratio_times [] := (fn_ratio_times T).bindsN fun _ _ _ _ _ _ us hl => match us, hl with | [_, _], _ => rfl
theorem fn_is_couple (T : Tx K mg) : FunD K e_is_couple.name e_is_couple.qual (defArgs st_is_couple) (defBody st_is_couple) (defScope st_is_couple) e_is_couple.dfl [] A_is_couple (fdAt K A_is_couple) := T.fn 14 _ rfl
theorem g_is_couple (T : Tx K mg) : mg "is_couple" = some (.ref A_is_couple) := T.glo 8 _ _ rfl
theorem b_is_couple (T : Tx K mg) : Binds K (fdAt K A_is_couple) P_is_couple [] := (fn_is_couple T).bindsN fun _ _ _ _ _ _ us hl => match us, hl with | [_, _, _], _ => rfl
theorem fn_checked_cells (T : Tx K mg) : FunD K e_checked_cells.name e_checked_cells.qual (defArgs st_checked_cells) (defBody st_checked_cells) (defScope st_checked_cells) e_checked_cells.dfl [] A_checked_cells (fdAt K A_checked_cells) := T.fn 15 _ rfl
theorem g_checked_cells (T : Tx K mg) : mg "checked_cells" = some (.ref A_checked_cells) := T.glo 9 _ _ rfl
theorem b_checked_cells (T : Tx K mg) : Binds K (fdAt K A_checked_cells) P_checked_cells [] := (fn_checked_cells T).bindsN fun _ _ _ _ _ _ us hl => match us, hl with | [_, _, _], _ => rfl
theorem fn_checked_letters (T : Tx K mg) : FunD K e_checked_letters.name e_checked_letters.qual (defArgs st_checked_letters) (defBody st_checked_letters) (defScope st_checked_letters) e_checked_letters.dfl [] A_checked_letters (fdAt K A_checked_letters) := T.fn 16 _ rfl
theorem g_checked_letters (T : Tx K mg) : mg "checked_letters" = some (.ref A_checked_letters) := T.glo 10 _ _ rfl
theorem b_checked_letters (T : Tx K mg) : Binds K (fdAt K A_checked_letters) P_checked_letters [] := (fn_checked_letters T).bindsN fun _ _ _ _ _ _ us hl => match us, hl with | [_, _], _ => rfl
theorem fn_check_letter (T : Tx K mg) : FunD K e_check_letter.name e_check_letter.qual (defArgs st_check_letter) (defBody st_check_letter) (defScope st_check_letter) e_check_letter.dfl [] A_check_letter (fdAt K A_check_letter) := T.fn 17 _ rfl
theorem g_check_letter (T : Tx K mg) : mg "check_letter" = some (.ref A_check_letter) := T.glo 11 _ _ rfl
theorem b_check_letter (T : Tx K mg) : Binds K (fdAt K A_check_letter) P_check_letter [] := (fn_check_letter T).bindsN fun _ _ _ _ _ _ us hl => match us, hl with | [_, _], _ => rfl
theorem fn_Mould_init (T : Tx K mg) : FunD K e_Mould_init.name e_Mould_init.qual (defArgs st_Mould_init) (defBody st_Mould_init) (defScope st_Mould_init) e_Mould_init.dfl [] A_Mould_init (fdAt K A_Mould_init) := T.fn 18 _ rfl
theorem b0_Mould_init (T : Tx K mg) : Binds K (fdAt K A_Mould_init) P_Mould_init [] := by
  obtain ⟨ds, h1, h2⟩ := (fn_Mould_init T).binds1 (ps := P_Mould_init) 5 1 (by decide) (by decide) fun T0 kV doc pm an cdv ct us its hl hi => match us, hl, its, hi with | [_, _, _, _, _], _, [_], _ => ⟨_, rfl, rfl⟩
  cases h1
  exact h2
theorem b1_Mould_init (T : Tx K mg) : ∃ ds, Vals (e_Mould_init.dfl.drop 0) ds ∧ Binds K (fdAt K A_Mould_init) P_Mould_init ds := (fn_Mould_init T).binds1 4 0 (by decide) (by decide) fun T0 kV doc pm an cdv ct us its hl hi => match us, hl, its, hi with | [_, _, _, _], _, [_], _ => ⟨_, rfl, rfl⟩
theorem fn_Mould_letters_many (T : Tx K mg) : FunD K e_Mould_letters_many.name e_Mould_letters_many.qual (defArgs st_Mould_letters_many) (defBody st_Mould_letters_many) (defScope st_Mould_letters_many) e_Mould_letters_many.dfl [] A_Mould_letters_many (fdAt K A_Mould_letters_many) := T.fn 19 _ rfl
theorem b_Mould_letters_many (T : Tx K mg) : Binds K (fdAt K A_Mould_letters_many) P_Mould_letters_many [] := (fn_Mould_letters_many T).bindsN fun _ _ _ _ _ _ us hl => match us, hl with | [_], _ => rfl
theorem fn_check_ask (T : Tx K mg) : FunD K e_check_ask.name e_check_ask.qual (defArgs st_check_ask) (defBody st_check_ask) (defScope st_check_ask) e_check_ask.dfl [] A_check_ask (fdAt K A_check_ask) := T.fn 20 _ rfl
theorem g_check_ask (T : Tx K mg) : mg "check_ask" = some (.ref A_check_ask) := T.glo 12 _ _ rfl
theorem b0_check_ask (T : Tx K mg) : Binds K (fdAt K A_check_ask) P_check_ask [] := by
  obtain ⟨ds, h1, h2⟩ := (fn_check_ask T).binds1 (ps := P_check_ask) 3 1 (by decide) (by decide) fun T0 kV doc pm an cdv ct us its hl hi => match us, hl, its, hi with | [_, _, _], _, [_], _ => ⟨_, rfl, rfl⟩
  cases h1
  exact h2
theorem b1_check_ask (T : Tx K mg) : ∃ ds, Vals (e_check_ask.dfl.drop 0) ds ∧ Binds K (fdAt K A_check_ask) P_check_ask ds := (fn_check_ask T).binds1 2 0 (by decide) (by decide) fun T0 kV doc pm an cdv ct us its hl hi => match us, hl, its, hi with | [_, _], _, [_], _ => ⟨_, rfl, rfl⟩
theorem fn_check_book (T : Tx K mg) : FunD K e_check_book.name e_check_book.qual (defArgs st_check_book) (defBody st_check_book) (defScope st_check_book) e_check_book.dfl [] A_check_book (fdAt K A_check_book) := T.fn 21 _ rfl
theorem g_check_book (T : Tx K mg) : mg "check_book" = some (.ref A_check_book) := T.glo 13 _ _ rfl
theorem b_check_book (T : Tx K mg) : Binds K (fdAt K A_check_book) P_check_book [] := (fn_check_book T).bindsN fun _ _ _ _ _ _ us hl => match us, hl with | [_, _], _ => rfl
theorem fn_span_rows (T : Tx K mg) : FunD K e_span_rows.name e_span_rows.qual (defArgs st_span_rows) (defBody st_span_rows) (defScope st_span_rows) e_span_rows.dfl [] A_span_rows (fdAt K A_span_rows) := T.fn 22 _ rfl
theorem g_span_rows (T : Tx K mg) : mg "span_rows" = some (.ref A_span_rows) := T.glo 14 _ _ rfl
theorem b_span_rows (T : Tx K mg) : Binds K (fdAt K A_span_rows) P_span_rows [] := (fn_span_rows T).bindsN fun _ _ _ _ _ _ us hl => match us, hl with | [_, _], _ => rfl
theorem fn_lots_of (T : Tx K mg) : FunD K e_lots_of.name e_lots_of.qual (defArgs st_lots_of) (defBody st_lots_of) (defScope st_lots_of) e_lots_of.dfl [] A_lots_of (fdAt K A_lots_of) := T.fn 23 _ rfl
theorem g_lots_of (T : Tx K mg) : mg "lots_of" = some (.ref A_lots_of) := T.glo 15 _ _ rfl
theorem b_lots_of (T : Tx K mg) : Binds K (fdAt K A_lots_of) P_lots_of [] := (fn_lots_of T).bindsN fun _ _ _ _ _ _ us hl => match us, hl with | [_, _], _ => rfl
theorem fn_Weights_init (T : Tx K mg) : FunD K e_Weights_init.name e_Weights_init.qual (defArgs st_Weights_init) (defBody st_Weights_init) (defScope st_Weights_init) e_Weights_init.dfl [] A_Weights_init (fdAt K A_Weights_init) := T.fn 24 _ rfl
theorem b_Weights_init (T : Tx K mg) : Binds K (fdAt K A_Weights_init) P_Weights_init [] := (fn_Weights_init T).bindsN fun _ _ _ _ _ _ us hl => match us, hl with | [_, _], _ => rfl
theorem fn_plain_row (T : Tx K mg) : FunD K e_plain_row.name e_plain_row.qual (defArgs st_plain_row) (defBody st_plain_row) (defScope st_plain_row) e_plain_row.dfl [] A_plain_row (fdAt K A_plain_row) := T.fn 25 _ rfl
theorem g_plain_row (T : Tx K mg) : mg "plain_row" = some (.ref A_plain_row) := T.glo 16 _ _ rfl
theorem b_plain_row (T : Tx K mg) : Binds K (fdAt K A_plain_row) P_plain_row [] := (fn_plain_row T).bindsN fun _ _ _ _ _ _ us hl => match us, hl with | [_], _ => rfl
theorem fn_cleared_row (T : Tx K mg) : FunD K e_cleared_row.name e_cleared_row.qual (defArgs st_cleared_row) (defBody st_cleared_row) (defScope st_cleared_row) e_cleared_row.dfl [] A_cleared_row (fdAt K A_cleared_row) := T.fn 26 _ rfl
theorem g_cleared_row (T : Tx K mg) : mg "cleared_row" = some (.ref A_cleared_row) := T.glo 17 _ _ rfl
theorem b_cleared_row (T : Tx K mg) : Binds K (fdAt K A_cleared_row) P_cleared_row [] := (fn_cleared_row T).bindsN fun _ _ _ _ _ _ us hl => match us, hl with | [_, _, _], _ => rfl
theorem fn_cleared_rows (T : Tx K mg) : FunD K e_cleared_rows.name e_cleared_rows.qual (defArgs st_cleared_rows) (defBody st_cleared_rows) (defScope st_cleared_rows) e_cleared_rows.dfl [] A_cleared_rows (fdAt K A_cleared_rows) := T.fn 27 _ rfl
theorem g_cleared_rows (T : Tx K mg) : mg "cleared_rows" = some (.ref A_cleared_rows) := T.glo 18 _ _ rfl
theorem b_cleared_rows (T : Tx K mg) : Binds K (fdAt K A_cleared_rows) P_cleared_rows [] := (fn_cleared_rows T).bindsN fun _ _ _ _ _ _ us hl => match us, hl with | [_, _, _], _ => rfl
theorem fn_echelon_pairs (T : Tx K mg) : FunD K e_echelon_pairs.name e_echelon_pairs.qual (defArgs st_echelon_pairs) (defBody st_echelon_pairs) (defScope st_echelon_pairs) e_echelon_pairs.dfl [] A_echelon_pairs (fdAt K A_echelon_pairs) := T.fn 28 _ rfl
theorem g_echelon_pairs (T : Tx K mg) : mg "echelon_pairs" = some (.ref A_echelon_pairs) := T.glo 19 _ _ rfl
theorem b_echelon_pairs (T : Tx K mg) : Binds K (fdAt K A_echelon_pairs) P_echelon_pairs [] := (fn_echelon_pairs T).bindsN fun _ _ _ _ _ _ us hl => match us, hl with | [_, _], _ => rfl
theorem fn_reduced_rows (T : Tx K mg) : FunD K e_reduced_rows.name e_reduced_rows.qual (defArgs st_reduced_rows) (defBody st_reduced_rows) (defScope st_reduced_rows) e_reduced_rows.dfl [] A_reduced_rows (fdAt K A_reduced_rows) := T.fn 29 _ rfl
theorem g_reduced_rows (T : Tx K mg) : mg "reduced_rows" = some (.ref A_reduced_rows) := T.glo 20 _ _ rfl
theorem b_reduced_rows (T : Tx K mg) : Binds K (fdAt K A_reduced_rows) P_reduced_rows [] := (fn_reduced_rows T).bindsN fun _ _ _ _ _ _ us hl => match us, hl with | [_], _ => rfl
theorem fn_bordered_rows (T : Tx K mg) : FunD K e_bordered_rows.name e_bordered_rows.qual (defArgs st_bordered_rows) (defBody st_bordered_rows) (defScope st_bordered_rows) e_bordered_rows.dfl [] A_bordered_rows (fdAt K A_bordered_rows) := T.fn 30 _ rfl
theorem g_bordered_rows (T : Tx K mg) : mg "bordered_rows" = some (.ref A_bordered_rows) := T.glo 21 _ _ rfl
theorem b_bordered_rows (T : Tx K mg) : Binds K (fdAt K A_bordered_rows) P_bordered_rows [] := (fn_bordered_rows T).bindsN fun _ _ _ _ _ _ us hl => match us, hl with | [_], _ => rfl
theorem fn_weights_in (T : Tx K mg) : FunD K e_weights_in.name e_weights_in.qual (defArgs st_weights_in) (defBody st_weights_in) (defScope st_weights_in) e_weights_in.dfl [] A_weights_in (fdAt K A_weights_in) := T.fn 31 _ rfl
theorem g_weights_in (T : Tx K mg) : mg "weights_in" = some (.ref A_weights_in) := T.glo 22 _ _ rfl
theorem b_weights_in (T : Tx K mg) : Binds K (fdAt K A_weights_in) P_weights_in [] := (fn_weights_in T).bindsN fun _ _ _ _ _ _ us hl => match us, hl with | [_, _, _], _ => rfl
theorem fn_weights_for (T : Tx K mg) : FunD K e_weights_for.name e_weights_for.qual (defArgs st_weights_for) (defBody st_weights_for) (defScope st_weights_for) e_weights_for.dfl [] A_weights_for (fdAt K A_weights_for) := T.fn 32 _ rfl
theorem g_weights_for (T : Tx K mg) : mg "weights_for" = some (.ref A_weights_for) := T.glo 23 _ _ rfl
theorem b_weights_for (T : Tx K mg) : Binds K (fdAt K A_weights_for) P_weights_for [] := (fn_weights_for T).bindsN fun _ _ _ _ _ _ us hl => match us, hl with | [_, _], _ => rfl
theorem fn_free_row (T : Tx K mg) : FunD K e_free_row.name e_free_row.qual (defArgs st_free_row) (defBody st_free_row) (defScope st_free_row) e_free_row.dfl [] A_free_row (fdAt K A_free_row) := T.fn 33 _ rfl
theorem g_free_row (T : Tx K mg) : mg "free_row" = some (.ref A_free_row) := T.glo 24 _ _ rfl
theorem b_free_row (T : Tx K mg) : Binds K (fdAt K A_free_row) P_free_row [] := (fn_free_row T).bindsN fun _ _ _ _ _ _ us hl => match us, hl with | [_, _, _], _ => rfl
theorem fn_hidden_basis (T : Tx K mg) : FunD K e_hidden_basis.name e_hidden_basis.qual (defArgs st_hidden_basis) (defBody st_hidden_basis) (defScope st_hidden_basis) e_hidden_basis.dfl [] A_hidden_basis (fdAt K A_hidden_basis) := T.fn 34 _ rfl
theorem g_hidden_basis (T : Tx K mg) : mg "hidden_basis" = some (.ref A_hidden_basis) := T.glo 25 _ _ rfl
theorem b_hidden_basis (T : Tx K mg) : Binds K (fdAt K A_hidden_basis) P_hidden_basis [] := (fn_hidden_basis T).bindsN fun _ _ _ _ _ _ us hl => match us, hl with | [_, _], _ => rfl
theorem fn_Lost_init (T : Tx K mg) : FunD K e_Lost_init.name e_Lost_init.qual (defArgs st_Lost_init) (defBody st_Lost_init) (defScope st_Lost_init) e_Lost_init.dfl [] A_Lost_init (fdAt K A_Lost_init) := T.fn 35 _ rfl
theorem b_Lost_init (T : Tx K mg) : Binds K (fdAt K A_Lost_init) P_Lost_init [] := (fn_Lost_init T).bindsN fun _ _ _ _ _ _ us hl => match us, hl with | [_, _, _], _ => rfl
theorem fn_check_most (T : Tx K mg) : FunD K e_check_most.name e_check_most.qual (defArgs st_check_most) (defBody st_check_most) (defScope st_check_most) e_check_most.dfl [] A_check_most (fdAt K A_check_most) := T.fn 36 _ rfl
theorem g_check_most (T : Tx K mg) : mg "check_most" = some (.ref A_check_most) := T.glo 26 _ _ rfl
theorem b_check_most (T : Tx K mg) : Binds K (fdAt K A_check_most) P_check_most [] := (fn_check_most T).bindsN fun _ _ _ _ _ _ us hl => match us, hl with | [_, _], _ => rfl
theorem fn_unit_row (T : Tx K mg) : FunD K e_unit_row.name e_unit_row.qual (defArgs st_unit_row) (defBody st_unit_row) (defScope st_unit_row) e_unit_row.dfl [] A_unit_row (fdAt K A_unit_row) := T.fn 37 _ rfl
theorem g_unit_row (T : Tx K mg) : mg "unit_row" = some (.ref A_unit_row) := T.glo 27 _ _ rfl
theorem b_unit_row (T : Tx K mg) : Binds K (fdAt K A_unit_row) P_unit_row [] := (fn_unit_row T).bindsN fun _ _ _ _ _ _ us hl => match us, hl with | [_, _], _ => rfl
theorem fn_few_answers (T : Tx K mg) : FunD K e_few_answers.name e_few_answers.qual (defArgs st_few_answers) (defBody st_few_answers) (defScope st_few_answers) e_few_answers.dfl [] A_few_answers (fdAt K A_few_answers) := T.fn 38 _ rfl
theorem g_few_answers (T : Tx K mg) : mg "few_answers" = some (.ref A_few_answers) := T.glo 28 _ _ rfl
theorem b_few_answers (T : Tx K mg) : Binds K (fdAt K A_few_answers) P_few_answers [] := (fn_few_answers T).bindsN fun _ _ _ _ _ _ us hl => match us, hl with | [_], _ => rfl
theorem fn_first_loss (T : Tx K mg) : FunD K e_first_loss.name e_first_loss.qual (defArgs st_first_loss) (defBody st_first_loss) (defScope st_first_loss) e_first_loss.dfl [] A_first_loss (fdAt K A_first_loss) := T.fn 39 _ rfl
theorem g_first_loss (T : Tx K mg) : mg "first_loss" = some (.ref A_first_loss) := T.glo 29 _ _ rfl
theorem b_first_loss (T : Tx K mg) : Binds K (fdAt K A_first_loss) P_first_loss [] := (fn_first_loss T).bindsN fun _ _ _ _ _ _ us hl => match us, hl with | [_, _, _, _], _ => rfl
theorem fn_lost_told (T : Tx K mg) : FunD K e_lost_told.name e_lost_told.qual (defArgs st_lost_told) (defBody st_lost_told) (defScope st_lost_told) e_lost_told.dfl [] A_lost_told (fdAt K A_lost_told) := T.fn 40 _ rfl
theorem g_lost_told (T : Tx K mg) : mg "lost_told" = some (.ref A_lost_told) := T.glo 30 _ _ rfl
theorem b_lost_told (T : Tx K mg) : Binds K (fdAt K A_lost_told) P_lost_told [] := (fn_lost_told T).bindsN fun _ _ _ _ _ _ us hl => match us, hl with | [_, _, _, _], _ => rfl
theorem fn_lost_fault (T : Tx K mg) : FunD K e_lost_fault.name e_lost_fault.qual (defArgs st_lost_fault) (defBody st_lost_fault) (defScope st_lost_fault) e_lost_fault.dfl [] A_lost_fault (fdAt K A_lost_fault) := T.fn 41 _ rfl
theorem g_lost_fault (T : Tx K mg) : mg "lost_fault" = some (.ref A_lost_fault) := T.glo 31 _ _ rfl
theorem b_lost_fault (T : Tx K mg) : Binds K (fdAt K A_lost_fault) P_lost_fault [] := (fn_lost_fault T).bindsN fun _ _ _ _ _ _ us hl => match us, hl with | [_, _, _, _], _ => rfl
theorem fn_row_sum (T : Tx K mg) : FunD K e_row_sum.name e_row_sum.qual (defArgs st_row_sum) (defBody st_row_sum) (defScope st_row_sum) e_row_sum.dfl [] A_row_sum (fdAt K A_row_sum) := T.fn 42 _ rfl
theorem g_row_sum (T : Tx K mg) : mg "row_sum" = some (.ref A_row_sum) := T.glo 32 _ _ rfl
theorem b_row_sum (T : Tx K mg) : Binds K (fdAt K A_row_sum) P_row_sum [] := (fn_row_sum T).bindsN fun _ _ _ _ _ _ us hl => match us, hl with | [_, _], _ => rfl
theorem fn_least_loss (T : Tx K mg) : FunD K e_least_loss.name e_least_loss.qual (defArgs st_least_loss) (defBody st_least_loss) (defScope st_least_loss) e_least_loss.dfl [] A_least_loss (fdAt K A_least_loss) := T.fn 43 _ rfl
theorem g_least_loss (T : Tx K mg) : mg "least_loss" = some (.ref A_least_loss) := T.glo 33 _ _ rfl
theorem b_least_loss (T : Tx K mg) : Binds K (fdAt K A_least_loss) P_least_loss [] := (fn_least_loss T).bindsN fun _ _ _ _ _ _ us hl => match us, hl with | [_, _, _], _ => rfl
theorem fn_wrong_told (T : Tx K mg) : FunD K e_wrong_told.name e_wrong_told.qual (defArgs st_wrong_told) (defBody st_wrong_told) (defScope st_wrong_told) e_wrong_told.dfl [] A_wrong_told (fdAt K A_wrong_told) := T.fn 44 _ rfl
theorem g_wrong_told (T : Tx K mg) : mg "wrong_told" = some (.ref A_wrong_told) := T.glo 34 _ _ rfl
theorem b_wrong_told (T : Tx K mg) : Binds K (fdAt K A_wrong_told) P_wrong_told [] := (fn_wrong_told T).bindsN fun _ _ _ _ _ _ us hl => match us, hl with | [_, _, _, _], _ => rfl
theorem fn_law_hand (T : Tx K mg) : FunD K e_law_hand.name e_law_hand.qual (defArgs st_law_hand) (defBody st_law_hand) (defScope st_law_hand) e_law_hand.dfl [] A_law_hand (fdAt K A_law_hand) := T.fn 45 _ rfl
theorem g_law_hand (T : Tx K mg) : mg "_law_hand" = some (.ref A_law_hand) := T.glo 35 _ _ rfl
theorem b_law_hand (T : Tx K mg) : Binds K (fdAt K A_law_hand) P_law_hand [] := (fn_law_hand T).bindsN fun _ _ _ _ _ _ us hl => match us, hl with | [_], _ => rfl
theorem fn_law_mixed (T : Tx K mg) : FunD K e_law_mixed.name e_law_mixed.qual (defArgs st_law_mixed) (defBody st_law_mixed) (defScope st_law_mixed) e_law_mixed.dfl [] A_law_mixed (fdAt K A_law_mixed) := T.fn 46 _ rfl
theorem g_law_mixed (T : Tx K mg) : mg "_law_mixed" = some (.ref A_law_mixed) := T.glo 36 _ _ rfl
theorem b_law_mixed (T : Tx K mg) : Binds K (fdAt K A_law_mixed) P_law_mixed [] := (fn_law_mixed T).bindsN fun _ _ _ _ _ _ us hl => match us, hl with | [_, _], _ => rfl
theorem fn_law_take (T : Tx K mg) : FunD K e_law_take.name e_law_take.qual (defArgs st_law_take) (defBody st_law_take) (defScope st_law_take) e_law_take.dfl [] A_law_take (fdAt K A_law_take) := T.fn 47 _ rfl
theorem g_law_take (T : Tx K mg) : mg "_law_take" = some (.ref A_law_take) := T.glo 37 _ _ rfl
theorem b_law_take (T : Tx K mg) : Binds K (fdAt K A_law_take) P_law_take [] := (fn_law_take T).bindsN fun _ _ _ _ _ _ us hl => match us, hl with | [_, _], _ => rfl
theorem fn_law_cells (T : Tx K mg) : FunD K e_law_cells.name e_law_cells.qual (defArgs st_law_cells) (defBody st_law_cells) (defScope st_law_cells) e_law_cells.dfl [] A_law_cells (fdAt K A_law_cells) := T.fn 48 _ rfl
theorem g_law_cells (T : Tx K mg) : mg "_law_cells" = some (.ref A_law_cells) := T.glo 38 _ _ rfl
theorem b_law_cells (T : Tx K mg) : Binds K (fdAt K A_law_cells) P_law_cells [] := (fn_law_cells T).bindsN fun _ _ _ _ _ _ us hl => match us, hl with | [_, _, _], _ => rfl
theorem fn_law_pairs (T : Tx K mg) : FunD K e_law_pairs.name e_law_pairs.qual (defArgs st_law_pairs) (defBody st_law_pairs) (defScope st_law_pairs) e_law_pairs.dfl [] A_law_pairs (fdAt K A_law_pairs) := T.fn 49 _ rfl
theorem g_law_pairs (T : Tx K mg) : mg "_law_pairs" = some (.ref A_law_pairs) := T.glo 39 _ _ rfl
theorem b_law_pairs (T : Tx K mg) : Binds K (fdAt K A_law_pairs) P_law_pairs [] := (fn_law_pairs T).bindsN fun _ _ _ _ _ _ us hl => match us, hl with | [_, _], _ => rfl
theorem fn_law_letters (T : Tx K mg) : FunD K e_law_letters.name e_law_letters.qual (defArgs st_law_letters) (defBody st_law_letters) (defScope st_law_letters) e_law_letters.dfl [] A_law_letters (fdAt K A_law_letters) := T.fn 50 _ rfl
theorem g_law_letters (T : Tx K mg) : mg "_law_letters" = some (.ref A_law_letters) := T.glo 40 _ _ rfl
theorem b_law_letters (T : Tx K mg) : Binds K (fdAt K A_law_letters) P_law_letters [] := (fn_law_letters T).bindsN fun _ _ _ _ _ _ us hl => match us, hl with | [_, _], _ => rfl
theorem fn_law_many (T : Tx K mg) : FunD K e_law_many.name e_law_many.qual (defArgs st_law_many) (defBody st_law_many) (defScope st_law_many) e_law_many.dfl [] A_law_many (fdAt K A_law_many) := T.fn 51 _ rfl
theorem g_law_many (T : Tx K mg) : mg "_law_many" = some (.ref A_law_many) := T.glo 41 _ _ rfl
theorem b_law_many (T : Tx K mg) : Binds K (fdAt K A_law_many) P_law_many [] := (fn_law_many T).bindsN fun _ _ _ _ _ _ us hl => match us, hl with | [_], _ => rfl
theorem fn_law_number (T : Tx K mg) : FunD K e_law_number.name e_law_number.qual (defArgs st_law_number) (defBody st_law_number) (defScope st_law_number) e_law_number.dfl [] A_law_number (fdAt K A_law_number) := T.fn 52 _ rfl
theorem g_law_number (T : Tx K mg) : mg "_law_number" = some (.ref A_law_number) := T.glo 42 _ _ rfl
theorem b_law_number (T : Tx K mg) : Binds K (fdAt K A_law_number) P_law_number [] := (fn_law_number T).bindsN fun _ _ _ _ _ _ us hl => match us, hl with | [_], _ => rfl
theorem fn_law_ask (T : Tx K mg) : FunD K e_law_ask.name e_law_ask.qual (defArgs st_law_ask) (defBody st_law_ask) (defScope st_law_ask) e_law_ask.dfl [] A_law_ask (fdAt K A_law_ask) := T.fn 53 _ rfl
theorem g_law_ask (T : Tx K mg) : mg "_law_ask" = some (.ref A_law_ask) := T.glo 43 _ _ rfl
theorem b_law_ask (T : Tx K mg) : Binds K (fdAt K A_law_ask) P_law_ask [] := (fn_law_ask T).bindsN fun _ _ _ _ _ _ us hl => match us, hl with | [_, _, _], _ => rfl
theorem fn_law_book (T : Tx K mg) : FunD K e_law_book.name e_law_book.qual (defArgs st_law_book) (defBody st_law_book) (defScope st_law_book) e_law_book.dfl [] A_law_book (fdAt K A_law_book) := T.fn 54 _ rfl
theorem g_law_book (T : Tx K mg) : mg "_law_book" = some (.ref A_law_book) := T.glo 44 _ _ rfl
theorem b_law_book (T : Tx K mg) : Binds K (fdAt K A_law_book) P_law_book [] := (fn_law_book T).bindsN fun _ _ _ _ _ _ us hl => match us, hl with | [_, _, _, _], _ => rfl
theorem fn_law_ratio (T : Tx K mg) : FunD K e_law_ratio.name e_law_ratio.qual (defArgs st_law_ratio) (defBody st_law_ratio) (defScope st_law_ratio) e_law_ratio.dfl [] A_law_ratio (fdAt K A_law_ratio) := T.fn 55 _ rfl
theorem g_law_ratio (T : Tx K mg) : mg "_law_ratio" = some (.ref A_law_ratio) := T.glo 45 _ _ rfl
theorem b_law_ratio (T : Tx K mg) : Binds K (fdAt K A_law_ratio) P_law_ratio [] := (fn_law_ratio T).bindsN fun _ _ _ _ _ _ us hl => match us, hl with | [_, _], _ => rfl
theorem fn_law_grouping (T : Tx K mg) : FunD K e_law_grouping.name e_law_grouping.qual (defArgs st_law_grouping) (defBody st_law_grouping) (defScope st_law_grouping) e_law_grouping.dfl [] A_law_grouping (fdAt K A_law_grouping) := T.fn 56 _ rfl
theorem g_law_grouping (T : Tx K mg) : mg "_law_grouping" = some (.ref A_law_grouping) := T.glo 46 _ _ rfl
theorem b_law_grouping (T : Tx K mg) : Binds K (fdAt K A_law_grouping) P_law_grouping [] := (fn_law_grouping T).bindsN fun _ _ _ _ _ _ us hl => match us, hl with | [_, _], _ => rfl
theorem fn_law_span (T : Tx K mg) : FunD K e_law_span.name e_law_span.qual (defArgs st_law_span) (defBody st_law_span) (defScope st_law_span) e_law_span.dfl [] A_law_span (fdAt K A_law_span) := T.fn 57 _ rfl
theorem g_law_span (T : Tx K mg) : mg "_law_span" = some (.ref A_law_span) := T.glo 47 _ _ rfl
theorem b_law_span (T : Tx K mg) : Binds K (fdAt K A_law_span) P_law_span [] := (fn_law_span T).bindsN fun _ _ _ _ _ _ us hl => match us, hl with | [_, _, _, _, _], _ => rfl
theorem fn_law_divisor (T : Tx K mg) : FunD K e_law_divisor.name e_law_divisor.qual (defArgs st_law_divisor) (defBody st_law_divisor) (defScope st_law_divisor) e_law_divisor.dfl [] A_law_divisor (fdAt K A_law_divisor) := T.fn 58 _ rfl
theorem g_law_divisor (T : Tx K mg) : mg "_law_divisor" = some (.ref A_law_divisor) := T.glo 48 _ _ rfl
theorem b_law_divisor (T : Tx K mg) : Binds K (fdAt K A_law_divisor) P_law_divisor [] := (fn_law_divisor T).bindsN fun _ _ _ _ _ _ us hl => match us, hl with | [_], _ => rfl
theorem fn_law_echelon (T : Tx K mg) : FunD K e_law_echelon.name e_law_echelon.qual (defArgs st_law_echelon) (defBody st_law_echelon) (defScope st_law_echelon) e_law_echelon.dfl [] A_law_echelon (fdAt K A_law_echelon) := T.fn 59 _ rfl
theorem g_law_echelon (T : Tx K mg) : mg "_law_echelon" = some (.ref A_law_echelon) := T.glo 49 _ _ rfl
theorem b_law_echelon (T : Tx K mg) : Binds K (fdAt K A_law_echelon) P_law_echelon [] := (fn_law_echelon T).bindsN fun _ _ _ _ _ _ us hl => match us, hl with | [_], _ => rfl
theorem fn_law_lead (T : Tx K mg) : FunD K e_law_lead.name e_law_lead.qual (defArgs st_law_lead) (defBody st_law_lead) (defScope st_law_lead) e_law_lead.dfl [] A_law_lead (fdAt K A_law_lead) := T.fn 60 _ rfl
theorem g_law_lead (T : Tx K mg) : mg "_law_lead" = some (.ref A_law_lead) := T.glo 50 _ _ rfl
theorem b_law_lead (T : Tx K mg) : Binds K (fdAt K A_law_lead) P_law_lead [] := (fn_law_lead T).bindsN fun _ _ _ _ _ _ us hl => match us, hl with | [_], _ => rfl
theorem fn_law_reduce (T : Tx K mg) : FunD K e_law_reduce.name e_law_reduce.qual (defArgs st_law_reduce) (defBody st_law_reduce) (defScope st_law_reduce) e_law_reduce.dfl [] A_law_reduce (fdAt K A_law_reduce) := T.fn 61 _ rfl
theorem g_law_reduce (T : Tx K mg) : mg "_law_reduce" = some (.ref A_law_reduce) := T.glo 51 _ _ rfl
theorem b_law_reduce (T : Tx K mg) : Binds K (fdAt K A_law_reduce) P_law_reduce [] := (fn_law_reduce T).bindsN fun _ _ _ _ _ _ us hl => match us, hl with | [_, _], _ => rfl
theorem fn_law_unit (T : Tx K mg) : FunD K e_law_unit.name e_law_unit.qual (defArgs st_law_unit) (defBody st_law_unit) (defScope st_law_unit) e_law_unit.dfl [] A_law_unit (fdAt K A_law_unit) := T.fn 62 _ rfl
theorem g_law_unit (T : Tx K mg) : mg "_law_unit" = some (.ref A_law_unit) := T.glo 52 _ _ rfl
theorem b_law_unit (T : Tx K mg) : Binds K (fdAt K A_law_unit) P_law_unit [] := (fn_law_unit T).bindsN fun _ _ _ _ _ _ us hl => match us, hl with | [_, _], _ => rfl
theorem fn_law_sum (T : Tx K mg) : FunD K e_law_sum.name e_law_sum.qual (defArgs st_law_sum) (defBody st_law_sum) (defScope st_law_sum) e_law_sum.dfl [] A_law_sum (fdAt K A_law_sum) := T.fn 63 _ rfl
theorem g_law_sum (T : Tx K mg) : mg "_law_sum" = some (.ref A_law_sum) := T.glo 53 _ _ rfl
theorem b_law_sum (T : Tx K mg) : Binds K (fdAt K A_law_sum) P_law_sum [] := (fn_law_sum T).bindsN fun _ _ _ _ _ _ us hl => match us, hl with | [_], _ => rfl
theorem fn_law_seq (T : Tx K mg) : FunD K e_law_seq.name e_law_seq.qual (defArgs st_law_seq) (defBody st_law_seq) (defScope st_law_seq) e_law_seq.dfl [] A_law_seq (fdAt K A_law_seq) := T.fn 64 _ rfl
theorem g_law_seq (T : Tx K mg) : mg "_law_seq" = some (.ref A_law_seq) := T.glo 54 _ _ rfl
theorem b_law_seq (T : Tx K mg) : Binds K (fdAt K A_law_seq) P_law_seq [] := (fn_law_seq T).bindsN fun _ _ _ _ _ _ us hl => match us, hl with | [_], _ => rfl
theorem fn_law_int (T : Tx K mg) : FunD K e_law_int.name e_law_int.qual (defArgs st_law_int) (defBody st_law_int) (defScope st_law_int) e_law_int.dfl [] A_law_int (fdAt K A_law_int) := T.fn 65 _ rfl
theorem g_law_int (T : Tx K mg) : mg "_law_int" = some (.ref A_law_int) := T.glo 55 _ _ rfl
theorem b_law_int (T : Tx K mg) : Binds K (fdAt K A_law_int) P_law_int [] := (fn_law_int T).bindsN fun _ _ _ _ _ _ us hl => match us, hl with | [_], _ => rfl
theorem fn_law_is_ratio (T : Tx K mg) : FunD K e_law_is_ratio.name e_law_is_ratio.qual (defArgs st_law_is_ratio) (defBody st_law_is_ratio) (defScope st_law_is_ratio) e_law_is_ratio.dfl [] A_law_is_ratio (fdAt K A_law_is_ratio) := T.fn 66 _ rfl
theorem g_law_is_ratio (T : Tx K mg) : mg "_law_is_ratio" = some (.ref A_law_is_ratio) := T.glo 56 _ _ rfl
theorem b_law_is_ratio (T : Tx K mg) : Binds K (fdAt K A_law_is_ratio) P_law_is_ratio [] := (fn_law_is_ratio T).bindsN fun _ _ _ _ _ _ us hl => match us, hl with | [_], _ => rfl
theorem fn_law_drawn (T : Tx K mg) : FunD K e_law_drawn.name e_law_drawn.qual (defArgs st_law_drawn) (defBody st_law_drawn) (defScope st_law_drawn) e_law_drawn.dfl [] A_law_drawn (fdAt K A_law_drawn) := T.fn 67 _ rfl
theorem g_law_drawn (T : Tx K mg) : mg "_law_drawn" = some (.ref A_law_drawn) := T.glo 57 _ _ rfl
theorem b_law_drawn (T : Tx K mg) : Binds K (fdAt K A_law_drawn) P_law_drawn [] := (fn_law_drawn T).bindsN fun _ _ _ _ _ _ us hl => match us, hl with | [_, _], _ => rfl
theorem fn_law_thin (T : Tx K mg) : FunD K e_law_thin.name e_law_thin.qual (defArgs st_law_thin) (defBody st_law_thin) (defScope st_law_thin) e_law_thin.dfl [] A_law_thin (fdAt K A_law_thin) := T.fn 68 _ rfl
theorem g_law_thin (T : Tx K mg) : mg "_law_thin" = some (.ref A_law_thin) := T.glo 58 _ _ rfl
theorem b_law_thin (T : Tx K mg) : Binds K (fdAt K A_law_thin) P_law_thin [] := (fn_law_thin T).bindsN fun _ _ _ _ _ _ us hl => match us, hl with | [_], _ => rfl
theorem fn_law_asked (T : Tx K mg) : FunD K e_law_asked.name e_law_asked.qual (defArgs st_law_asked) (defBody st_law_asked) (defScope st_law_asked) e_law_asked.dfl [] A_law_asked (fdAt K A_law_asked) := T.fn 69 _ rfl
theorem g_law_asked (T : Tx K mg) : mg "_law_asked" = some (.ref A_law_asked) := T.glo 59 _ _ rfl
theorem b_law_asked (T : Tx K mg) : Binds K (fdAt K A_law_asked) P_law_asked [] := (fn_law_asked T).bindsN fun _ _ _ _ _ _ us hl => match us, hl with | [_, _, _, _], _ => rfl
theorem fn_law_either (T : Tx K mg) : FunD K e_law_either.name e_law_either.qual (defArgs st_law_either) (defBody st_law_either) (defScope st_law_either) e_law_either.dfl [] A_law_either (fdAt K A_law_either) := T.fn 70 _ rfl
theorem g_law_either (T : Tx K mg) : mg "_law_either" = some (.ref A_law_either) := T.glo 60 _ _ rfl
theorem b_law_either (T : Tx K mg) : Binds K (fdAt K A_law_either) P_law_either [] := (fn_law_either T).bindsN fun _ _ _ _ _ _ us hl => match us, hl with | [_, _], _ => rfl
theorem fn_law_built (T : Tx K mg) : FunD K e_law_built.name e_law_built.qual (defArgs st_law_built) (defBody st_law_built) (defScope st_law_built) e_law_built.dfl [] A_law_built (fdAt K A_law_built) := T.fn 71 _ rfl
theorem g_law_built (T : Tx K mg) : mg "_law_built" = some (.ref A_law_built) := T.glo 61 _ _ rfl
theorem b_law_built (T : Tx K mg) : Binds K (fdAt K A_law_built) P_law_built [] := (fn_law_built T).bindsN fun _ _ _ _ _ _ us hl => match us, hl with | [_, _], _ => rfl
theorem fn_law_passed (T : Tx K mg) : FunD K e_law_passed.name e_law_passed.qual (defArgs st_law_passed) (defBody st_law_passed) (defScope st_law_passed) e_law_passed.dfl [] A_law_passed (fdAt K A_law_passed) := T.fn 72 _ rfl
theorem g_law_passed (T : Tx K mg) : mg "_law_passed" = some (.ref A_law_passed) := T.glo 62 _ _ rfl
theorem b_law_passed (T : Tx K mg) : Binds K (fdAt K A_law_passed) P_law_passed [] := (fn_law_passed T).bindsN fun _ _ _ _ _ _ us hl => match us, hl with | [_, _], _ => rfl
theorem fn_law_exact (T : Tx K mg) : FunD K e_law_exact.name e_law_exact.qual (defArgs st_law_exact) (defBody st_law_exact) (defScope st_law_exact) e_law_exact.dfl [] A_law_exact (fdAt K A_law_exact) := T.fn 73 _ rfl
theorem g_law_exact (T : Tx K mg) : mg "_law_exact" = some (.ref A_law_exact) := T.glo 63 _ _ rfl
theorem b_law_exact (T : Tx K mg) : Binds K (fdAt K A_law_exact) P_law_exact [] := (fn_law_exact T).bindsN fun _ _ _ _ _ _ us hl => match us, hl with | [_, _], _ => rfl
theorem fn_law_alike (T : Tx K mg) : FunD K e_law_alike.name e_law_alike.qual (defArgs st_law_alike) (defBody st_law_alike) (defScope st_law_alike) e_law_alike.dfl [] A_law_alike (fdAt K A_law_alike) := T.fn 74 _ rfl
theorem g_law_alike (T : Tx K mg) : mg "_law_alike" = some (.ref A_law_alike) := T.glo 64 _ _ rfl
theorem b_law_alike (T : Tx K mg) : Binds K (fdAt K A_law_alike) P_law_alike [] := (fn_law_alike T).bindsN fun _ _ _ _ _ _ us hl => match us, hl with | [_, _], _ => rfl
theorem fn_law_lots (T : Tx K mg) : FunD K e_law_lots.name e_law_lots.qual (defArgs st_law_lots) (defBody st_law_lots) (defScope st_law_lots) e_law_lots.dfl [] A_law_lots (fdAt K A_law_lots) := T.fn 75 _ rfl
theorem g_law_lots (T : Tx K mg) : mg "_law_lots" = some (.ref A_law_lots) := T.glo 65 _ _ rfl
theorem b_law_lots (T : Tx K mg) : Binds K (fdAt K A_law_lots) P_law_lots [] := (fn_law_lots T).bindsN fun _ _ _ _ _ _ us hl => match us, hl with | [_, _], _ => rfl
theorem fn_law_tells (T : Tx K mg) : FunD K e_law_tells.name e_law_tells.qual (defArgs st_law_tells) (defBody st_law_tells) (defScope st_law_tells) e_law_tells.dfl [] A_law_tells (fdAt K A_law_tells) := T.fn 76 _ rfl
theorem g_law_tells (T : Tx K mg) : mg "_law_tells" = some (.ref A_law_tells) := T.glo 66 _ _ rfl
theorem b_law_tells (T : Tx K mg) : Binds K (fdAt K A_law_tells) P_law_tells [] := (fn_law_tells T).bindsN fun _ _ _ _ _ _ us hl => match us, hl with | [_, _, _], _ => rfl
theorem fn_law_without (T : Tx K mg) : FunD K e_law_without.name e_law_without.qual (defArgs st_law_without) (defBody st_law_without) (defScope st_law_without) e_law_without.dfl [] A_law_without (fdAt K A_law_without) := T.fn 77 _ rfl
theorem g_law_without (T : Tx K mg) : mg "_law_without" = some (.ref A_law_without) := T.glo 67 _ _ rfl
theorem b_law_without (T : Tx K mg) : Binds K (fdAt K A_law_without) P_law_without [] := (fn_law_without T).bindsN fun _ _ _ _ _ _ us hl => match us, hl with | [_, _], _ => rfl
theorem fn_law_wholes (T : Tx K mg) : FunD K e_law_wholes.name e_law_wholes.qual (defArgs st_law_wholes) (defBody st_law_wholes) (defScope st_law_wholes) e_law_wholes.dfl [] A_law_wholes (fdAt K A_law_wholes) := T.fn 78 _ rfl
theorem g_law_wholes (T : Tx K mg) : mg "_law_wholes" = some (.ref A_law_wholes) := T.glo 68 _ _ rfl
theorem b_law_wholes (T : Tx K mg) : Binds K (fdAt K A_law_wholes) P_law_wholes [] := (fn_law_wholes T).bindsN fun _ _ _ _ _ _ us hl => match us, hl with | [_, _], _ => rfl
theorem fn_law_made (T : Tx K mg) : FunD K e_law_made.name e_law_made.qual (defArgs st_law_made) (defBody st_law_made) (defScope st_law_made) e_law_made.dfl [] A_law_made (fdAt K A_law_made) := T.fn 79 _ rfl
theorem g_law_made (T : Tx K mg) : mg "_law_made" = some (.ref A_law_made) := T.glo 69 _ _ rfl
theorem b_law_made (T : Tx K mg) : Binds K (fdAt K A_law_made) P_law_made [] := (fn_law_made T).bindsN fun _ _ _ _ _ _ us hl => match us, hl with | [_, _], _ => rfl
theorem fn_law_loss (T : Tx K mg) : FunD K e_law_loss.name e_law_loss.qual (defArgs st_law_loss) (defBody st_law_loss) (defScope st_law_loss) e_law_loss.dfl [] A_law_loss (fdAt K A_law_loss) := T.fn 80 _ rfl
theorem g_law_loss (T : Tx K mg) : mg "_law_loss" = some (.ref A_law_loss) := T.glo 70 _ _ rfl
theorem b_law_loss (T : Tx K mg) : Binds K (fdAt K A_law_loss) P_law_loss [] := (fn_law_loss T).bindsN fun _ _ _ _ _ _ us hl => match us, hl with | [_, _, _], _ => rfl
theorem fn_law_lost_word (T : Tx K mg) : FunD K e_law_lost_word.name e_law_lost_word.qual (defArgs st_law_lost_word) (defBody st_law_lost_word) (defScope st_law_lost_word) e_law_lost_word.dfl [] A_law_lost_word (fdAt K A_law_lost_word) := T.fn 81 _ rfl
theorem g_law_lost_word (T : Tx K mg) : mg "_law_lost_word" = some (.ref A_law_lost_word) := T.glo 71 _ _ rfl
theorem b_law_lost_word (T : Tx K mg) : Binds K (fdAt K A_law_lost_word) P_law_lost_word [] := (fn_law_lost_word T).bindsN fun _ _ _ _ _ _ us hl => match us, hl with | [_, _, _, _, _], _ => rfl
theorem fn_law_lost_fits (T : Tx K mg) : FunD K e_law_lost_fits.name e_law_lost_fits.qual (defArgs st_law_lost_fits) (defBody st_law_lost_fits) (defScope st_law_lost_fits) e_law_lost_fits.dfl [] A_law_lost_fits (fdAt K A_law_lost_fits) := T.fn 82 _ rfl
theorem g_law_lost_fits (T : Tx K mg) : mg "_law_lost_fits" = some (.ref A_law_lost_fits) := T.glo 72 _ _ rfl
theorem b_law_lost_fits (T : Tx K mg) : Binds K (fdAt K A_law_lost_fits) P_law_lost_fits [] := (fn_law_lost_fits T).bindsN fun _ _ _ _ _ _ us hl => match us, hl with | [_, _, _, _, _, _], _ => rfl
theorem fn_law_judged (T : Tx K mg) : FunD K e_law_judged.name e_law_judged.qual (defArgs st_law_judged) (defBody st_law_judged) (defScope st_law_judged) e_law_judged.dfl [] A_law_judged (fdAt K A_law_judged) := T.fn 83 _ rfl
theorem g_law_judged (T : Tx K mg) : mg "_law_judged" = some (.ref A_law_judged) := T.glo 73 _ _ rfl
theorem b_law_judged (T : Tx K mg) : Binds K (fdAt K A_law_judged) P_law_judged [] := (fn_law_judged T).bindsN fun _ _ _ _ _ _ us hl => match us, hl with | [_, _, _, _, _, _], _ => rfl
theorem fn_law_changed (T : Tx K mg) : FunD K e_law_changed.name e_law_changed.qual (defArgs st_law_changed) (defBody st_law_changed) (defScope st_law_changed) e_law_changed.dfl [] A_law_changed (fdAt K A_law_changed) := T.fn 84 _ rfl
theorem g_law_changed (T : Tx K mg) : mg "_law_changed" = some (.ref A_law_changed) := T.glo 74 _ _ rfl
theorem b_law_changed (T : Tx K mg) : Binds K (fdAt K A_law_changed) P_law_changed [] := (fn_law_changed T).bindsN fun _ _ _ _ _ _ us hl => match us, hl with | [_, _, _, _, _], _ => rfl
theorem fn_law_most_refused (T : Tx K mg) : FunD K e_law_most_refused.name e_law_most_refused.qual (defArgs st_law_most_refused) (defBody st_law_most_refused) (defScope st_law_most_refused) e_law_most_refused.dfl [] A_law_most_refused (fdAt K A_law_most_refused) := T.fn 85 _ rfl
theorem g_law_most_refused (T : Tx K mg) : mg "_law_most_refused" = some (.ref A_law_most_refused) := T.glo 75 _ _ rfl
theorem b_law_most_refused (T : Tx K mg) : Binds K (fdAt K A_law_most_refused) P_law_most_refused [] := (fn_law_most_refused T).bindsN fun _ _ _ _ _ _ us hl => match us, hl with | [_, _, _, _, _], _ => rfl
theorem fn_law (T : Tx K mg) : FunD K e_law.name e_law.qual (defArgs st_law) (defBody st_law) (defScope st_law) e_law.dfl [] A_law (fdAt K A_law) := T.fn 86 _ rfl
theorem g_law (T : Tx K mg) : mg "law" = some (.ref A_law) := T.glo 76 _ _ rfl
theorem b_law (T : Tx K mg) : Binds K (fdAt K A_law) P_law [] := (fn_law T).bindsN fun _ _ _ _ _ _ us hl => match us, hl with | [_], _ => rfl
theorem g_SlopeError (T : Tx K mg) : mg "SlopeError" = some (.ref C_SlopeError) := T.glo 77 _ _ rfl
theorem g_BadRatio (T : Tx K mg) : mg "BadRatio" = some (.ref C_BadRatio) := T.glo 78 _ _ rfl
theorem g_BadMould (T : Tx K mg) : mg "BadMould" = some (.ref C_BadMould) := T.glo 79 _ _ rfl
theorem g_BadLetter (T : Tx K mg) : mg "BadLetter" = some (.ref C_BadLetter) := T.glo 80 _ _ rfl
theorem g_BadAsk (T : Tx K mg) : mg "BadAsk" = some (.ref C_BadAsk) := T.glo 81 _ _ rfl
theorem g_BadMost (T : Tx K mg) : mg "BadMost" = some (.ref C_BadMost) := T.glo 82 _ _ rfl
theorem g_TooMany (T : Tx K mg) : mg "TooMany" = some (.ref C_TooMany) := T.glo 83 _ _ rfl
theorem g_Mould (T : Tx K mg) : mg "Mould" = some (.ref C_Mould) := T.glo 84 _ _ rfl
theorem g_Weights (T : Tx K mg) : mg "Weights" = some (.ref C_Weights) := T.glo 85 _ _ rfl
theorem g_Lost (T : Tx K mg) : mg "Lost" = some (.ref C_Lost) := T.glo 86 _ _ rfl
theorem f_abs (T : Tx K mg) : mg "abs" = none := T.fre 0 _ rfl
theorem bt_abs : bootBuiltins "abs" = some (.builtin "abs") := by decide +kernel
theorem f_bool (T : Tx K mg) : mg "bool" = none := T.fre 1 _ rfl
theorem bt_bool : bootBuiltins "bool" = some (.type "bool") := by decide +kernel
theorem f_enumerate (T : Tx K mg) : mg "enumerate" = none := T.fre 2 _ rfl
theorem bt_enumerate : bootBuiltins "enumerate" = some (.type "enumerate") := by decide +kernel
theorem f_int (T : Tx K mg) : mg "int" = none := T.fre 3 _ rfl
theorem bt_int : bootBuiltins "int" = some (.type "int") := by decide +kernel
theorem f_isinstance (T : Tx K mg) : mg "isinstance" = none := T.fre 4 _ rfl
theorem bt_isinstance : bootBuiltins "isinstance" = some (.builtin "isinstance") := by decide +kernel
theorem f_len (T : Tx K mg) : mg "len" = none := T.fre 5 _ rfl
theorem bt_len : bootBuiltins "len" = some (.builtin "len") := by decide +kernel
theorem f_list (T : Tx K mg) : mg "list" = none := T.fre 6 _ rfl
theorem bt_list : bootBuiltins "list" = some (.type "list") := by decide +kernel
theorem f_max (T : Tx K mg) : mg "max" = none := T.fre 7 _ rfl
theorem bt_max : bootBuiltins "max" = some (.builtin "max") := by decide +kernel
theorem f_min (T : Tx K mg) : mg "min" = none := T.fre 8 _ rfl
theorem bt_min : bootBuiltins "min" = some (.builtin "min") := by decide +kernel
theorem f_range (T : Tx K mg) : mg "range" = none := T.fre 9 _ rfl
theorem bt_range : bootBuiltins "range" = some (.type "range") := by decide +kernel
theorem f_str (T : Tx K mg) : mg "str" = none := T.fre 10 _ rfl
theorem bt_str : bootBuiltins "str" = some (.type "str") := by decide +kernel
theorem f_sum (T : Tx K mg) : mg "sum" = none := T.fre 11 _ rfl
theorem bt_sum : bootBuiltins "sum" = some (.builtin "sum") := by decide +kernel
theorem f_tuple (T : Tx K mg) : mg "tuple" = none := T.fre 12 _ rfl
theorem bt_tuple : bootBuiltins "tuple" = some (.type "tuple") := by decide +kernel
theorem f_zip (T : Tx K mg) : mg "zip" = none := T.fre 13 _ rfl
theorem bt_zip : bootBuiltins "zip" = some (.type "zip") := by decide +kernel
theorem c_MOST (T : Tx K mg) : ∃ t, mg "MOST" = some (.int 6 t) := T.int 0 _ _ rfl
theorem c_GREATEST (T : Tx K mg) : ∃ t, mg "GREATEST" = some (.int 1000000000 t) := T.int 1 _ _ rfl
theorem c_MOST_ASKS (T : Tx K mg) : ∃ t, mg "MOST_ASKS" = some (.int 8 t) := T.int 2 _ _ rfl
theorem c_MOST_ANSWERS (T : Tx K mg) : ∃ t, mg "MOST_ANSWERS" = some (.int 12 t) := T.int 3 _ _ rfl
theorem g_gcd (T : Tx K mg) : mg "gcd" = some (.builtin "math.gcd") := T.gcd
theorem g_lcm (T : Tx K mg) : mg "lcm" = some (.builtin "math.lcm") := T.lcm
theorem k_Mould (T : Tx K mg) : Cls K C_Mould := T.kM
theorem mk_Mould (T : Tx K mg) : Mk K C_Mould A_Mould_init := T.mM
theorem mk_Lost (T : Tx K mg) : Mk K C_Lost A_Lost_init := T.mL
theorem mk_Weights (T : Tx K mg) : Mk K C_Weights A_Weights_init := T.mW
theorem p_letters_many (T : Tx K mg) : PropOf K C_Mould "letters_many" 293 A_Mould_letters_many := T.pM
end
end Th

/-! part H1 -/
namespace Th
open PySem PySem.Spec PyProof.Rows L2

/-! ### the head: facts read off the heap behind the top -/
def fnV (K : PySem.W.Frag) (a : Addr) : He.FnW := match K.lookup a with
  | some ⟨_, _, .func fd, _⟩ => some (fd.name, fd.qualname, fd.params, fd.body, fd.scope, fd.globals, fd.closure, fd.builtins)
  | _ => none
def DefE.val (d : DefE) : He.FnW := some (d.name, d.qual, d.params, .stmts d.body, d.scope, mainGlobals, [], builtinsNs)
def DefE.ok (K : PySem.W.Frag) (d : DefE) : Bool := PySem.W.keepIn K (.ref d.ad) && (match K.lookup d.ad with
  | some ⟨_, _, .func fd, _⟩ => PySem.W.codeIn K fd.code d.qual && He.dflB K fd.defaults d.dfl
  | _ => false)
theorem DefE.funD {K : PySem.W.Frag} {d : DefE} (e : fnV K d.ad = d.val) (c : d.ok K = true) : FunD K d.name d.qual d.params d.body d.scope d.dfl [] d.ad (fdAt K d.ad) := by
  obtain ⟨kp, c2⟩ := Bool.and_eq_true_iff.mp c
  unfold fnV at e
  unfold fdAt
  cases q : K.lookup d.ad with
  | none => rw [q] at c2; cases c2
  | some o =>
    obtain ⟨oc, od, dt, osl⟩ := o
    rw [q] at c2 e
    cases dt with
    | func fd =>
      obtain ⟨n1, n2, n3, n4, n5, n6, n7, n8, n9, n10, n11, n12, n13, n14, n15⟩ := fd
      have e2 : (some (n1, n2, n3, n4, n5, n6, n7, n15) : He.FnW) = some (d.name, d.qual, d.params, .stmts d.body, d.scope, mainGlobals, [], builtinsNs) := e
      simp only [Option.some.injEq, Prod.mk.injEq] at e2
      obtain ⟨h1, h2, h3, h4, h5, h6, h7, h8⟩ := e2
      subst h1 h2 h3 h4 h5 h6 h7 h8
      have c3 : (PySem.W.codeIn K n13 d.qual && He.dflB K n8 d.dfl) = true := c2
      obtain ⟨k1, k2⟩ := Bool.and_eq_true_iff.mp c3
      exact ⟨⟨oc, od, n8, n9, n10, n11, n12, n13, n14, osl, rfl, q, k1, He.dflB_ok k2, .inl rfl⟩, kp⟩
    | _ => cases c2
def clsB (K : PySem.W.Frag) (C : Addr) : Bool := PySem.W.plainGet K C Str.empty && (PySem.W.hasDictIn K C && (PySem.W.plainOver K C && He.eqO (PySem.W.findIn K (.ref C) "__setattr__") (some (some (.builtin "object.__setattr__")))))
theorem clsB_ok {K : PySem.W.Frag} {C : Addr} (h : clsB K C = true) : Cls K C := by
  obtain ⟨h1, h⟩ := Bool.and_eq_true_iff.mp h
  obtain ⟨h2, h⟩ := Bool.and_eq_true_iff.mp h
  obtain ⟨h3, h4⟩ := Bool.and_eq_true_iff.mp h
  exact ⟨h1, h2, h3, He.eqO_ok h4⟩
def mkB (K : PySem.W.Frag) (C f : Addr) : Bool := PySem.W.makesIn K C && (He.eqO (PySem.W.findIn K (.ref C) "__init__") (some (some (.ref f))) && (PySem.W.isFn K (.ref f) && PySem.W.keepIn K (.ref C)))
theorem mkB_ok {K : PySem.W.Frag} {C f : Addr} (h : mkB K C f = true) : Mk K C f := by
  obtain ⟨h1, h⟩ := Bool.and_eq_true_iff.mp h
  obtain ⟨h2, h⟩ := Bool.and_eq_true_iff.mp h
  obtain ⟨h3, h4⟩ := Bool.and_eq_true_iff.mp h
  exact ⟨h1, He.eqO_ok h2, h3, h4⟩
def noB (K : PySem.W.Frag) (C : Addr) (fs : List Str) : Bool := fs.all fun f => He.eqO (PySem.W.findIn K (.ref C) f) (some none)
theorem noB_ok {K : PySem.W.Frag} {C : Addr} {fs : List Str} (h : noB K C fs = true) : ∀ f ∈ fs, NoAttr K C f := fun f hf => He.eqO_ok (List.all_eq_true.mp h f hf)
def propB (K : PySem.W.Frag) (C : Addr) (f : Str) (p g : Addr) : Bool := He.eqO (PySem.W.findIn K (.ref C) f) (some (some (.ref p))) && (He.eqO (PySem.W.specialIn K (.ref p) "__get__") (some (some (.builtin "property.__get__"))) && (decide (PySem.W.takesIn K (.ref p) = some true) && (match PySem.W.recIn K p "property" with
  | some (.ref g' :: _) => decide (g' = g)
  | _ => false)))
theorem propB_ok {K : PySem.W.Frag} {C : Addr} {f : Str} {p g : Addr} (h : propB K C f p g = true) : PropOf K C f p g := by
  obtain ⟨h1, h⟩ := Bool.and_eq_true_iff.mp h
  obtain ⟨h2, h⟩ := Bool.and_eq_true_iff.mp h
  obtain ⟨h3, h4⟩ := Bool.and_eq_true_iff.mp h
  refine ⟨He.eqO_ok h1, He.eqO_ok h2, of_decide_eq_true h3, ?_⟩
  cases e : PySem.W.recIn K p "property" with
  | none => rw [e] at h4; cases h4
  | some l =>
    rw [e] at h4
    cases l with
    | nil => cases h4
    | cons v r =>
      cases v with
      | ref g' =>
        have : g' = g := of_decide_eq_true h4
        subst this; exact ⟨r, rfl⟩
      | _ => cases h4
def oexShape (K : PySem.W.Frag) (C : Addr) : Bool := match K.lookup C with
  | some ⟨.type t, _, .cls ⟨_, _, .ref C' :: bm, _, _, hd, _, _, _, _, dl⟩, ⟨[_, _, _, _, some (.builtin n), _]⟩⟩ => decide (t = "type") && (decide (C' = C) && (decide (n = "ValueError.__new__") && (hd && (!dl && PySem.HandSPX.refsVE bm))))
  | _ => false
theorem oexShape_ok {K : PySem.W.Frag} {C : Addr} (h : oexShape K C = true) : ∃ nm q N bs bm sn sub ab col dd k0 k1 k2 k3 k5, K.lookup C = some (excClassObj nm q C N bs bm true sn sub ab col dd k0 k1 k2 k3 k5 "ValueError.__new__") ∧ PySem.HandSPX.refsVE bm = true := by
  unfold oexShape at h
  split at h
  · rename_i t dd nm bs C' bm N q hd sn sub ab col dl k0 k1 k2 k3 n k5 e
    obtain ⟨h1, h⟩ := Bool.and_eq_true_iff.mp h
    obtain ⟨h2, h⟩ := Bool.and_eq_true_iff.mp h
    obtain ⟨h3, h⟩ := Bool.and_eq_true_iff.mp h
    obtain ⟨h4, h⟩ := Bool.and_eq_true_iff.mp h
    obtain ⟨h5, h6⟩ := Bool.and_eq_true_iff.mp h
    have h1 := of_decide_eq_true h1
    have h2 := of_decide_eq_true h2
    have h3 := of_decide_eq_true h3
    subst h1 h2 h3
    cases dl with
    | true => cases h5
    | false =>
      subst h4
      exact ⟨_, _, _, _, _, _, _, _, _, _, _, _, _, _, _, e, h6⟩
  · cases h
def oexB (K : PySem.W.Frag) (C : Addr) : Bool := oexShape K C && (He.eqO (PySem.W.findIn K (.ref C) "__setattr__") (some (some (.builtin "object.__setattr__"))) && (decide (PySem.W.subIn K (.ref C) (.type "BaseException") = some true) && (decide (PySem.W.typeIn K (.ref C) = some (.type "type")) && PySem.W.keepIn K (.ref C))))
theorem oexB_ok {K : PySem.W.Frag} {C : Addr} (h : oexB K C = true) : OexC K C := by
  obtain ⟨h1, h⟩ := Bool.and_eq_true_iff.mp h
  obtain ⟨h2, h⟩ := Bool.and_eq_true_iff.mp h
  obtain ⟨h3, h⟩ := Bool.and_eq_true_iff.mp h
  obtain ⟨h4, h5⟩ := Bool.and_eq_true_iff.mp h
  exact ⟨oexShape_ok h1, He.eqO_ok h2, of_decide_eq_true h3, of_decide_eq_true h4, h5⟩
def builtB (K : PySem.W.Frag) (x : Str) (n : String) : Bool := He.eqO (PySem.W.nsIn K mainGlobals x) (some (some (.builtin n)))
def intB (K : PySem.W.Frag) (x : Str) (i : Int) : Bool := (He.Fa.int x i).ok K
def clsInitB (K : PySem.W.Frag) : Bool := match PySem.W.findCls K (.ref C_SlopeError) (.type "type") "__init__" with
  | some (.val (.builtin n)) => decide (n = "ValueError.__init__")
  | _ => false
theorem clsInitB_ok {K : PySem.W.Frag} (h : clsInitB K = true) : PySem.W.findCls K (.ref C_SlopeError) (.type "type") "__init__" = some (.val (.builtin "ValueError.__init__")) := by
  unfold clsInitB at h
  split at h
  · rename_i n e
    rw [e, of_decide_eq_true h]
  · cases h
/-- the names -/
def namB (K : PySem.W.Frag) : Bool := (gloL.all fun p => He.eqO (PySem.W.nsIn K mainGlobals p.1) (some (some (.ref p.2)))) && ((freL.all fun x => He.eqO (PySem.W.nsIn K mainGlobals x) (some none)) && ((intL.all fun p => intB K p.1 p.2) && (builtB K "gcd" "math.gcd" && builtB K "lcm" "math.lcm")))
/-- the classes -/
def claB (K : PySem.W.Frag) : List Bool := [clsB K C_Mould, clsB K C_Lost, clsB K C_Weights, mkB K C_Mould A_Mould_init, mkB K C_Lost A_Lost_init, mkB K C_Weights A_Weights_init,
  noB K C_Mould ["height", "width", "cells", "letters"], noB K C_Lost ["answers", "numbers"], noB K C_Weights ["row"], propB K C_Mould "letters_many" 293 A_Mould_letters_many, oexB K C_BadMost,
  He.eqO (PySem.W.findIn K (.ref C_BadMost) "__init__") (some (some (.ref A_BadMost_init))), decide (PySem.W.typeIn K (.ref A_BadMost_init) = some (.type "function")), He.eqO (PySem.W.findIn K (.ref C_BadMost) "most") (some none), xfB K C_BadMost,
  PySem.W.keepIn K (.ref C_BadMost), decide (PySem.W.exmOne K (.ref C_BadMost) (.ref C_BadMost) = some true), PySem.W.readsIn K C_SlopeError (.type "type"), clsInitB K]
def clsAs : List Addr := [C_SlopeError, C_BadMost, C_Mould, C_Lost, C_Weights]
/-- the part of the heap that is read: the module's names, the defs with what they name, the classes with what they name -/
def asT (g : Addr → Option Obj) : List Addr := [mainGlobals, cStatics, 293] ++ (clsAs.flatMap fun a => a :: (match g a with | some o => He.refsO o | none => [])) ++ fnL.flatMap fun d => d.ad :: (match g d.ad with | some o => He.refsO o | none => [])
abbrev AlT : Type := Bool × List Bool × List Bool × List He.FnW
def obsK (K : PySem.W.Frag) : AlT := (namB K, claB K, fnL.map (fun d => d.ok K), fnL.map fun d => fnV K d.ad)
def valT : AlT := (true, List.replicate 19 true, fnL.map (fun _ => true), fnL.map DefE.val)
def hookT : PySem.W.Hook where
  α := AlT
  obs := fun s => obsK (He.frG s.heap.get? (asT s.heap.get?))
  val := fun _ => valT
  says := fun _ h => ∃ K : PySem.W.Frag, K.In h ∧ obsK K = valT
  of := fun _ _ e => ⟨_, He.frG_in, e⟩
  keeps := fun _ _ _ ⟨K, hK, c⟩ k => ⟨K, PySem.W.Frag.In.keeps hK k, c⟩
theorem says_tx {K : PySem.W.Frag} {h : Heap} {mg : Str → Option Value} (X : K.In h) (G : h.Ns mainGlobals mg) (c : obsK K = valT) : Tx K mg := by
  have c1 : namB K = true := congrArg (fun z : AlT => z.1) c
  have c2 : claB K = List.replicate 19 true := congrArg (fun z : AlT => z.2.1) c
  have c3 : fnL.map (fun d => d.ok K) = fnL.map (fun _ => true) := congrArg (fun z : AlT => z.2.2.1) c
  have c4 : fnL.map (fun d => fnV K d.ad) = fnL.map DefE.val := congrArg (fun z : AlT => z.2.2.2) c
  obtain ⟨n1, n⟩ := Bool.and_eq_true_iff.mp c1
  obtain ⟨n2, n⟩ := Bool.and_eq_true_iff.mp n
  obtain ⟨n3, n⟩ := Bool.and_eq_true_iff.mp n
  obtain ⟨n4, n5⟩ := Bool.and_eq_true_iff.mp n
  have cc : ∀ (i : Nat) (b : Bool), (claB K)[i]? = some b → b = true := fun i b hb => by
    rw [c2] at hb
    exact (List.mem_replicate.mp (List.mem_of_getElem? hb)).2
  exact {
    fn := fun i d hd => by
      have g3 : (fnL.map fun d => d.ok K)[i]? = (fnL.map fun _ => true)[i]? := by rw [c3]
      have g4 : (fnL.map fun d => fnV K d.ad)[i]? = (fnL.map DefE.val)[i]? := by rw [c4]
      rw [List.getElem?_map, List.getElem?_map, hd] at g3 g4
      exact DefE.funD (Option.some.inj g4) (Option.some.inj g3)
    glo := fun i x a hx => PySem.W.mg_of X G (He.eqO_ok (List.all_eq_true.mp n1 _ (List.mem_of_getElem? hx)))
    fre := fun i x hx => PySem.W.mg_none_of X G (He.eqO_ok (List.all_eq_true.mp n2 _ (List.mem_of_getElem? hx)))
    int := fun i x n hx => He.int_ok X G (List.all_eq_true.mp n3 _ (List.mem_of_getElem? hx))
    gcd := PySem.W.mg_of X G (He.eqO_ok n4)
    lcm := PySem.W.mg_of X G (He.eqO_ok n5)
    kM := clsB_ok (cc 0 _ rfl)
    kL := clsB_ok (cc 1 _ rfl)
    kW := clsB_ok (cc 2 _ rfl)
    mM := mkB_ok (cc 3 _ rfl)
    mL := mkB_ok (cc 4 _ rfl)
    mW := mkB_ok (cc 5 _ rfl)
    nM := noB_ok (cc 6 _ rfl)
    nL := noB_ok (cc 7 _ rfl)
    nW := noB_ok (cc 8 _ rfl)
    pM := propB_ok (cc 9 _ rfl)
    bX := oexB_ok (cc 10 _ rfl)
    bI := He.eqO_ok (cc 11 _ rfl)
    bT := of_decide_eq_true (cc 12 _ rfl)
    bN := He.eqO_ok (cc 13 _ rfl)
    bF := xfB_ok (cc 14 _ rfl)
    bK := cc 15 _ rfl
    bE := of_decide_eq_true (cc 16 _ rfl)
    sR := cc 17 _ rfl
    sV := clsInitB_ok (cc 18 _ rfl) }
end Th

/-! part H2 -/
namespace Th
open PySem PySem.Spec PyProof.Rows L2

abbrev RR : PySem.W.OpenRow := PySem.W.OpenLaw.row PySem.Challenge.rw_thinslopes_k21_whole_least_losses_by_all
abbrev QV : Program := PySem.W.view RR.prog [0, 100]
def looseN : List Str := (["_wall", "__name__", "SlopeError", "BadRatio", "BadMould", "BadLetter", "BadAsk", "BadMost", "TooMany", "is_sequence", "is_whole", "common_divisor", "make_ratio", "is_ratio", "as_ratio", "ratio_plus", "ratio_times", "MOST", "is_couple", "checked_cells"] : List Str) ++ (["checked_letters", "check_letter", "Mould", "GREATEST", "MOST_ASKS", "check_ask", "check_book", "span_rows", "lots_of", "Weights", "plain_row", "cleared_row", "cleared_rows", "echelon_pairs", "reduced_rows", "bordered_rows", "weights_in", "weights_for", "free_row", "hidden_basis"] : List Str) ++ (["MOST_ANSWERS", "Lost", "check_most", "unit_row", "few_answers", "first_loss", "lost_told", "lost_fault", "row_sum", "least_loss", "wrong_told", "_law_hand", "_law_mixed", "_law_take", "_law_cells", "_law_pairs", "_law_letters", "_law_many", "_law_number", "_law_ask"] : List Str) ++ (["_law_book", "_law_ratio", "_law_grouping", "_law_span", "_law_divisor", "_law_echelon", "_law_lead", "_law_reduce", "_law_unit", "_law_sum", "_law_seq", "_law_int", "_law_is_ratio", "_law_drawn", "_law_thin", "_law_asked", "_law_either", "_law_built", "_law_passed", "_law_exact"] : List Str) ++ (["_law_alike", "_law_lots", "_law_tells", "_law_without", "_law_wholes", "_law_made", "_law_loss", "_law_lost_word", "_law_lost_fits", "_law_judged", "_law_changed", "_law_most_refused"] : List Str)
/-- the state ahead of the top and behind it -/
noncomputable abbrev wholeW (w : World) : Option (Shared × PySem.W.SharedT) := HandSHeadRun.wholeF (fun p => HandSHeadRun.stepQ (HandSHeadRun.denQ HandSHeadRun.tabQ) p w) HandSHeadRun.fenceQ 6000 RR.prog
noncomputable def obT (s : PySem.W.SharedT) : PySem.W.Frag := He.frG (HandSHeadRun.getT s) (asT (HandSHeadRun.getT s))
end Th

/-! part H3 -/
namespace Th
open PySem PySem.Spec PyProof.Rows L2

open PySem.W
theorem run_looks (w : World) : (wholeW w).map (fun x => HandSHeadRun.looksF RR.prog x.1.heap x.2.abs) = some true := by kernel_rfl
end Th

/-! part H4 -/
namespace Th
open PySem PySem.Spec PyProof.Rows L2

open PySem.W
theorem run_seen (w : World) : (wholeW w).map (fun x => HandSHeadRun.seenQ QV looseN (importedModules RR.prog.main.body) (fun s => xlAt QV [] s && recOk RR.toRowW.records s) x.2.abs) = some (openGood QV looseN) := by kernel_rfl
end Th

/-! part H5 -/
namespace Th
open PySem PySem.Spec PyProof.Rows L2

open PySem.W
theorem run_nam (w : World) : (wholeW w).map (fun x => namB (obT x.2)) = some true := by kernel_rfl
end Th

/-! part H6 -/
namespace Th
open PySem PySem.Spec PyProof.Rows L2

open PySem.W
theorem run_cla (w : World) : (wholeW w).map (fun x => claB (obT x.2)) = some (List.replicate 19 true) := by kernel_rfl
end Th

/-! part H7 -/
namespace Th
open PySem PySem.Spec PyProof.Rows L2

open PySem.W
theorem run_fnok (w : World) : (wholeW w).map (fun x => fnL.map (fun d => d.ok (obT x.2))) = some (fnL.map fun _ => true) := by kernel_rfl
end Th

/-! part H8 -/
namespace Th
open PySem PySem.Spec PyProof.Rows L2

open PySem.W
theorem run_fnv (w : World) : (wholeW w).map (fun x => fnL.map (fun d => fnV (obT x.2) d.ad)) = some (fnL.map DefE.val) := by kernel_rfl
end Th

/-! part B2 -/
namespace Th
open PySem PySem.Spec PyProof.Rows L2

/-- a block's own slots, stored again and wiped -/
theorem wipe_set {τ : L2.St} {i : Nat} {x : Option V} : ∀ {vs : List Nat}, vs.contains i = true → wipe (τ.set i x) vs = wipe τ vs
  | [], h => by cases h
  | v :: vs, h => by
    show (wipe (τ.set i x) vs).set v none = (wipe τ vs).set v none
    by_cases e : i = v
    · subst e
      by_cases c : vs.contains i = true
      · rw [wipe_set c]
      · have hn : i ∉ vs := fun z => c (List.contains_iff_mem.mpr z)
        have key : ∀ {us : List Nat} {τ : L2.St}, i ∉ us → wipe (τ.set i x) us = (wipe τ us).set i x := by
          intro us
          induction us with
          | nil => intro τ _; rfl
          | cons u us ih =>
            intro τ hu
            show (wipe (τ.set i x) us).set u none = ((wipe τ us).set u none).set i x
            rw [ih fun z => hu (List.mem_cons_of_mem _ z)]
            exact List.set_comm _ _ fun z => hu (by rw [z]; exact List.mem_cons_self ..)
        rw [key hn, List.set_set]
    · have c : vs.contains i = true := by
        have h' : (v :: vs).contains i = true := h
        rw [List.contains_cons] at h'
        have : (i == v) = false := beq_false_of_ne e
        rw [this, Bool.false_or] at h'
        exact h'
      rw [wipe_set c]
theorem wipe_idem {σ : L2.St} : ∀ {vs : List Nat}, wipe (wipe σ vs) vs = wipe σ vs := by
  have key : ∀ (us : List Nat) {vs : List Nat} {τ : L2.St}, (∀ u ∈ us, vs.contains u = true) → wipe (wipe τ us) vs = wipe τ vs := by
    intro us
    induction us with
    | nil => intro vs τ _; rfl
    | cons u us ih =>
      intro vs τ h
      show wipe ((wipe τ us).set u none) vs = wipe τ vs
      rw [wipe_set (h u (List.mem_cons_self ..))]
      exact ih fun z hz => h z (List.mem_cons_of_mem _ hz)
  intro vs
  exact key vs fun u hu => List.contains_iff_mem.mpr hu
theorem wipe1 {σ : L2.St} {vs : List Nat} {i : Nat} {x : Option V} (h : vs.contains i = true) : wipe ((wipe σ vs).set i x) vs = wipe σ vs := (wipe_set h).trans wipe_idem
theorem wipe2 {σ : L2.St} {vs : List Nat} {i j : Nat} {x y : Option V} (h : vs.contains i = true) (h' : vs.contains j = true) : wipe (((wipe σ vs).set i x).set j y) vs = wipe σ vs := (wipe_set h').trans (wipe1 h)
/-! ### loops over a walk, the stable part carried -/
section
variable {J : It} {n : Nat} {G : Hp → Prop} {Y : Nat → Hp → V → Hp → Prop} {m : Addr → Prop} {S0 H0 S1 H1 : Hp} {σ : L2.St} {D : Ends} {g : TG} {tb : TS}
/-- the word of a loop -/
def Wd (m : Addr → Prop) (S0 H0 : Hp) (I : Nat → L2.St → Hp → Hp → Prop) (i : Nat) (σ : L2.St) (H : Hp) : Prop := ∃ S, Ext m S0 H0 S H ∧ I i σ S H
theorem forE (w : Walk J n G Y) (I : Nat → L2.St → Hp → Hp → Prop) (E : Ext m S0 H0 S1 H1) (h0 : I 0 σ S1 H1) (hG : ∀ i σ S H, i ≤ n → Ext m S0 H0 S H → I i σ S H → G H)
    (hs : ∀ i x σ S H H', i < n → Ext m S0 H0 S H → I i σ S H → Y i H x H' → g x σ H' fun σ2 H2 => tb { D with nx := Wd m S0 H0 I (i + 1), ct := Wd m S0 H0 I (i + 1), bk := D.nx } σ2 H2)
    (hd : ∀ σ S H, Ext m S0 H0 S H → I n σ S H → D.nx σ H) :
    ∃ W : Nat → Nat → L2.St → Hp → Prop, (∃ k, W 0 k σ H1) ∧ ∀ i k σ H, W i k σ H →
      (J.stop i H ∧ D.nx σ H) ∨ (J.go i H ∧ ∃ N : L2.St → Hp → Prop, (∀ σ' H', N σ' H' → ∃ k', k' < k ∧ W (i + 1) k' σ' H') ∧ ∀ x H', J.yld i H x H' → g x σ H' fun σ2 H2 => tb { D with nx := N, ct := N, bk := D.nx } σ2 H2) :=
  for_it w (Wd m S0 H0 I) ⟨S1, E, h0⟩ (fun i σ H hi ⟨S, e, p⟩ => hG i σ S H hi e p) (fun i x σ H H' hi ⟨S, e, p⟩ y => hs i x σ S H H' hi e p y) fun σ H ⟨S, e, p⟩ => hd σ S H e p
variable {tt : TT} {te : TE} {vs : List Nat} {Qd : Addr → Hp → Prop}
/-- a comprehension: I by the turn, what is made so far, the stable part and the heap (the new list at D apart) -/
theorem lcE (w : Walk J n G Y) (hn : n ≤ 1000000) (hm : ∀ b, m b → H0 b ≠ none) (I : Nat → List V → Hp → Hp → Prop) (E : Ext m S0 H0 S1 H1) (hI : ∀ i acc S H d o, H0 d = none → I i acc S H → I i acc S (upd H d o)) (h0 : I 0 [] S1 H1)
    (hG : ∀ i acc S H, i ≤ n → Ext m S0 H0 S H → I i acc S H → G H)
    (hs : ∀ i x acc S H H' (Kt : VK) (Kf : Hp → Prop), i < n → Ext m S0 H0 S H → I i acc S H → Y i H x H' → (∀ y S' H4, Ext m S H S' H4 → I (i + 1) (acc ++ [y]) S' H4 → Kt y H4) → (∀ S' H3, Ext m S H S' H3 → I (i + 1) acc S' H3 → Kf H3) →
      g x (wipe σ vs) H' fun σ2 H2 => wipe σ2 vs = wipe σ vs ∧ tt σ2 H2 fun b H3 => if b = true then te σ2 H3 Kt else Kf H3)
    (hd : ∀ d acc S H, H0 d = none → Ext m S0 H0 S H → S d = none → H d = some (.lst acc) → acc.length ≤ n → I n acc S H → Qd d H) :
    ∀ d, H1 d = none → ∃ W : Nat → Nat → Hp → Prop, (∃ k, W 0 k (upd H1 d (.lst []))) ∧ ∀ i k H, W i k H →
      (J.stop i H ∧ Qd d H) ∨ (J.go i H ∧ ∃ Nx : Hp → Prop, (∀ H', Nx H' → ∃ k', k' < k ∧ W (i + 1) k' H') ∧ ∀ x H', J.yld i H x H' → g x (wipe σ vs) H' fun σ2 H2 => wipe σ2 vs = wipe σ vs ∧ tt σ2 H2 fun b H3 =>
        if b = true then te σ2 H3 fun y H4 => ∃ acc, H4 d = some (.lst acc) ∧ acc.length < sizeLine ∧ Nx (upd H4 d (.lst (acc ++ [y]))) else Nx H3) := by
  intro d hd1
  have hd0 : H0 d = none := E.none1 hd1
  have hmd : ¬ m d := fun z => hm d z hd0
  refine lc_it w (fun i H => ∃ S acc, Ext m S0 H0 S H ∧ S d = none ∧ H d = some (.lst acc) ∧ acc.length ≤ i ∧ I i acc S H) ⟨S1, [], E.newM hd1, none_of_same E.i hd1, upd_same, Nat.le_refl _, hI _ _ _ _ _ _ hd0 h0⟩
    (fun i H hi ⟨S, acc, e, _, _, _, p⟩ => hG i acc S H hi e p) (fun i x H H' hi ⟨S, acc, e, hs0, hl, hlen, p⟩ y => ?_) fun H ⟨S, acc, e, hs0, hl, hlen, p⟩ => hd d acc S H hd0 e hs0 hl hlen p
  have hz : acc.length < sizeLine := Nat.lt_of_lt_of_le (show acc.length < 1000000 by omega) (by rw [sizeLine_eq]; decide)
  refine hs i x acc S H H' _ _ hi e p y (fun v S' H4 e' p' => ?_) fun S' H3 e' p' => ?_
  · have h4 := e'.h d _ hmd hl
    have s4 := e'.n d (ne_none hl) hs0
    refine ⟨acc, h4, hz, S', acc ++ [v], (e.trans e').mut (.inl hd0) s4, s4, upd_same, ?_, hI _ _ _ _ _ _ hd0 p'⟩
    rw [List.length_append]
    show acc.length + 1 ≤ i + 1
    omega
  · exact ⟨S', acc, e.trans e', e'.n d (ne_none hl) hs0, e'.h d _ hmd hl, by omega, p'⟩
/-- the same where nothing is changed: I by the turn, what is made so far and the stable part -/
theorem lcP (w : Walk J n G Y) (hn : n ≤ 1000000) (I : Nat → List V → Hp → Prop) (E : Ext No S0 H0 S1 H1) (h0 : I 0 [] S1) (hG : ∀ i acc S H, i ≤ n → Ext No S0 H0 S H → I i acc S → G H)
    (hs : ∀ i x acc S H H' (Kt : VK) (Kf : Hp → Prop), i < n → Ext No S0 H0 S H → I i acc S → Y i H x H' → (∀ y S' H4, Ext No S H S' H4 → I (i + 1) (acc ++ [y]) S' → Kt y H4) → (∀ S' H3, Ext No S H S' H3 → I (i + 1) acc S' → Kf H3) →
      g x (wipe σ vs) H' fun σ2 H2 => wipe σ2 vs = wipe σ vs ∧ tt σ2 H2 fun b H3 => if b = true then te σ2 H3 Kt else Kf H3)
    (hd : ∀ d acc S H, H0 d = none → Ext No S0 H0 S H → S d = none → H d = some (.lst acc) → acc.length ≤ n → I n acc S → Qd d H) :
    ∀ d, H1 d = none → ∃ W : Nat → Nat → Hp → Prop, (∃ k, W 0 k (upd H1 d (.lst []))) ∧ ∀ i k H, W i k H →
      (J.stop i H ∧ Qd d H) ∨ (J.go i H ∧ ∃ Nx : Hp → Prop, (∀ H', Nx H' → ∃ k', k' < k ∧ W (i + 1) k' H') ∧ ∀ x H', J.yld i H x H' → g x (wipe σ vs) H' fun σ2 H2 => wipe σ2 vs = wipe σ vs ∧ tt σ2 H2 fun b H3 =>
        if b = true then te σ2 H3 fun y H4 => ∃ acc, H4 d = some (.lst acc) ∧ acc.length < sizeLine ∧ Nx (upd H4 d (.lst (acc ++ [y]))) else Nx H3) :=
  lcE w hn (fun _ z => z.elim) (fun i acc S _ => I i acc S) E (fun _ _ _ _ _ _ _ h => h) h0 hG hs hd
end
end Th

/-! part B3 -/
namespace Zl
open PySem PySem.Calls PyProof.Rows PyProof.V PySem.Spec PySem.W
/-! ### list(zip(xs, ys)) of two lists, at the library's level -/
theorem nolen_zip : typeLookup (.type "zip") "__len__" = pure none := by rw [typeLookup_type, builtinLookup_eq_fast]; kernel_rfl
theorem nohint_zip : typeLookup (.type "zip") "__length_hint__" = pure none := by rw [typeLookup_type, builtinLookup_eq_fast]; kernel_rfl
structure ZSt (h : Heap) (z TI TO i1 i2 l1 l2 : Addr) (xs ys : Array Value) (S : Addr) (i : Nat) : Prop where
  pTI : IsPair h TI (.ref i1) (.ref i2)
  it1 : h.IsListIter i1 l1 i
  it2 : h.IsListIter i2 l2 i
  L1 : h.IsList l1 xs
  L2 : h.IsList l2 ys
  st : (IsZip h z TI TO .none ∧ ∃ a b, IsPair h TO a b) ∨ ∃ T f oT, IsZipHeld h z TI TO T f ∧ h.get? T = some oT ∧ T ≠ S
structure Off (S z TI TO i1 i2 l1 l2 : Addr) : Prop where
  z : z ≠ S
  TI : TI ≠ S
  TO : TO ≠ S
  i1 : i1 ≠ S
  i2 : i2 ≠ S
  l1 : l1 ≠ S
  l2 : l2 ≠ S
section
variable {prog : Program} {w : World} {A : Around} {E : Value → Shared → Prop} {s : Shared} {z TI TO i1 i2 l1 l2 S : Addr} {xs ys : Array Value} {i : Nat}
theorem ZSt.keep {h h' : Heap} (st : ZSt h z TI TO i1 i2 l1 l2 xs ys S i) (f : Off S z TI TO i1 i2 l1 l2) (k : ∀ b o, b ≠ S → h.get? b = some o → h'.get? b = some o) : ZSt h' z TI TO i1 i2 l1 l2 xs ys S i := by
  refine ⟨k _ _ f.TI st.pTI, st.it1.at fun o e => k _ _ f.i1 e, st.it2.at fun o e => k _ _ f.i2 e, st.L1.at fun o e => k _ _ f.l1 e, st.L2.at fun o e => k _ _ f.l2 e, ?_⟩
  rcases st.st with ⟨a, x, y, b⟩ | ⟨T, g, oT, a, b, c⟩
  · exact .inl ⟨k _ _ f.z a, x, y, k _ _ f.TO b⟩
  · exact .inr ⟨T, g, oT, k _ _ f.z a, k _ _ c b, c⟩
theorem zl_item {Q : Option Value → Shared → Prop} (D : ZipApart z TI TO i1 i2 l1 l2) (st : ZSt s.heap z TI TO i1 i2 l1 l2 xs ys S i) (f : Off S z TI TO i1 i2 l1 l2) (hS : S < s.heap.objs.size) (h1 : i < xs.size) (h2 : i < ys.size)
    (hQ : ∀ h', ZSt h' z TI TO i1 i2 l1 l2 xs ys S (i + 1) → IsPair h' s.heap.objs.size xs[i] ys[i] → h'.objs.size = s.heap.objs.size + 1 →
      (∀ c o, c ≠ z → c ≠ TO → c ≠ i1 → c ≠ i2 → s.heap.get? c = some o → h'.get? c = some o) → Q (some (.ref s.heap.objs.size)) { s with heap := h' }) :
    wpAny (model prog w) A (pyNext (.ref z)) Q E s := by
  have hx : xs[i]? = some xs[i] := by simp [h1]
  have hy : ys[i]? = some ys[i] := by simp [h2]
  rcases st.st with ⟨a, u, v, b⟩ | ⟨T, g, oT, a, b, c⟩
  · refine wpAny_pyNext_zip_item D a st.pTI b st.it1 st.it2 st.L1 st.L2 hx hy fun h' z' TO' j1 j2 hT hsz hk => ?_
    refine hQ h' ⟨hk _ _ D.TIz D.TITO D.TIi1 D.TIi2 st.pTI, j1, j2, st.L1.at fun o e => hk _ _ D.l1z D.l1TO D.l1i1 D.l1i2 e, st.L2.at fun o e => hk _ _ D.l2z D.l2TO D.l2i1 D.l2i2 e, .inr ⟨_, false, _, z', hT, Nat.ne_of_gt hS⟩⟩ hT hsz hk
  · refine wpAny_pyNext_zip_item_held D a b st.pTI st.it1 st.it2 st.L1 st.L2 hx hy fun h' z' j1 j2 hT hsz hk => ?_
    have hz : z < s.heap.objs.size := Heap.lt_size a
    by_cases e : T = z ∨ T = i1 ∨ T = i2
    · have hz' : ∃ o, h'.get? T = some o := by
        rcases e with e | e | e
        · rw [e]; exact ⟨_, z'⟩
        · rw [e]; obtain ⟨o, ho, _⟩ := j1; exact ⟨o, ho⟩
        · rw [e]; obtain ⟨o, ho, _⟩ := j2; exact ⟨o, ho⟩
      obtain ⟨o, ho⟩ := hz'
      exact hQ h' ⟨hk _ _ D.TIz D.TIi1 D.TIi2 st.pTI, j1, j2, st.L1.at fun o e => hk _ _ D.l1z D.l1i1 D.l1i2 e, st.L2.at fun o e => hk _ _ D.l2z D.l2i1 D.l2i2 e, .inr ⟨T, true, o, z', ho, c⟩⟩ hT hsz fun c o n1 n2 n3 n4 q => hk c o n1 n3 n4 q
    · have e1 : T ≠ z := fun q => e (.inl q)
      have e2 : T ≠ i1 := fun q => e (.inr (.inl q))
      have e3 : T ≠ i2 := fun q => e (.inr (.inr q))
      exact hQ h' ⟨hk _ _ D.TIz D.TIi1 D.TIi2 st.pTI, j1, j2, st.L1.at fun o e => hk _ _ D.l1z D.l1i1 D.l1i2 e, st.L2.at fun o e => hk _ _ D.l2z D.l2i1 D.l2i2 e, .inr ⟨T, true, oT, z', hk _ _ e1 e2 e3 b, c⟩⟩ hT hsz fun c o n1 n2 n3 n4 q => hk c o n1 n3 n4 q
theorem zl_done {Q : Option Value → Shared → Prop} (hh : A.handled = none) (D : ZipApart z TI TO i1 i2 l1 l2) (st : ZSt s.heap z TI TO i1 i2 l1 l2 xs ys S i) (he : xs[i]? = none ∨ ys[i]? = none)
    (hQ : ∀ h', (∀ c o, c ≠ z → c ≠ TO → c ≠ i1 → c ≠ i2 → s.heap.get? c = some o → h'.get? c = some o) → Q none { s with heap := h' }) : wpAny (model prog w) A (pyNext (.ref z)) Q E s := by
  rcases st.st with ⟨a, u, v, b⟩ | ⟨T, g, oT, a, b, c⟩
  · exact wpAny_pyNext_zip_end hh D a st.pTI b st.it1 st.it2 st.L1 st.L2 he fun h' hk => hQ h' hk
  · exact wpAny_pyNext_zip_end_held hh D a b st.pTI st.it1 st.it2 st.L1 st.L2 he fun h' hk => hQ h' fun c o n1 n2 n3 n4 q => hk c o n1 n3 n4 q
/-- the addresses as hold the pairs, in order -/
structure ZG (xs ys : Array Value) (lo : Addr) (h : Heap) (as : List Addr) : Prop where
  rise : as.Pairwise (· < ·)
  above : ∀ a ∈ as, lo < a
  pairs : ∀ (j : Nat) (a : Addr), as[j]? = some a → ∃ x y, xs[j]? = some x ∧ ys[j]? = some y ∧ IsPair h a x y
theorem ZG.there {xs ys : Array Value} {lo : Addr} {h : Heap} {as : List Addr} (g : ZG xs ys lo h as) {a : Addr} (ha : a ∈ as) : a < h.objs.size := by
  obtain ⟨j, hj⟩ := List.mem_iff_getElem?.mp ha
  obtain ⟨_, _, _, _, e⟩ := g.pairs j a hj
  exact Heap.lt_size e
theorem zl_loop {R : Result → Shared → Prop} {N0 lo : Addr} {n : Nat} (hh : A.handled = none) (D : ZipApart z TI TO i1 i2 l1 l2) (f : Off S z TI TO i1 i2 l1 l2) (hz0 : N0 ≤ z) (hT0 : N0 ≤ TO) (h10 : N0 ≤ i1) (h20 : N0 ≤ i2) (hS0 : N0 ≤ S)
    (lz : z ≤ lo) (lTO : TO ≤ lo) (l1o : i1 ≤ lo) (l2o : i2 ≤ lo) (lS : S ≤ lo)
    (hx : xs.size = n) (hy : ys.size = n) (hn : n ≤ sizeLine) (res : Value) {h₁ : Heap}
    (hR : ∀ h' tk acc c as, (∀ b o, b < N0 → h₁.get? b = some o → h'.get? b = some o) → h'.get? S = some { cls := .type "list", dict := none, data := .seq acc c, slots := #[] } → as.length = n → ZG xs ys lo h' as →
      acc.toList = as.map Value.ref → R (.ok (.ret res)) { s with heap := h', toks := tk }) :
    ∀ (k i : Nat) (h : Heap) (tk c : Nat) (acc : Array Value) (as : List Addr), n - i = k → i ≤ n → ZSt h z TI TO i1 i2 l1 l2 xs ys S i → (∀ b o, b < N0 → h₁.get? b = some o → h.get? b = some o) →
      h.get? S = some { cls := .type "list", dict := none, data := .seq acc c, slots := #[] } → acc.toList = as.map Value.ref → as.length = i → ZG xs ys lo h as → lo < h.objs.size →
      codeAny (model prog w) A (.builtin "list.extend.loop" ⟨[.ref S, .ref z, res], []⟩) R { s with heap := h, toks := tk } := by
  intro k
  induction k with
  | zero =>
    intro i h tk c acc as hk hi hst hkeep hS hacc hal hG hIs
    have hin : i = n := by omega
    refine codeAny_builtin PySem.F.entry_extend_loop ?_
    rw [Around.under_plainId PySem.F.plain_extend_loop _]
    show wpAny _ A.in1 (pyNext (.ref z) >>= _) _ _ _
    refine wpAny_bind (zl_done (s := { s with heap := h, toks := tk }) (A := A.in1) hh D hst (.inl (by simp; omega)) fun h' he => ?_)
    have low : ∀ b, b < N0 → b ≠ z ∧ b ≠ TO ∧ b ≠ i1 ∧ b ≠ i2 := fun b hb => ⟨Nat.ne_of_lt (Nat.lt_of_lt_of_le hb hz0), Nat.ne_of_lt (Nat.lt_of_lt_of_le hb hT0), Nat.ne_of_lt (Nat.lt_of_lt_of_le hb h10), Nat.ne_of_lt (Nat.lt_of_lt_of_le hb h20)⟩
    have up : ∀ b, lo < b → b ≠ z ∧ b ≠ TO ∧ b ≠ i1 ∧ b ≠ i2 := fun b hb => ⟨Nat.ne_of_gt (Nat.lt_of_le_of_lt lz hb), Nat.ne_of_gt (Nat.lt_of_le_of_lt lTO hb), Nat.ne_of_gt (Nat.lt_of_le_of_lt l1o hb), Nat.ne_of_gt (Nat.lt_of_le_of_lt l2o hb)⟩
    refine wpAny_pure (hR h' tk acc c as (fun b o h1 e => he b o (low b h1).1 (low b h1).2.1 (low b h1).2.2.1 (low b h1).2.2.2 (hkeep b o h1 e)) (he S _ f.z.symm f.TO.symm f.i1.symm f.i2.symm hS) (by omega) ⟨hG.rise, hG.above, fun j a hj => ?_⟩ hacc)
    obtain ⟨x, y, hx', hy', e3⟩ := hG.pairs j a hj
    have ua := up a (hG.above a (List.mem_of_getElem? hj))
    exact ⟨x, y, hx', hy', he a _ ua.1 ua.2.1 ua.2.2.1 ua.2.2.2 e3⟩
  | succ k ih =>
    intro i h tk c acc as hk hi hst hkeep hS hacc hal hG hIs
    have hlt : i < n := by omega
    have hsz : acc.size = i := by rw [← Array.length_toList, hacc, List.length_map, hal]
    have low : ∀ b, b < N0 → b ≠ z ∧ b ≠ TO ∧ b ≠ i1 ∧ b ≠ i2 := fun b hb => ⟨Nat.ne_of_lt (Nat.lt_of_lt_of_le hb hz0), Nat.ne_of_lt (Nat.lt_of_lt_of_le hb hT0), Nat.ne_of_lt (Nat.lt_of_lt_of_le hb h10), Nat.ne_of_lt (Nat.lt_of_lt_of_le hb h20)⟩
    have upA : ∀ b, lo < b → b ≠ z ∧ b ≠ TO ∧ b ≠ i1 ∧ b ≠ i2 := fun b hb => ⟨Nat.ne_of_gt (Nat.lt_of_le_of_lt lz hb), Nat.ne_of_gt (Nat.lt_of_le_of_lt lTO hb), Nat.ne_of_gt (Nat.lt_of_le_of_lt l1o hb), Nat.ne_of_gt (Nat.lt_of_le_of_lt l2o hb)⟩
    refine codeAny_builtin PySem.F.entry_extend_loop ?_
    rw [Around.under_plainId PySem.F.plain_extend_loop _]
    show wpAny _ A.in1 (pyNext (.ref z) >>= _) _ _ _
    refine wpAny_bind (zl_item (s := { s with heap := h, toks := tk }) D hst f (Heap.lt_size hS) (by omega) (by omega) fun h' hst' ht hz hkp => ?_)
    dsimp only at ht hz hkp ⊢
    have hS' := hkp S _ f.z.symm f.TO.symm f.i1.symm f.i2.symm hS
    have up : ∀ b o, b ≠ S → h'.get? b = some o → (h'.update S (Obj.mapSeq (·.push (Value.ref h.objs.size)))).get? b = some o := fun b o hb e => (Heap.get?_update_other _ _ (Ne.symm hb)).trans e
    have hSl : S < h.objs.size := Heap.lt_size hS
    show wpAny _ A.in1 (updateSeq S (·.push (Value.ref h.objs.size)) >>= _) _ _ _
    refine wpAny_bind ?_
    refine wpAny_updateSeq hS' rfl (wpAny_pure ⟨plainId_quiet PySem.F.plain_extend_loop _, ih (i + 1) _ tk _ (acc.push (Value.ref h.objs.size)) (as ++ [h.objs.size]) (by omega) hlt (hst'.keep f up)
      (fun b o h1 e => up b o (Nat.ne_of_lt (Nat.lt_of_lt_of_le h1 hS0)) (hkp b o (low b h1).1 (low b h1).2.1 (low b h1).2.2.1 (low b h1).2.2.2 (hkeep b o h1 e))) (Heap.get?_update_self _ hS' rfl) (by rw [Array.toList_push, hacc, List.map_append]; rfl) (by rw [List.length_append, hal]; rfl) ⟨?_, ?_, ?_⟩ ?_⟩) (by rw [hsz]; omega) (by show (acc.push (Value.ref h.objs.size)).size ≤ sizeLine + 1; rw [Array.size_push, hsz]; omega)
    · refine List.pairwise_append.mpr ⟨hG.rise, List.pairwise_singleton _ _, fun a ha b hb => ?_⟩
      rw [List.mem_singleton.mp hb]
      exact hG.there ha
    · intro a ha
      rcases List.mem_append.mp ha with ha | ha
      · exact hG.above a ha
      · rw [List.mem_singleton.mp ha]; exact hIs
    · intro j b hj
      rcases Nat.lt_trichotomy j as.length with h1 | h1 | h1
      · rw [List.getElem?_append_left h1] at hj
        obtain ⟨x, y, hx', hy', e3⟩ := hG.pairs j b hj
        have hb := hG.above b (List.mem_of_getElem? hj)
        have ub := upA b hb
        exact ⟨x, y, hx', hy', up b _ (Nat.ne_of_gt (Nat.lt_of_le_of_lt lS hb)) (hkp b _ ub.1 ub.2.1 ub.2.2.1 ub.2.2.2 e3)⟩
      · subst h1
        have hb : h.objs.size = b := by simpa using hj
        subst hb
        refine ⟨xs[i]'(by omega), ys[i]'(by omega), by rw [hal]; simp, by rw [hal]; simp, up _ _ (Nat.ne_of_gt hSl) ht⟩
      · have hnone : (as ++ [h.objs.size])[j]? = none := List.getElem?_eq_none (by rw [List.length_append, List.length_singleton]; omega)
        rw [hnone] at hj; cases hj
    · have e : (h'.update S (Obj.mapSeq (·.push (Value.ref h.objs.size)))).get? h.objs.size = _ := up _ _ (Nat.ne_of_gt hSl) ht
      exact Nat.lt_trans hIs (Heap.lt_size e)
theorem zl_hint {Q : Bool → Shared → Prop} (hT : s.TypeIs (.ref z) "zip") (h : Q true s) : wpAny (model prog w) A (Builtin.List.listLengthHint (.ref z)) Q E s := by
  unfold Builtin.List.listLengthHint
  refine wpAny_bind (wpAny_specialOf hT nolen_zip ?_)
  show wpAny _ A (specialOf (Value.ref z) (Str.ofString "__length_hint__") >>= _) _ _ _
  exact wpAny_bind (wpAny_specialOf hT nohint_zip (wpAny_pure h))
theorem zl_extend {R : Result → Shared → Prop} {N0 : Addr} {n : Nat} (hh : A.handled = none) (D : ZipApart z TI TO i1 i2 l1 l2) (f : Off S z TI TO i1 i2 l1 l2) (hz0 : N0 ≤ z) (hT0 : N0 ≤ TO) (h10 : N0 ≤ i1) (h20 : N0 ≤ i2) (hS0 : N0 ≤ S)
    (lz : z ≤ S) (lTO : TO ≤ S) (l1o : i1 ≤ S) (l2o : i2 ≤ S) (hx : xs.size = n) (hy : ys.size = n) (hn : n ≤ sizeLine) (res : Value) (c₀ : Nat) (hst : ZSt s.heap z TI TO i1 i2 l1 l2 xs ys S 0) (hzz : IsZip s.heap z TI TO .none)
    (hS : s.heap.get? S = some { cls := .type "list", data := .seq #[] c₀ })
    (hR : ∀ h' tk acc c as, (∀ b o, b < N0 → s.heap.get? b = some o → h'.get? b = some o) → h'.get? S = some { cls := .type "list", dict := none, data := .seq acc c, slots := #[] } → as.length = n → ZG xs ys S h' as →
      acc.toList = as.map Value.ref → R (.ok (.ret res)) { s with heap := h', toks := tk }) :
    wpAny (model prog w) A.in1 (Builtin.List.listExtendWith (.ref S) (.ref z) res)
      (fun fin s' => match fin with | .done f => R (.ok f) s' | .again c' => c'.quiet = true ∧ codeAny (model prog w) A c' R s') (fun e s' => R (.error e) s') s := by
  have hT : s.TypeIs (.ref z) "zip" := ⟨_, hzz, rfl⟩
  unfold Builtin.List.listExtendWith
  refine wpAny_bind (wpAny_typeOf (T := "zip") hT ?_)
  have h1 : Builtin.List.listSameRef (.ref S) (.ref z) = false := by simp [Builtin.List.listSameRef, f.z.symm]
  have h2 : (Value.type "zip" == Value.type "list") = false := by decide
  have h3 : (Value.type "zip" == Value.type "tuple") = false := by decide
  simp only [h1, h2, h3, Bool.or_false, Bool.false_eq_true, if_false]
  refine wpAny_bind (wpAny_pyIter_zip hzz ?_)
  refine wpAny_bind (wpAny_holding (zl_hint hT ?_))
  simp only [Bool.true_or, if_true]
  refine wpAny_bind (wpAny_rule ?_)
  refine wpAny_bind ?_
  show wpAny _ _ (updateSeq S (·.push .none) >>= fun _ => updateSeq S (·.pop)) _ _ _
  refine wpAny_bind (wpAny_updateSeq hS rfl ?_)
  have hS₂ := Heap.get?_update_self (Obj.mapSeq (·.push Value.none)) hS rfl
  refine wpAny_updateSeq (hz := by seq_fits) hS₂ rfl ?_
  have hS₃ := Heap.get?_update_self (Obj.mapSeq (·.pop)) hS₂ rfl
  have oth : ∀ b o, b ≠ S → s.heap.get? b = some o → ((s.heap.update S (Obj.mapSeq (·.push Value.none))).update S (Obj.mapSeq (·.pop))).get? b = some o := fun b o hb e =>
    (Heap.get?_update_other _ _ (Ne.symm hb)).trans ((Heap.get?_update_other _ _ (Ne.symm hb)).trans e)
  refine wpAny_pure ⟨plainId_quiet PySem.F.plain_extend_loop _, ?_⟩
  refine zl_loop (s := s) (N0 := N0) (lo := S) (n := n) (h₁ := s.heap) hh D f hz0 hT0 h10 h20 hS0 lz lTO l1o l2o (Nat.le_refl _) hx hy hn res hR n 0 _ s.toks _ _ [] (by omega) (Nat.zero_le _) (hst.keep f oth) (fun b o hb e => oth b o (Nat.ne_of_lt (Nat.lt_of_lt_of_le hb hS0)) e) hS₃ rfl rfl
    ⟨List.Pairwise.nil, (fun _ ha => nomatch ha), (fun j a hj => by simp at hj)⟩ (Heap.lt_size hS₃)
theorem zl_call {Q : Value → Shared → Prop} {N0 : Addr} {n : Nat} (hh : A.handled = none) (D : ZipApart z TI TO i1 i2 l1 l2) (hz0 : N0 ≤ z) (hT0 : N0 ≤ TO) (h10 : N0 ≤ i1) (h20 : N0 ≤ i2) (hN : N0 ≤ s.heap.objs.size)
    (hx : xs.size = n) (hy : ys.size = n) (hn : n ≤ sizeLine) (hst : ∀ S, s.heap.objs.size ≤ S → ZSt s.heap z TI TO i1 i2 l1 l2 xs ys S 0) (hzz : IsZip s.heap z TI TO .none)
    (lt : z < s.heap.objs.size ∧ TI < s.heap.objs.size ∧ TO < s.heap.objs.size ∧ i1 < s.heap.objs.size ∧ i2 < s.heap.objs.size ∧ l1 < s.heap.objs.size ∧ l2 < s.heap.objs.size)
    (hQ : ∀ h' tk acc c as, (∀ b o, b < N0 → s.heap.get? b = some o → h'.get? b = some o) → h'.get? s.heap.objs.size = some { cls := .type "list", dict := none, data := .seq acc c, slots := #[] } → as.length = n → ZG xs ys s.heap.objs.size h' as →
      acc.toList = as.map Value.ref → Q (.ref s.heap.objs.size) { s with heap := h', toks := tk }) :
    wpAny (model prog w) A (call (.type "list") [.ref z]) Q E s := by
  obtain ⟨t1, t2, t3, t4, t5, t6, t7⟩ := lt
  refine callType_codes (Q₁ := fun obj s₁ => obj = .ref s.heap.objs.size ∧ s₁ = { s with heap := s.heap.push { cls := .type "list", data := .seq #[] } }) PySem.F.called_list (PySem.F.typeCall_list_1 _) PySem.F.entry_list_init
    (code_list_new _ ⟨rfl, rfl⟩) fun obj s₁ h₁ => ?_
  obtain ⟨rfl, rfl⟩ := h₁
  have hS : (s.heap.push { cls := .type "list", data := .seq #[] }).get? s.heap.objs.size = some { cls := .type "list", data := .seq #[] } := Heap.get?_push_size _ rfl
  have f : Off s.heap.objs.size z TI TO i1 i2 l1 l2 := ⟨Nat.ne_of_lt t1, Nat.ne_of_lt t2, Nat.ne_of_lt t3, Nat.ne_of_lt t4, Nat.ne_of_lt t5, Nat.ne_of_lt t6, Nat.ne_of_lt t7⟩
  refine ⟨⟨_, hS, rfl⟩, PySem.F.args_list_init_2 _ _, ?_⟩
  show wpAny _ _ (do let old ← Builtin.List.listItems (.ref s.heap.objs.size); Builtin.List.listUpdate (.ref s.heap.objs.size) (fun _ => #[]); letGo old.toList.reverse; Builtin.List.listExtendWith (.ref s.heap.objs.size) (.ref z) .none) _ _ _
  refine wpAny_bind ?_
  unfold Builtin.List.listItems
  refine wpAny_bind (wpAny_seqItems hS rfl (wpAny_pure ?_))
  show wpAny _ _ (updateSeq s.heap.objs.size (fun _ => #[]) >>= fun _ => letGo (#[] : Array Value).toList.reverse >>= fun _ => Builtin.List.listExtendWith (.ref s.heap.objs.size) (.ref z) .none) _ _ _
  refine wpAny_bind (wpAny_updateSeq hS rfl ?_)
  have hS₂ := Heap.get?_update_self (Obj.mapSeq (fun _ => (#[] : Array Value))) hS rfl
  have oth : ∀ b o, b ≠ s.heap.objs.size → s.heap.get? b = some o → ((s.heap.push { cls := .type "list", data := .seq #[] }).update s.heap.objs.size (Obj.mapSeq (fun _ => (#[] : Array Value)))).get? b = some o :=
    fun b o hb e => (Heap.get?_update_other _ _ (Ne.symm hb)).trans (Heap.get?_push_of_some _ e)
  refine wpAny_bind (wpAny_letGo ?_)
  obtain ⟨c0, hS₃⟩ : ∃ c0, ((s.heap.push { cls := .type "list", data := .seq #[] }).update s.heap.objs.size (Obj.mapSeq (fun _ => (#[] : Array Value)))).get? s.heap.objs.size = some { cls := .type "list", data := .seq #[] c0 } := ⟨_, hS₂⟩
  refine zl_extend (A := A.in1) (s := { s with heap := (s.heap.push { cls := .type "list", data := .seq #[] }).update s.heap.objs.size (Obj.mapSeq (fun _ => (#[] : Array Value))) }) (N0 := N0) (n := n) hh D f hz0 hT0 h10 h20 hN (Nat.le_of_lt t1) (Nat.le_of_lt t3) (Nat.le_of_lt t4) (Nat.le_of_lt t5) hx hy hn .none c0 ((hst _ (Nat.le_refl _)).keep f oth) (oth _ _ f.z hzz) hS₃ (fun h' tk acc c as hk hS' hl hG hacc => ?_)
  exact ⟨rfl, hQ h' tk acc c as (fun b o hb e => hk b o hb (oth b o (Nat.ne_of_lt (Nat.lt_of_lt_of_le hb hN)) e)) hS' hl hG hacc⟩
end
end Zl
namespace Th
open PySem PySem.Spec PyProof.Rows L2
/-- the tuples tracked at their addresses -/
def putZ : Hp → List Addr → List (V × V) → Hp
  | H, a :: as, p :: kvs => putZ (upd H a (.tup [p.1, p.2])) as kvs
  | H, _, _ => H
theorem putZ_off {b : Addr} : ∀ (as : List Addr) (kvs : List (V × V)) (H : Hp), b ∉ as → putZ H as kvs b = H b
  | [], _, _, _ => rfl
  | _ :: _, [], _, _ => rfl
  | a :: as, p :: kvs, H, h => by
    show putZ (upd H a (.tup [p.1, p.2])) as kvs b = H b
    rw [putZ_off as kvs _ (fun z => h (List.mem_cons_of_mem _ z)), upd_ne (fun z => h (by rw [z]; exact List.mem_cons_self))]
theorem putZ_at : ∀ (as : List Addr) (kvs : List (V × V)) (H : Hp), as.length = kvs.length → as.Nodup → ∀ (j : Nat) (t : Addr), as[j]? = some t → ∃ p, kvs[j]? = some p ∧ putZ H as kvs t = some (.tup [p.1, p.2])
  | [], _, _, _, _, j, t, h => by simp at h
  | _ :: _, [], _, h, _, _, _, _ => by cases h
  | a :: as, p :: kvs, H, h, hn, 0, t, e => by
    have hn' := List.nodup_cons.mp hn
    have e' : a = t := by simpa using e
    subst e'
    refine ⟨p, rfl, ?_⟩
    show putZ (upd H a (.tup [p.1, p.2])) as kvs a = some (.tup [p.1, p.2])
    rw [putZ_off as kvs _ hn'.1, upd_same]
  | a :: as, p :: kvs, H, h, hn, j + 1, t, e => by
    have hn' := List.nodup_cons.mp hn
    exact putZ_at as kvs (upd H a (.tup [p.1, p.2])) (Nat.succ.inj h) hn'.2 j t (by simpa using e)
theorem valsRefs : ∀ as : List Addr, Vals (as.map V.ref) (as.map Value.ref)
  | [] => .nil
  | _ :: as => .cons rfl (valsRefs as)
def kListZ (K : PySem.W.Frag) (vs : List V) (H1 : Hp) (Q : VK) : Prop := ∃ a b xs ys, vs = [.ref a, .ref b] ∧ SqL K H1 a xs ∧ SqL K H1 b ys ∧ xs.length = ys.length ∧
  ∀ (H' : Hp) (p : Addr) (ts : List Addr), Same H1 H' → H1 p = none → (∀ t ∈ ts, H1 t = none) → p ∉ ts → H' p = some (.lst (ts.map V.ref)) → ts.length = xs.length →
    (∀ (j : Nat) (t : Addr), ts[j]? = some t → ∃ x y, xs[j]? = some x ∧ ys[j]? = some y ∧ H' t = some (.tup [x, y])) → Q (.ref p) H'
def tListZ (K : PySem.W.Frag) (ta : TA) : TE := fun σ H Q => ta σ H fun vs H1 => kListZ K vs H1 Q
section
variable {X : Cx} {e e2 : Expr} {ta : TA} {p p2 pos pos2 : Pos}
theorem zip_laid {pins : List (Addr × Obj)} {σ : L2.St} {H : Hp} {s : Shared} {h' : Heap} {tk N0 c : Nat} {xs ys : List V} {its its2 : List Value} {acc : Array Value} {as : List Addr} (I : Inv X pins σ H s) (hz : xs.length ≤ sizeLine) (r1 : Vals xs its) (r2 : Vals ys its2) (hxy : xs.length = ys.length)
    (hN : s.heap.objs.size ≤ N0) (hk : ∀ b o, b < s.heap.objs.size → s.heap.get? b = some o → h'.get? b = some o) (hS : h'.get? N0 = some { cls := .type "list", dict := none, data := .seq acc c, slots := #[] }) (hl : as.length = xs.length) (hG : Zl.ZG its.toArray its2.toArray N0 h' as) (hacc : acc.toList = as.map Value.ref) :
    ∃ H' : Hp, Same H H' ∧ H N0 = none ∧ (∀ t ∈ as, H t = none) ∧ N0 ∉ as ∧ H' N0 = some (.lst (as.map V.ref)) ∧ (∀ (j : Nat) (t : Addr), as[j]? = some t → ∃ x y, xs[j]? = some x ∧ ys[j]? = some y ∧ H' t = some (.tup [x, y])) ∧ Inv X pins σ H' { s with heap := h', toks := tk } := by
  have hkk : ∀ b o, s.heap.get? b = some o → h'.get? b = some o := fun b o e => hk b o (Heap.lt_size e) e
  have hSn : N0 ∉ as := fun z => Nat.lt_irrefl _ (hG.above _ z)
  have nd : as.Nodup := List.Pairwise.imp (fun {a b} (h : a < b) => Nat.ne_of_lt h) hG.rise
  have new : ∀ t ∈ as, H t = none := fun t ht => I.hok.fresh (Nat.le_trans hN (Nat.le_of_lt (hG.above t ht)))
  have newS : H N0 = none := I.hok.fresh hN
  have lz : as.length = (xs.zip ys).length := by rw [List.length_zip]; omega
  have atP := putZ_at as (xs.zip ys) (upd H N0 (.lst (as.map V.ref))) lz nd
  have off : ∀ b, b ∉ as → b ≠ N0 → putZ (upd H N0 (.lst (as.map V.ref))) as (xs.zip ys) b = H b := fun b h1 h2 => by rw [putZ_off as _ _ h1, upd_ne h2]
  have low : ∀ b o, s.heap.get? b = some o → b ∉ as ∧ b ≠ N0 := fun b o e => ⟨fun z => absurd (Heap.lt_size e) (Nat.not_lt.mpr (Nat.le_trans hN (Nat.le_of_lt (hG.above b z)))), Nat.ne_of_lt (Nat.lt_of_lt_of_le (Heap.lt_size e) hN)⟩
  have kp : ∀ b u, H b = some u → (putZ (upd H N0 (.lst (as.map V.ref))) as (xs.zip ys)) b = some u := fun b u e => by
    rw [off b (fun z => by rw [new b z] at e; cases e) (fun z => by rw [z, newS] at e; cases e)]
    exact e
  have eS : putZ (upd H N0 (.lst (as.map V.ref))) as (xs.zip ys) N0 = some (.lst (as.map V.ref)) := by rw [putZ_off as _ _ hSn, upd_same]
  have atQ : ∀ (j : Nat) (t : Addr), as[j]? = some t → ∃ x y, xs[j]? = some x ∧ ys[j]? = some y ∧ putZ (upd H N0 (.lst (as.map V.ref))) as (xs.zip ys) t = some (.tup [x, y]) := fun j t hj => by
    obtain ⟨p, hp, e⟩ := atP j t hj
    obtain ⟨h1, h2⟩ := List.getElem?_zip_eq_some.mp hp
    exact ⟨p.1, p.2, h1, h2, e⟩
  refine ⟨putZ (upd H N0 (.lst (as.map V.ref))) as (xs.zip ys), kp, newS, new, hSn, eS, atQ, ?_⟩
  refine I.call' (ch := []) rfl ⟨fun b o q _ _ _ => hkk b o q, fun b o q _ _ _ => ⟨o.slots, hkk b o q⟩, fun b o q n _ => ?_, fun b o q _ => ⟨o, hkk b o q⟩, fun b xs q => kp b _ q, fun b o u q => kp b _ q, fun b ps q => ⟨#[], by rw [kp b _ q]; simp⟩⟩ (fun b u q => ?_) I.bare fun b z => by simp at z
  · obtain ⟨z1, z2⟩ := low b o q
    rw [off b z1 z2]
    exact n
  · by_cases hb : b ∈ as
    · obtain ⟨j, hj⟩ := List.mem_iff_getElem?.mp hb
      obtain ⟨x, y, hx, hy, e3⟩ := atQ j b hj
      rw [e3] at q
      cases q
      obtain ⟨u, v, f1, f2, f3⟩ := hG.pairs j b hj
      obtain ⟨u', g1, g2⟩ := r1.get hx
      obtain ⟨v', g3, g4⟩ := r2.get hy
      have eu : u = u' := Option.some.inj ((by simpa using f1 : its[j]? = some u).symm.trans g1)
      have ev : v = v' := Option.some.inj ((by simpa using f2 : its2[j]? = some v).symm.trans g3)
      subst eu ev
      exact ⟨by show 2 ≤ sizeLine; decide, [u, v], .cons g2 (.cons g4 .nil), ⟨_, f3, rfl, _, rfl⟩⟩
    · by_cases hb2 : b = N0
      · subst hb2
        rw [eS] at q
        cases q
        refine ⟨by rw [List.length_map]; omega, acc.toList, c, by rw [hacc]; exact valsRefs as, ?_⟩
        rw [Array.toArray_toList]
        exact hS
      · rw [off b hb hb2] at q
        exact (I.hok b u q).stay (fun d v _ y => hkk d v y) (fun d y => kp d _ y) fun d xs y => kp d _ y
/-- list(zip(e, e2)) -/
theorem pe_listZip (hc : X.calm = true) (hg : Gl X "list") (hm : X.mg "list" = none) (hgz : Gl X "zip") (hmz : X.mg "zip" = none) (ha : PA X [e, e2] ta)
    (hs : starEach [.Call (.Name "zip" p2) [e, e2] [] pos2] X.env = (false, eval (.Call (.Name "zip" p2) [e, e2] [] pos2) X.env) :: starEach [] X.env := by rfl)
    (hsz : starEach [e, e2] X.env = (false, eval e X.env) :: starEach [e2] X.env := by rfl) (hpl : (backTo pos2 (starEach [e2] X.env)).any (·.1) = false := by rfl) :
    PE X (.Call (.Name "list" p) [.Call (.Name "zip" p2) [e, e2] [] pos2] [] pos) (tListZ X.K ta) := by
  refine ⟨fun pins s σ H Q I hq => ?_⟩
  refine wpAny_Call_Name_kw (ld_blt I hg hm boot_list ?_)
  refine PyProof.Rows.callWith_type1 ?_ hs rfl
  rw [hs]
  show wpAny _ _ (spliced ((false, eval (.Call (.Name "zip" p2) [e, e2] [] pos2) X.env) :: backTo pos (starEach [] X.env))) _ _ s
  refine Calls.spliced_cons ?_
  refine Call_ (ld_blt I hgz hmz PyProof.Rows.boot_zip (PyProof.Rows.callWith_type1 (thn (ha.run pos2 pins s σ H _ I hq) fun us s1 ⟨vs, H1, I1, r1, q1⟩ => ?_) hsz hpl))
  obtain ⟨a, b, xs, ys, ex, hqx, hqy, hxy, q⟩ := q1
  subst ex
  cases r1 with
  | cons r rr =>
    cases rr with
    | cons r' rr =>
      cases rr
      cases r
      cases r'
      obtain ⟨its, rv, p1, z1⟩ := I1.list hqx
      obtain ⟨its2, rv2, p2', z2⟩ := I1.list hqy
      have la : a < s1.heap.objs.size := p1.lt
      have lb : b < s1.heap.objs.size := p2'.lt
      refine call_zip_2 p1.isList p2'.isList fun h' hz hTI hTO h1 h2 hsz hk => ?_
      refine Calls.spliced_nil ?_
      have l1 := rv.length
      have l2 := rv2.length
      have big : ∀ k : Nat, k < 5 → s1.heap.objs.size + k < h'.objs.size := fun k hk => by rw [hsz]; omega
      refine Zl.zl_call (N0 := s1.heap.objs.size) (n := xs.length) (xs := its.toArray) (ys := its2.toArray) (I1.ok.hd hc) (PySem.W.ktu_apart s1.heap.objs.size a b la lb) (Nat.le_add_right _ _) (Nat.le_add_right _ _) (Nat.le_refl _) (Nat.le_add_right _ _) (by show s1.heap.objs.size ≤ h'.objs.size; rw [hsz]; exact Nat.le_add_right _ _)
        (by rw [List.size_toArray]; omega) (by rw [List.size_toArray]; omega) z1 (fun S hS => ⟨hTI, h1, h2, p1.isList.at fun o e => hk _ _ e, p2'.isList.at fun o e => hk _ _ e, .inl ⟨hz, _, _, hTO⟩⟩) hz
        ⟨big 4 (by decide), big 2 (by decide), big 3 (by decide), big 0 (by decide), big 1 (by decide), Nat.lt_trans la (big 0 (by decide)), Nat.lt_trans lb (big 0 (by decide))⟩ fun h2' tk acc c as hk2 hS2 hl hG hacc => ?_
      obtain ⟨H', k1, k2, k3, k4, k5, k6, J⟩ := zip_laid (tk := tk) I1 z1 rv rv2 hxy (show s1.heap.objs.size ≤ h'.objs.size by rw [hsz]; exact Nat.le_add_right _ _) (fun b o hb e => hk2 b o hb (hk b o e)) hS2 hl hG hacc
      exact ⟨.ref _, H', J, rfl, q H' _ as k1 k2 k3 k4 k5 hl k6⟩
end
end Th

/-! part B4 -/
namespace Th
open PySem PySem.Spec PyProof.Rows L2
/-! ### max of a tuple of ints -/
theorem iter_intTuple {prog : Program} {w : World} {A : Around} {E : Value → Shared → Prop} {s : Shared} {l : Addr} {its : Array Value} {Q : Value → Shared → Prop} (hl : s.heap.IsTuple l its)
    (h : ∀ s₂ : Shared, s₂ = { s with heap := s.heap.push { cls := .type "tuple_iterator", data := .fields #[.ref l, .int 0 0] } } →
      (s₂.heap.IsTupleIter s.heap.objs.size l 0 ∧ s₂.heap.IsTuple l its) → (∀ b ∈ [s.heap.objs.size, l], b < s₂.heap.objs.size) → l ≠ s.heap.objs.size → Q (.ref s.heap.objs.size) s₂) :
    wpAny (model prog w) A (pyIter (.ref l)) Q E s := by
  have hlt : l < s.heap.objs.size := by obtain ⟨_, e, _⟩ := hl; exact Heap.lt_size e
  refine wpAny_pyIter_tuple hl (h _ rfl ⟨⟨_, Heap.get?_push_size _ rfl, rfl, rfl⟩, hl.at fun o e => Heap.get?_push_of_some _ e⟩ (fun b hb => ?_) (Nat.ne_of_lt hlt))
  show b < (s.heap.push _).objs.size
  rw [Heap.size_push]
  rcases List.mem_cons.mp hb with rfl | hb
  · exact Nat.lt_succ_self _
  · rcases List.mem_cons.mp hb with rfl | hb
    · exact Nat.lt_succ_of_lt hlt
    · cases hb
theorem max_intTuple {prog : Program} {w : World} {A : Around} {E : Value → Shared → Prop} {s : Shared} {l : Addr} {its : List Value} {ns : List Int} {Q : Value → Shared → Prop} (hh : A.handled = none) (hl : s.heap.IsTuple l its.toArray) (hi : IntsAre its ns) (hne : 0 < ns.length)
    (h : ∀ h' tk M t', (∀ b o, s.heap.get? b = some o → h'.get? b = some o) → M ∈ ns → (∀ a, a ∈ ns → a ≤ M) → Q (.int M t') { s with heap := h', toks := tk }) : wpAny (model prog w) A (call (.builtin "max") [.ref l]) Q E s := by
  obtain ⟨xs, e⟩ := hi.allInts.items
  have hn : numsOf (intItems xs).toList = ns := by rw [← e]; exact hi.numsOf
  rw [nums_intItems] at hn
  subst hn
  rw [e] at hl
  have hsz : 0 < xs.size := by simpa using hne
  refine call_max_walk (iter_intTuple hl fun s₂ e st hfp hlI => ?_)
  subst e
  refine ⟨_, _, _, _, _, _, _, rfl, Walks.tuple (A := A.in1) hh _ l hlI (intItems xs), st, hfp, by simpa [intItems] using hsz, CmpOf.ints_gt (numAt xs) (fun _ _ => intItems_at), fun v h' tk hP hk => ?_⟩
  have hv : (intItems xs)[argBest (fun i j => decide (numAt xs i > numAt xs j)) (xs.size - 1)]? = some v := by simpa [intItems] using hP
  obtain ⟨t, rfl⟩ := intItems_at hv
  obtain ⟨h1, h2⟩ := argBest_gt (numAt xs) (xs.size - 1)
  refine h h' tk _ t (fun b o e => hk b o (fun hm => ?_) (Heap.get?_push_of_some _ e)) ?_ fun a ha => ?_
  · rcases List.mem_cons.mp hm with e1 | hm
    · exact absurd (e1 ▸ Heap.lt_size e) (Nat.lt_irrefl _)
    · cases hm
  · rw [numAt_eq]; exact PySem.getD_mem (by rw [List.length_map, Array.length_toList]; omega)
  · obtain ⟨j, hj, rfl⟩ := mem_getD ha
    rw [List.length_map, Array.length_toList] at hj
    rw [← numAt_eq]; exact h2 j (by omega)
section
variable {X : Cx} {l e e2 : Expr} {tl : TE} {ta : TA} {tg : Expr} {p pos tpos : Pos} {elts : List Expr} {kk : Nat}
def rMaxT (K : PySem.W.Frag) : List V → Hp → VK → Prop := fun vs H Q => ∃ (a : Addr) (ns : List Int), vs = [V.ref a] ∧ SqT K H a (ns.map V.int) ∧ 0 < ns.length ∧ ∀ m, m ∈ ns → (∀ y, y ∈ ns → y ≤ m) → Q (.int m) H
theorem cr_maxT (hc : X.calm = true) : CallR X (.builtin "max") (rMaxT X.K) := by
  intro pins s σ H vs us Q I r h
  obtain ⟨a, ns, rfl, hs, hne, q⟩ := h
  obtain ⟨its, rv, hl, _⟩ := I.tuple hs
  rw [Vals.ref1 r]
  exact max_intTuple (I.ok.hd hc) (show s.heap.IsTuple a its.toArray from hl) rv.ints hne fun h' tk m t' hk h1 h2 => ⟨.int _, H, I.kept hk, ⟨_, rfl⟩, q m h1 h2⟩
/-! ### lcm -/
def rLcm : List V → Hp → VK → Prop := fun vs H Q => ∃ a b : Int, vs = [.int a, .int b] ∧ a.natAbs < 2 ^ 13000 ∧ b.natAbs < 2 ^ 13000 ∧ Q (.int ((Nat.lcm a.natAbs b.natAbs : Nat) : Int)) H
theorem log_small {n k : Nat} (h : n < 2 ^ k) (h0 : 0 < k) : n.log2 < k := by
  by_cases z : n = 0
  · subst z; rw [Nat.log2_zero]; exact h0
  · exact (Nat.log2_lt z).mpr h
theorem cr_lcm : CallR X (.builtin "math.lcm") rLcm := by
  intro pins s σ H vs us Q I r h
  obtain ⟨a, b, rfl, ha, hb, q⟩ := h
  obtain ⟨t, u, rfl⟩ := Vals.int2 r
  have la := log_small (show max 1 a.natAbs < 2 ^ 13000 from Nat.max_lt.mpr ⟨Nat.one_lt_two_pow (by decide), ha⟩) (by decide)
  have lb := log_small (show max a.natAbs b.natAbs < 2 ^ 13000 from Nat.max_lt.mpr ⟨ha, hb⟩) (by decide)
  have e1 : Nat.lcm 1 a.natAbs = a.natAbs := Nat.lcm_one_left _
  have hsz : ((((Nat.lcm 1 a.natAbs).lcm b.natAbs : Nat) : Int)).natAbs.log2 < bitsLine := by
    rw [e1, Int.natAbs_natCast]
    have h1 : a.natAbs.lcm b.natAbs ≤ a.natAbs * b.natAbs := Nat.div_le_self _ _
    have h2 : a.natAbs.lcm b.natAbs < 2 ^ (13000 + 13000) := Nat.lt_of_le_of_lt h1 (by rw [Nat.pow_add]; exact Nat.mul_lt_mul'' ha hb)
    have h3 := log_small h2 (by decide)
    have e : bitsLine = 134217728 := by decide
    rw [e]; omega
  have g := PySem.W.mg_run_lcm a t b u (by omega) (by omega) hsz
  rw [e1] at g
  exact call_function_meets PySem.W.MGF.kind_lcm PySem.W.MGF.plain_lcm PySem.W.MGF.entry_lcm (PySem.W.MGF.args_lcm _ _) g.meets ⟨.int _, H, I.tok _, ⟨_, rfl⟩, q⟩
/-! ### subscripts, lengths, copies by names without the context -/
def rIxLT (K : PySem.W.Frag) : R2 := fun x y H Q => rIxL K x y H Q ∨ rIxT K x y H Q
theorem ix_lt : IxR X (rIxLT X.K) := ix_list.or ix_tup
def rLenQ (K : PySem.W.Frag) : List V → Hp → VK → Prop := fun xs H Q => ∃ p ys, xs = [.ref p] ∧ (SqL K H p ys ∨ SqT K H p ys) ∧ Q (.int ys.length) H
def rListQ (K : PySem.W.Frag) : List V → Hp → VK → Prop := fun xs H Q => ∃ p ys, xs = [.ref p] ∧ (SqL K H p ys ∨ SqT K H p ys) ∧ ∀ l, H l = none → Q (.ref l) (upd H l (.lst ys))
def rTupleQ (K : PySem.W.Frag) : List V → Hp → VK → Prop := fun xs H Q => ∃ p ys, xs = [.ref p] ∧ ((SqL K H p ys ∧ ∀ l, H l = none → Q (.ref l) (upd H l (.tup ys))) ∨ (SqT K H p ys ∧ Q (.ref p) H))
def tTru (K : PySem.W.Frag) (ta : TE) : TT := fun σ H Q => ta σ H fun x H' => ∃ k, TruV K x H' k ∧ Q k H'
theorem pt_truK {a : Expr} {ta : TE} (ha : PE X a ta) (he : ∀ whole, isTrue a X.env whole = (do let v ← whole; standAt a.pos; holding [v] (truthy v))) : PT X a (tTru X.K ta) := pt_truth ha he
/-! ### walks of a list or a tuple -/
def iSeq (K : PySem.W.Frag) (tl : TE) : TI := fun σ H R => tl σ H fun x H1 => ∃ a xs, x = .ref a ∧ ((SqL K H1 a xs ∧ R (Itl K a) H1) ∨ (SqT K H1 a xs ∧ R (Itt K a) H1))
theorem pi_seq (hl : PE X l tl) : PI X tg l (iSeq X.K tl) := by
  refine ⟨fun pins s σ H R I h => ?_⟩
  refine thn (hl.run pins s σ H _ I h) fun v s1 ⟨x, H1, I1, r1, q1⟩ => ?_
  obtain ⟨a, xs, e, q1⟩ := q1
  subst e
  cases r1
  rcases q1 with ⟨hq, q⟩ | ⟨hq, q⟩
  · obtain ⟨its, rv, p, hz⟩ := I1.list hq
    refine wpAny_pyIter_list p.isList ?_
    refine ⟨s1.heap.objs.size, [s1.heap.objs.size], _, _, H1, rfl, I1.kept (t' := s1.toks) fun b o e => Heap.get?_push_of_some _ e, turn_list a _, ⟨_, Heap.get?_push_size _ rfl, rfl, rfl⟩, fun b hb => ?_, q⟩
    have e : b = s1.heap.objs.size := by simpa using hb
    subst e
    exact I1.fpOk (Nat.le_refl _) (I1.hok.fresh (Nat.le_refl _))
  · obtain ⟨its, rv, p, hz⟩ := I1.tuple hq
    refine wpAny_pyIter_tuple (show s1.heap.IsTuple a its.toArray from p) ?_
    refine ⟨s1.heap.objs.size, [s1.heap.objs.size], _, _, H1, rfl, I1.kept (t' := s1.toks) fun b o e => Heap.get?_push_of_some _ e, turn_tuple a _, ⟨_, Heap.get?_push_size _ rfl, rfl, rfl⟩, fun b hb => ?_, q⟩
    have e : b = s1.heap.objs.size := by simpa using hb
    subst e
    exact I1.fpOk (Nat.le_refl _) (I1.hok.fresh (Nat.le_refl _))
end
end Th

/-! part B5 -/
namespace Th
open PySem PySem.Spec PyProof.Rows L2
/-! ### enumerate of a tuple -/
set_option maxHeartbeats 4000000 in
theorem meets_enum1 {v : Value} {o : Obj} {H : Heap → Prop} (B : Begins v o H) :
    Meets (Builtin.«enumerate.__new__» ⟨[.type "enumerate", v], []⟩) (fun _ R s => H s.heap ∧
      R (.ok (.ret (.ref (s.heap.push o).objs.size))) { s with heap := (s.heap.push o).push { cls := .type "enumerate", data := .fields #[.none, .bool false, .ref s.heap.objs.size, rawInt 0, .none, .none] } }) :=
  .of_wp fun prog w A R s h => by
    obtain ⟨hp, g, d, tk, os⟩ := s; obtain ⟨h1, h⟩ := h
    have hsub := sub_enumerate
    have q1 : ∀ {A' : Around} {E : Value → Shared → Prop} {Q : Value → Shared → Prop}, Q (.ref hp.objs.size) ⟨hp.push o, g, d, tk, os⟩ → wpAny (model prog w) A' (pyIter v) Q E ⟨hp, g, d, tk, os⟩ :=
      fun q => B.iter prog w _ _ ⟨hp, g, d, tk, os⟩ _ h1 q
    wp_walk using q1
    refine wpAny_stack_any fun st => wpAny_pure ?_
    split
    · rename_i c _ _ _ _ _
      cases (c == Value.type "enumerate")
      · wp_walk using q1
        exact ⟨_, rfl, h⟩
      · wp_walk using q1
        exact ⟨_, rfl, h⟩
    · wp_walk using q1
      exact ⟨_, rfl, h⟩
section
variable {prog : Program} {w : World} {A : Around} {E : Value → Shared → Prop} {s : Shared}
theorem enum_begins1 {v : Value} {o : Obj} {H : Heap → Prop} {Q : Value → Shared → Prop} (B : Begins v o H) (h1 : H s.heap)
    (h : ∀ h', IsEnum h' (s.heap.objs.size + 1) s.heap.objs.size 0 .none → h'.get? s.heap.objs.size = some o → h'.objs.size = s.heap.objs.size + 2 →
      (∀ b o, s.heap.get? b = some o → h'.get? b = some o) → Q (.ref (s.heap.objs.size + 1)) { s with heap := h' }) :
    wpAny (model prog w) A (call (.type "enumerate") [v]) Q E s := by
  refine callType_new F.called_enumerate (by decide) (F.typeCall_enumerate_1 _) (F.newCall_enumerate_1 _) (fun obj => F.args_object_init_2 obj _) F.entry_enumerate_new
    (meets_enum1 B) ⟨h1, ?_⟩
  have hz : (s.heap.push o).objs.size = s.heap.objs.size + 1 := Heap.size_push ..
  show _ ∧ _
  rw [hz]
  have he : IsEnum ((s.heap.push o).push { cls := .type "enumerate", data := .fields #[.none, .bool false, .ref s.heap.objs.size, rawInt 0, .none, .none] }) (s.heap.objs.size + 1) s.heap.objs.size 0 .none := by
    have := Heap.get?_push_size (s.heap.push o) (o := { cls := .type "enumerate", data := .fields #[.none, .bool false, .ref s.heap.objs.size, rawInt 0, .none, .none] }) rfl
    rw [hz] at this; exact this
  exact ⟨⟨_, he, rfl⟩, h _ he (Heap.get?_push_of_some _ (Heap.get?_push_size _ B.free)) (by rw [Heap.size_push, hz]) fun b o x => Heap.get?_push_of_some _ (Heap.get?_push_of_some _ x)⟩
end
/-- the tuple at a, each item in a new pair -/
def IteT (K : PySem.W.Frag) (a : Addr) : It :=
  ⟨fun i H => ∃ (xs : List V) (x : V), SqT K H a xs ∧ xs[i]? = some x, fun i H v H' => ∃ T x, v = .ref T ∧ H T = none ∧ H' = upd H T (.tup [.int (i : Nat), x]) ∧ ∀ xs, SqT K H a xs → xs[i]? = some x, fun i H => ∃ xs : List V, SqT K H a xs ∧ xs.length = i⟩
theorem turn_enumT {P : Program} {w : World} {K : PySem.W.Frag} {elts : List Expr} {kk : Nat} {tpos : Pos} (a e it : Addr) (ha1 : a ≠ it) (ha2 : a ≠ e) :
    Turn P w K (.Tuple elts kk tpos) (IteT K a) [e, it] e (fun i h => (∃ old, IsEnum h e it ((i : Nat) : Int) old) ∧ h.IsTupleIter it a i ∧ e ≠ it) where
  mem := by simp
  obj := fun i h st b hb => by
    obtain ⟨⟨old, he⟩, ⟨o, ho, hc, hd⟩, _⟩ := st
    have e' : b = e ∨ b = it := by simpa using hb
    rcases e' with z | z
    · rw [z]; exact ⟨_, he, fun v q => nomatch q⟩
    · rw [z]; exact ⟨o, ho, fun v q => by rw [hd] at q; cases q⟩
  keep := fun i h h' st k => let ⟨⟨old, he⟩, hi, hne⟩ := st; ⟨⟨old, k e (by simp) _ he⟩, hi.at fun o q => k it (by simp) o q, hne⟩
  item := by
    intro X hP hw hK hc i pins s σ H E I hf st hg
    subst hP hw hK
    obtain ⟨⟨old, he⟩, hit, hne⟩ := st
    obtain ⟨xs, x, hq, hx⟩ := hg
    obtain ⟨its, rv, p, hz⟩ := I.tuple hq
    obtain ⟨u, hu, ru⟩ := rv.get hx
    have hel : e < s.heap.objs.size := Heap.lt_size he
    have hil : it < s.heap.objs.size := by obtain ⟨_, q, _⟩ := hit; exact Heap.lt_size q
    have hi : i < its.toArray.size := by rw [List.size_toArray]; exact (List.getElem?_eq_some_iff.mp hu).1
    refine wpAny_pyNext_enum_itemC (Draws.tuple (A := X.A.in1) (I.ok.hd hc) it a ha1 its.toArray) he ⟨hit, p⟩ hi hne (by simp [hne, ha2.symm]) fun u' h' tk hP' ho hst' hT hsz hk => ?_
    have eu : u' = u := Option.some.inj (hP'.symm.trans (by simpa using hu))
    subst eu
    refine ⟨_, rfl, wpAny_letOwnedTupleGo_enum (s := { s with heap := h', toks := tk + 1 }) ho fun h'' he' sb => ?_⟩
    have hT2 : h''.get? s.heap.objs.size = some { cls := .type "tuple", data := .seq #[.int i tk, u'] } := (sb.2 _ (Nat.ne_of_gt hel)).trans hT
    have new : ObjOk X.prog X.w (upd H s.heap.objs.size (.tup [.int (i : Nat), x])) h'' s.heap.objs.size (.tup [.int (i : Nat), x]) :=
      ⟨by show 2 ≤ sizeLine; decide, [.int i tk, u'], .cons ⟨_, rfl⟩ (.cons ru .nil), ⟨_, hT2, rfl, _, rfl⟩⟩
    have I1 : Inv X pins σ (upd H s.heap.objs.size (.tup [.int (i : Nat), x])) { s with heap := h'', toks := tk + 1 } :=
      I.turnedNew (ch := [e, it]) (fun b ob hb q => (sb.2 b (fun z => hb (by simp [z]))).trans (hk b ob (fun z => hb (by simp [z])) (fun z => hb (by simp [z])) q)) hf (Nat.le_refl _) new
    refine ⟨.ref s.heap.objs.size, _, I1, rfl, ⟨_, x, rfl, I.hok.fresh (Nat.le_refl _), rfl, fun ys hy => by rw [I.tuple_inj hy hq]; exact hx⟩, ⟨⟨u', ?_⟩, hst'.1.at fun o q => (sb.2 it (Ne.symm hne)).trans q, hne⟩, fun b hb => ?_⟩
    · have e1 : ((i + 1 : Nat) : Int) = (i : Int) + 1 := by omega
      rw [e1]; exact he'
    · have hb' : b < s.heap.objs.size := by
        have e' : b = e ∨ b = it := by simpa using hb
        rcases e' with z | z
        · rw [z]; exact hel
        · rw [z]; exact hil
      rw [upd_ne (Nat.ne_of_lt hb')]
      exact (hf b hb).1
  done := by
    intro X hP hw hK hc i pins s σ H E I hf st hg
    subst hP hw hK
    obtain ⟨⟨old, he⟩, hit, hne⟩ := st
    obtain ⟨xs, hq, hx⟩ := hg
    obtain ⟨its, rv, p, hz⟩ := I.tuple hq
    obtain ⟨f0, f1, f2, f3, f4, f5⟩ := hf it (by simp)
    have hl := rv.length
    have D := Draws.tuple (A := X.A.in1) (prog := X.prog) (w := X.w) (I.ok.hd hc) it a ha1 its.toArray
    have hn : its.toArray.size = i := by rw [List.size_toArray]; omega
    exact wpAny_pyNext_enum_endD D he ⟨by rw [hn]; exact hit, p⟩ fun h' eb => ⟨rfl, I.turned (t' := s.toks) (fun b o hb q => eb b o hb q) f0 f1 f3 f4 f5⟩
  self := fun A i s Q E st h => let ⟨⟨_, he⟩, _⟩ := st; wpAny_pyIter_enum he h
theorem walk_enumT {K : PySem.W.Frag} {a : Addr} {xs : List V} : Walk (IteT K a) xs.length (fun H => SqT K H a xs) (YPair (fun i => some (.int (i : Nat))) (fun i => xs[i]?)) := by
  refine ⟨fun i _ hi q => ⟨xs, xs[i], q, by simp [hi]⟩, fun _ q => ⟨xs, q, rfl⟩, fun i H v H' _ q y => ?_⟩
  obtain ⟨T, x, h1, h2, h3, h4⟩ := y
  exact ⟨T, .int (i : Nat), x, h1, h2, h3, rfl, h4 xs q⟩
def iEnumA (K : PySem.W.Frag) (ta : TA) : TI := fun σ H R => ta σ H fun vs H1 => ∃ a xs, vs = [.ref a] ∧ ((SqL K H1 a xs ∧ R (Ite K a) H1) ∨ (SqT K H1 a xs ∧ R (IteT K a) H1))
theorem pi_enumA {X : Cx} {e : Expr} {ta : TA} {p pos tpos : Pos} {elts : List Expr} {kk : Nat} (hg : Gl X "enumerate") (hm : X.mg "enumerate" = none) (ha : PA X [e] ta) (hs : starEach [e] X.env = [(false, eval e X.env)] := by rfl) :
    PI X (.Tuple elts kk tpos) (.Call (.Name "enumerate" p) [e] [] pos) (iEnumA X.K ta) := by
  refine ⟨fun pins s σ H R I h => ?_⟩
  refine Call_ (ld_blt I hg hm boot_enumerate (PyProof.Rows.callWith_type1 (thn (ha.run pos pins s σ H _ I h) fun us s1 ⟨vs, H1, I1, r1, q1⟩ => ?_) hs rfl))
  obtain ⟨a, xs, ex, q1⟩ := q1
  subst ex
  cases r1 with
  | cons r rr =>
    cases rr
    cases r
    have fresh2 : ∀ b, b ∈ [s1.heap.objs.size + 1, s1.heap.objs.size] → FpOk X pins H1 b := fun b hb => by
      have e' : b = s1.heap.objs.size + 1 ∨ b = s1.heap.objs.size := by simpa using hb
      have hle : s1.heap.objs.size ≤ b := by
        rcases e' with z | z
        · rw [z]; exact Nat.le_add_right _ _
        · rw [z]; exact Nat.le_refl _
      exact I1.fpOk hle (I1.hok.fresh hle)
    rcases q1 with ⟨hq, q⟩ | ⟨hq, q⟩
    · obtain ⟨its, rv, p', hz⟩ := I1.list hq
      refine call_enumerate_list p'.isList fun h' he hit hsz hk => wpAny_pyIter_enum he ?_
      have I2 : Inv X pins σ H1 { s1 with heap := h' } := I1.kept (t' := s1.toks) hk
      exact ⟨s1.heap.objs.size + 1, [s1.heap.objs.size + 1, s1.heap.objs.size], _, _, H1, rfl, I2, turn_enum a (s1.heap.objs.size + 1) s1.heap.objs.size, ⟨⟨.none, he⟩, hit, Nat.succ_ne_self _⟩, fresh2, q⟩
    · obtain ⟨its, rv, p', hz⟩ := I1.tuple hq
      have pl : a < s1.heap.objs.size := by obtain ⟨_, q, _⟩ := id p'; exact Heap.lt_size q
      refine enum_begins1 (begins_tuple a its.toArray) p' fun h' he hit hsz hk => wpAny_pyIter_enum he ?_
      have I2 : Inv X pins σ H1 { s1 with heap := h' } := I1.kept (t' := s1.toks) hk
      exact ⟨s1.heap.objs.size + 1, [s1.heap.objs.size + 1, s1.heap.objs.size], _, _, H1, rfl, I2, turn_enumT a (s1.heap.objs.size + 1) s1.heap.objs.size (Nat.ne_of_lt pl) (Nat.ne_of_lt (Nat.lt_succ_of_lt pl)), ⟨⟨.none, he⟩, ⟨_, hit, rfl, rfl⟩, Nat.succ_ne_self _⟩, fresh2, q⟩
/-! ### zip of a tuple and a list -/
def ItzM (K : PySem.W.Frag) (a b : Addr) : It :=
  ⟨fun i H => ∃ (xs ys : List V) (x y : V), SqT K H a xs ∧ SqL K H b ys ∧ xs[i]? = some x ∧ ys[i]? = some y,
    fun i H v H' => ∃ T x y, v = .ref T ∧ H T = none ∧ H' = upd H T (.tup [x, y]) ∧ (∀ xs, SqT K H a xs → xs[i]? = some x) ∧ ∀ ys, SqL K H b ys → ys[i]? = some y,
    fun i H => ∃ xs ys : List V, SqT K H a xs ∧ SqL K H b ys ∧ xs.length = i ∧ ys.length = i⟩
theorem turn_zipM {P : Program} {w : World} {K : PySem.W.Frag} {elts : List Expr} {kk : Nat} {tpos : Pos} {a b N : Addr} (ha : a < N) (hb : b < N) :
    Turn P w K (.Tuple elts kk tpos) (ItzM K a b) [N + 4, N + 3, N, N + 1, N + 2] (N + 4) (fun i h => IsZip h (N + 4) (N + 2) (N + 3) .none ∧ IsTupOf2 h (N + 2) (.ref N) (.ref (N + 1)) ∧ (∃ x y, IsTupOf2 h (N + 3) x y) ∧ h.IsTupleIter N a i ∧ h.IsListIter (N + 1) b i) where
  mem := by simp
  obj := fun i h st c hc => by
    obtain ⟨hz, hTI, ⟨x, y, hTO⟩, ⟨o1, e1, _, d1⟩, ⟨o2, e2, _, d2⟩⟩ := st
    have e' : c = N + 4 ∨ c = N + 3 ∨ c = N ∨ c = N + 1 ∨ c = N + 2 := by simpa using hc
    rcases e' with q | q | q | q | q
    · rw [q]; exact ⟨_, hz, fun v q => nomatch q⟩
    · rw [q]; exact ⟨_, hTO, fun v q => nomatch q⟩
    · rw [q]; exact ⟨o1, e1, fun v q => by rw [d1] at q; cases q⟩
    · rw [q]; exact ⟨o2, e2, fun v q => by rw [d2] at q; cases q⟩
    · rw [q]; exact ⟨_, hTI, fun v q => nomatch q⟩
  keep := fun i h h' st k => by
    obtain ⟨hz, hTI, ⟨x, y, hTO⟩, h1, h2⟩ := st
    exact ⟨k (N + 4) (by simp) _ hz, k (N + 2) (by simp) _ hTI, ⟨x, y, k (N + 3) (by simp) _ hTO⟩, h1.at fun o q => k N (by simp) o q, h2.at fun o q => k (N + 1) (by simp) o q⟩
  item := by
    intro X hP hw hK hc i pins s σ H E I hf st hg
    subst hP hw hK
    obtain ⟨hz, hTI, ⟨x0, y0, hTO⟩, h1, h2⟩ := st
    obtain ⟨xs, ys, x, y, hqx, hqy, hx, hy⟩ := hg
    obtain ⟨its, rv, p, _⟩ := I.tuple hqx
    obtain ⟨its2, rv2, p2, _⟩ := I.list hqy
    obtain ⟨u, hu, ru⟩ := rv.get hx
    obtain ⟨u2, hu2, ru2⟩ := rv2.get hy
    have hzl : N + 4 < s.heap.objs.size := Heap.lt_size hz
    have S := zip_sep2 (N := N) (fp1 := [a]) (fp2 := [b]) (by simpa using ha) (by simpa using hb)
    have hi1 : i < its.toArray.size := by rw [List.size_toArray]; exact (List.getElem?_eq_some_iff.mp hu).1
    have hi2 : i < its2.toArray.size := by rw [List.size_toArray]; exact (List.getElem?_eq_some_iff.mp hu2).1
    refine wpAny_pyNext_zipD2_item S (Draws.tuple (A := X.A.in1) (I.ok.hd hc) N a (Nat.ne_of_lt ha) its.toArray) (Draws.list (A := X.A.in1) (I.ok.hd hc) (N + 1) b (Nat.ne_of_lt (Nat.lt_succ_of_lt hb)) its2.toArray) hz hTI hTO ⟨h1, p⟩ ⟨h2, p2.isList⟩ hi1 hi2 fun v1 v2 h' tk g1 g2 z' TO' st1' st2' hT hsz hk => ?_
    have eu : v1 = u := Option.some.inj (g1.symm.trans (by simpa using hu))
    have eu2 : v2 = u2 := Option.some.inj (g2.symm.trans (by simpa using hu2))
    subst eu eu2
    refine ⟨_, rfl, wpAny_letOwnedTupleGo_zip (s := { s with heap := h', toks := tk }) z' fun h'' z'' sb => ?_⟩
    have hT2 : h''.get? s.heap.objs.size = some { cls := .type "tuple", data := .seq #[v1, v2] } := (sb.2 _ (Nat.ne_of_gt hzl)).trans hT
    have new : ObjOk X.prog X.w (upd H s.heap.objs.size (.tup [x, y])) h'' s.heap.objs.size (.tup [x, y]) :=
      ⟨by show 2 ≤ sizeLine; decide, [v1, v2], .cons ru (.cons ru2 .nil), ⟨_, hT2, rfl, _, rfl⟩⟩
    have I1 : Inv X pins σ (upd H s.heap.objs.size (.tup [x, y])) { s with heap := h'', toks := tk } :=
      I.turnedNew (ch := [N + 4, N + 3, N, N + 1, N + 2]) (fun c o hb q => (sb.2 c (fun q' => hb (by simp [q']))).trans (hk c o (fun q' => hb (by simp [q'])) (fun q' => hb (by simp [q'])) (fun q' => hb (by simp [q'])) (fun q' => hb (by simp [q'])) q)) hf (Nat.le_refl _) new
    refine ⟨.ref s.heap.objs.size, _, I1, rfl, ⟨_, x, y, rfl, I.hok.fresh (Nat.le_refl _), rfl, fun l hl => by rw [I.tuple_inj hl hqx]; exact hx, fun l hl => by rw [I.list_inj hl hqy]; exact hy⟩, ⟨z'', ?_, ⟨v1, v2, ?_⟩, ?_, ?_⟩, fun c hcm => ?_⟩
    · exact (sb.2 _ S.TIz).trans (hk _ _ S.TIz S.TITO S.TIi1 S.TIi2 hTI)
    · exact (sb.2 _ S.TOz).trans TO'
    · exact st1'.1.at fun o q => (sb.2 _ S.zi1.symm).trans q
    · exact st2'.1.at fun o q => (sb.2 _ S.zi2.symm).trans q
    · have hlt : c < s.heap.objs.size := by
        have e' : c = N + 4 ∨ c = N + 3 ∨ c = N ∨ c = N + 1 ∨ c = N + 2 := by simpa using hcm
        rcases e' with q | q | q | q | q
        · rw [q]; exact hzl
        · rw [q]; exact Nat.lt_of_le_of_lt (Nat.add_le_add_left (show 3 ≤ 4 by decide) _) hzl
        · rw [q]; exact Nat.lt_of_le_of_lt (Nat.le_add_right _ _) hzl
        · rw [q]; exact Nat.lt_of_le_of_lt (Nat.add_le_add_left (show 1 ≤ 4 by decide) _) hzl
        · rw [q]; exact Nat.lt_of_le_of_lt (Nat.add_le_add_left (show 2 ≤ 4 by decide) _) hzl
      rw [upd_ne (Nat.ne_of_lt hlt)]
      exact (hf c hcm).1
  done := by
    intro X hP hw hK hc i pins s σ H E I hf st hg
    subst hP hw hK
    obtain ⟨hz, hTI, ⟨x0, y0, hTO⟩, h1, h2⟩ := st
    obtain ⟨xs, ys, hqx, hqy, hend1, hend2⟩ := hg
    obtain ⟨its, rv, p, _⟩ := I.tuple hqx
    obtain ⟨its2, rv2, p2, _⟩ := I.list hqy
    have l1 := rv.length
    have l2 := rv2.length
    have n1 : i = its.toArray.size := by rw [List.size_toArray]; omega
    have n2 : i = its2.toArray.size := by rw [List.size_toArray]; omega
    have S := zip_sep2 (N := N) (fp1 := [a]) (fp2 := [b]) (by simpa using ha) (by simpa using hb)
    exact wpAny_pyNext_zipD2_end S (Draws.tuple (A := X.A.in1) (I.ok.hd hc) N a (Nat.ne_of_lt ha) its.toArray) (Draws.list (A := X.A.in1) (I.ok.hd hc) (N + 1) b (Nat.ne_of_lt (Nat.lt_succ_of_lt hb)) its2.toArray) hz hTI hTO ⟨h1, p⟩ ⟨h2, p2.isList⟩ (Nat.le_of_eq n1) (Nat.le_of_eq n2) (.inl n1) fun h' tk hk => ⟨rfl, I.turnedL (ch := [N + 4, N + 3, N, N + 1, N + 2]) (fun c o hb q =>
      hk c o (fun q' => hb (by simp [q'])) (fun q' => hb (by simp [q'])) (fun q' => hb (by simp [q'])) (fun q' => hb (by simp [q'])) q) hf⟩
  self := fun A i s Q E st h => wpAny_pyIter_zip st.1 h
def iZipM (K : PySem.W.Frag) (ta : TA) : TI := fun σ H R => ta σ H fun vs H1 => ∃ a b xs ys, vs = [.ref a, .ref b] ∧ SqT K H1 a xs ∧ SqL K H1 b ys ∧ R (ItzM K a b) H1
theorem pi_zipTL {X : Cx} {e e2 : Expr} {ta : TA} {p pos tpos : Pos} {elts : List Expr} {kk : Nat} (hg : Gl X "zip") (hm : X.mg "zip" = none) (ha : PA X [e, e2] ta)
    (hs : starEach [e, e2] X.env = (false, eval e X.env) :: starEach [e2] X.env := by rfl) (hpl : (backTo pos (starEach [e2] X.env)).any (·.1) = false := by rfl) :
    PI X (.Tuple elts kk tpos) (.Call (.Name "zip" p) [e, e2] [] pos) (iZipM X.K ta) := by
  refine ⟨fun pins s σ H R I h => ?_⟩
  refine Call_ (ld_blt I hg hm PyProof.Rows.boot_zip (PyProof.Rows.callWith_type1 (thn (ha.run pos pins s σ H _ I h) fun us s1 ⟨vs, H1, I1, r1, q1⟩ => ?_) hs hpl))
  obtain ⟨a, b, xs, ys, ex, hqx, hqy, q⟩ := q1
  subst ex
  cases r1 with
  | cons r rr =>
    cases rr with
    | cons r' rr =>
      cases rr
      cases r
      cases r'
      have fresh5 : ∀ c, c ∈ [s1.heap.objs.size + 4, s1.heap.objs.size + 3, s1.heap.objs.size, s1.heap.objs.size + 1, s1.heap.objs.size + 2] → FpOk X pins H1 c := fun c hcm => by
        have e' : c = s1.heap.objs.size + 4 ∨ c = s1.heap.objs.size + 3 ∨ c = s1.heap.objs.size ∨ c = s1.heap.objs.size + 1 ∨ c = s1.heap.objs.size + 2 := by simpa using hcm
        have hle : s1.heap.objs.size ≤ c := by
          rcases e' with z | z | z | z | z
          · rw [z]; exact Nat.le_add_right _ _
          · rw [z]; exact Nat.le_add_right _ _
          · rw [z]; exact Nat.le_refl _
          · rw [z]; exact Nat.le_add_right _ _
          · rw [z]; exact Nat.le_add_right _ _
        exact I1.fpOk hle (I1.hok.fresh hle)
      obtain ⟨its, rv, p1, _⟩ := I1.tuple hqx
      obtain ⟨its2, rv2, p2, _⟩ := I1.list hqy
      have la : a < s1.heap.objs.size := by obtain ⟨_, q, _⟩ := id p1; exact Heap.lt_size q
      have lb : b < s1.heap.objs.size := p2.lt
      refine zip_begins2 (begins_tuple a its.toArray) (begins_list b its2.toArray) p1 p2.isList fun h' hz hTI hTO h1 h2 hsz hk => wpAny_pyIter_zip hz ?_
      have I2 : Inv X pins σ H1 { s1 with heap := h' } := I1.kept (t' := s1.toks) hk
      exact ⟨s1.heap.objs.size + 4, [s1.heap.objs.size + 4, s1.heap.objs.size + 3, s1.heap.objs.size, s1.heap.objs.size + 1, s1.heap.objs.size + 2], _, _, H1, rfl, I2, turn_zipM la lb, ⟨hz, hTI, ⟨_, _, hTO⟩, ⟨_, h1, rfl, rfl⟩, ⟨_, h2, rfl, rfl⟩⟩, fresh5, q⟩
theorem walk_zipM {K : PySem.W.Frag} {a b : Addr} {xs ys : List V} {n : Nat} (hn : xs.length = n) (hn2 : ys.length = n) : Walk (ItzM K a b) n (fun H => SqT K H a xs ∧ SqL K H b ys) (YPair (fun i => xs[i]?) (fun i => ys[i]?)) := by
  subst hn
  refine ⟨fun i _ hi q => ?_, fun _ q => ⟨xs, ys, q.1, q.2, rfl, hn2⟩, fun i H v H' _ q y => ?_⟩
  · have h2 : i < ys.length := by omega
    exact ⟨xs, ys, xs[i], ys[i], q.1, q.2, by simp [hi], by simp [h2]⟩
  · obtain ⟨T, x, z, h1, h2, h3, h4, h5⟩ := y
    exact ⟨T, x, z, h1, h2, h3, h4 xs q.1, h5 ys q.2⟩
theorem walk_zipT {K : PySem.W.Frag} {a b : Addr} {xs ys : List V} {n : Nat} (hn : xs.length = n) (hn2 : ys.length = n) : Walk (RZ.ItzT K a b) n (fun H => SqT K H a xs ∧ SqT K H b ys) (YPair (fun i => xs[i]?) (fun i => ys[i]?)) := by
  subst hn
  refine ⟨fun i _ hi q => ?_, fun _ q => ⟨xs, ys, q.1, q.2, .inl (Nat.le_refl _)⟩, fun i H v H' _ q y => ?_⟩
  · have h2 : i < ys.length := by omega
    exact ⟨xs, ys, xs[i], ys[i], q.1, q.2, by simp [hi], by simp [h2]⟩
  · obtain ⟨T, x, z, h1, h2, h3, h4, h5⟩ := y
    exact ⟨T, x, z, h1, h2, h3, h4 xs q.1, h5 ys q.2⟩
end Th

/-! part B6 -/
namespace Th
open PySem PySem.Spec PyProof.Rows L2
/-! ### // of large numbers, the divisor not 0 -/
def CDivN (_ j : Int) : Prop := j ≠ 0 ∧ j.natAbs.log2 < 9000
theorem op_fdivN {X : Cx} : OpR X (binaryOp .FloorDiv) (L2.rI CDivN fun i j => .int (i.fdiv j)) := opI fun i j _ _ _ _ _ hc q => floordiv_int hc.1 q (.inl (PyProof.noPylong_of_log2 hc.2))
theorem divN {i j : Int} {b : Nat} (h : j ≠ 0) (hb : j.natAbs < 2 ^ b) (h9 : b ≤ 8999) : CDivN i j :=
  ⟨h, Nat.lt_of_lt_of_le (PySem.Flt.log2_lt_of (k := b + 1) (by omega) (Nat.lt_of_lt_of_le hb (Nat.pow_le_pow_right (by decide) (by omega)))) (by omega)⟩
/-- all that is new is not changed from here on -/
theorem Ext.all {S H S1 H1 : Hp} (a : Ext No S H S1 H1) : ∃ S2, Ext No S H S2 H1 ∧ Same S1 S2 ∧ ∀ p o, H p = none → H1 p = some o → S2 p = some o := by
  refine ⟨fun x => if H x = none then H1 x else S x, ⟨fun x o e => ?_, fun x o e => ?_, a.h, a.d, fun x hn e => ?_⟩, fun x o e => ?_, fun p o hp e => ?_⟩
  · by_cases c : H x = none
    · show (if H x = none then H1 x else S x) = _
      rw [if_pos c]; exact a.i x o (a.s x o e)
    · show (if H x = none then H1 x else S x) = _
      rw [if_neg c]; exact e
  · by_cases c : H x = none
    · replace e : (if H x = none then H1 x else S x) = some o := e
      rw [if_pos c] at e; exact e
    · replace e : (if H x = none then H1 x else S x) = some o := e
      rw [if_neg c] at e; exact a.i x o (a.s x o e)
  · show (if H x = none then H1 x else S x) = _
    rw [if_neg hn]; exact e
  · show (if H x = none then H1 x else S x) = _
    by_cases c : H x = none
    · rw [if_pos c]; exact a.i x o e
    · rw [if_neg c]
      cases q : S x with
      | none => have := a.n x c q; rw [this] at e; cases e
      | some o' => rw [← a.s x o' q]; exact e
  · show (if H p = none then H1 p else S p) = _
    rw [if_pos hp]; exact e
/-- nothing tracked is changed, all kept -/
theorem Ext.keep {S H S1 H1 H2 : Hp} (a : Ext No S H S1 H1) (k : Same H1 H2) : Ext No S H S1 H2 :=
  ⟨a.s, a.i.trans k, fun b o z e => k b o (a.h b o z e), fun b z => by
    cases q : H1 b with
    | none => exact absurd q (a.d b z)
    | some o => rw [k b o q]; simp, a.n⟩
theorem All2.of {α β : Type} {R : α → β → Prop} : ∀ {l : List α} {k : List β}, l.length = k.length → (∀ (j : Nat) (x : α) (y : β), l[j]? = some x → k[j]? = some y → R x y) → All2 R l k
  | [], [], _, _ => .nil
  | [], _ :: _, h, _ => by cases h
  | _ :: _, [], h, _ => by cases h
  | a :: l, b :: k, h, f => .cons (f 0 a b rfl rfl) (All2.of (Nat.succ.inj h) fun j x y h1 h2 => f (j + 1) x y (by simpa using h1) (by simpa using h2))
theorem seqIdx {j n : Nat} (h : j < n) : seqIndex? (j : Int) n = some j := by
  unfold seqIndex?
  have e : ¬ ((j : Int) < 0) := by omega
  have e2 : (j : Int) < n := by omega
  simp [e, e2]
theorem szLt {n : Nat} (h : n ≤ 1000000) : n < sizeLine := Nat.lt_of_le_of_lt h (by rw [sizeLine_eq]; decide)
theorem walk0 {n : Nat} : Walk (Itr 0 (n : Int).toNat) n (fun _ => True) (fun i H x H' => H' = H ∧ x = .int (i : Nat)) := by
  rw [Int.toNat_natCast]
  exact ⟨fun _ _ hi _ => hi, fun _ _ => Nat.le_refl _, fun _ _ _ _ _ _ y => ⟨y.1, by rw [y.2, Int.zero_add]⟩⟩
def rN : Rp Nat := fun _ v n => v = .int n
theorem rN_m : MonoR rN := fun _ _ _ _ _ h => h
theorem rgV0 (n : Nat) : rgV 0 (n : Int) = (List.range n).map fun i : Nat => V.int i := by
  unfold rgV
  have e : ((n : Int) - 0).toNat = n := by omega
  rw [e]
  exact List.map_congr_left fun i _ => by rw [Int.zero_add]
theorem ixN_nat {n j : Nat} (h : j < n) : ixN n (j : Int) = some j := by
  unfold ixN
  have e : (0 : Int) ≤ (j : Int) := by omega
  have e2 : (j : Int) < n := by omega
  rw [if_pos e, if_pos e2, Int.toNat_natCast]
theorem flat1 (n : Nat) (x : V) : (List.replicate n [x]).flatten = List.replicate n x := by
  induction n with
  | zero => rfl
  | succ n ih => rw [List.replicate_succ, List.replicate_succ, List.flatten_cons, ih]; rfl
end Th

/-! part B7 -/
namespace Th
open PySem PySem.Spec PyProof.Rows L2
/-! ### comprehensions with two fors -/
section
variable {J J1 : It} {n n1 : Nat} {G G1 : Hp → Prop} {Y Y1 : Nat → Hp → V → Hp → Prop} {S0 H0 S1 H1 S4 H4 : Hp} {σ σ2 : L2.St} {g g1 : TG} {tt tt1 : TT} {te : TE} {vs vs1 : List Nat} {Qd : Addr → Hp → Prop} {R : Addr → (Hp → Prop) → It → L2.St → Hp → Prop} {wi1 : TI}
theorem lc2P (w : Walk J n G Y) (I : Nat → List V → Hp → Prop) (E : Ext No S0 H0 S1 H1) (h0 : I 0 [] S1) (hG : ∀ i acc S H, i ≤ n → Ext No S0 H0 S H → I i acc S → G H)
    (hs : ∀ i x acc S H H' (D : Addr) (Nx : Hp → Prop), i < n → Ext No S0 H0 S H → I i acc S → Y i H x H' → H0 D = none → S D = none → H D = some (.lst acc) → (∀ acc' S' H3, Ext No S0 H0 S' H3 → S' D = none → H3 D = some (.lst acc') → I (i + 1) acc' S' → Nx H3) →
      g x (wipe σ vs) H' fun σ2 H2 => wipe σ2 vs = wipe σ vs ∧ tt σ2 H2 fun b H3 => if b = true then wi1 σ2 H3 (fun J1 H4 => R D Nx J1 σ2 H4) else Nx H3)
    (hd : ∀ d acc S H, H0 d = none → Ext No S0 H0 S H → S d = none → H d = some (.lst acc) → I n acc S → Qd d H) :
    ∀ d, H1 d = none → ∃ W : Nat → Nat → Hp → Prop, (∃ k, W 0 k (upd H1 d (.lst []))) ∧ ∀ i k H, W i k H →
      (J.stop i H ∧ Qd d H) ∨ (J.go i H ∧ ∃ Nx : Hp → Prop, (∀ H', Nx H' → ∃ k', k' < k ∧ W (i + 1) k' H') ∧ ∀ x H', J.yld i H x H' → g x (wipe σ vs) H' fun σ2 H2 => wipe σ2 vs = wipe σ vs ∧ tt σ2 H2 fun b H3 =>
        if b = true then wi1 σ2 H3 (fun J1 H4 => R d Nx J1 σ2 H4) else Nx H3) := by
  intro d hd1
  have hd0 : H0 d = none := E.none1 hd1
  refine ⟨fun i m H => m = n - i ∧ i ≤ n ∧ ∃ S acc, Ext No S0 H0 S H ∧ S d = none ∧ H d = some (.lst acc) ∧ I i acc S, ⟨n, by simp, Nat.zero_le _, S1, [], E.newM hd1, none_of_same E.i hd1, upd_same, h0⟩, ?_⟩
  rintro i m H ⟨rfl, hi, S, acc, e, hs0, hl, p⟩
  have q := hG i acc S H hi e p
  by_cases hlt : i < n
  · exact .inr ⟨w.goes i H hlt q, fun H => ∃ S acc, Ext No S0 H0 S H ∧ S d = none ∧ H d = some (.lst acc) ∧ I (i + 1) acc S, fun H' p' => ⟨n - (i + 1), by omega, rfl, hlt, p'⟩, fun x H' y => hs i x acc S H H' d _ hlt e p (w.yields i H x H' hlt q y) hd0 hs0 hl fun acc' S' H3 e' s' l' p' => ⟨S', acc', e', s', l', p'⟩⟩
  · have e' : i = n := by omega
    subst e'
    exact .inl ⟨w.stops H q, hd d acc S H hd0 e hs0 hl p⟩
theorem inP (w : Walk J1 n1 G1 Y1) (I : Nat → List V → Hp → Prop) {D : Addr} {Nx : Hp → Prop} {acc0 : List V} (hz : ∀ j acc S, I j acc S → acc.length ≤ 1000000) (E : Ext No S0 H0 S4 H4) (hd0 : H0 D = none) (hs4 : S4 D = none) (hl4 : H4 D = some (.lst acc0)) (h0 : I 0 acc0 S4)
    (hG : ∀ j acc S H, j ≤ n1 → Ext No S0 H0 S H → I j acc S → G1 H)
    (hs : ∀ j x acc S H H' (Kt : VK) (Kf : Hp → Prop), j < n1 → Ext No S0 H0 S H → I j acc S → Y1 j H x H' → (∀ y S' H4, Ext No S H S' H4 → I (j + 1) (acc ++ [y]) S' → Kt y H4) → (∀ S' H3, Ext No S H S' H3 → I (j + 1) acc S' → Kf H3) →
      g1 x (wipe σ2 vs1) H' fun σ3 H5 => wipe σ3 vs1 = wipe σ2 vs1 ∧ tt1 σ3 H5 fun b H6 => if b = true then te σ3 H6 Kt else Kf H6)
    (hd : ∀ acc S H, Ext No S0 H0 S H → S D = none → H D = some (.lst acc) → I n1 acc S → Nx H) :
    ∃ W1 : Nat → Nat → Hp → Prop, (∃ m, W1 0 m H4) ∧ ∀ j k H, W1 j k H →
      (J1.stop j H ∧ Nx H) ∨ (J1.go j H ∧ ∃ Nx1 : Hp → Prop, (∀ H', Nx1 H' → ∃ k', k' < k ∧ W1 (j + 1) k' H') ∧ ∀ x H', J1.yld j H x H' → g1 x (wipe σ2 vs1) H' fun σ3 H5 => wipe σ3 vs1 = wipe σ2 vs1 ∧ tt1 σ3 H5 fun b H6 =>
        if b = true then te σ3 H6 fun y H7 => ∃ acc, H7 D = some (.lst acc) ∧ acc.length < sizeLine ∧ Nx1 (upd H7 D (.lst (acc ++ [y]))) else Nx1 H6) := by
  refine ⟨fun j m H => m = n1 - j ∧ j ≤ n1 ∧ ∃ S acc, Ext No S0 H0 S H ∧ S D = none ∧ H D = some (.lst acc) ∧ I j acc S, ⟨n1, by simp, Nat.zero_le _, S4, acc0, E, hs4, hl4, h0⟩, ?_⟩
  rintro j m H ⟨rfl, hi, S, acc, e, hs0, hl, p⟩
  have q := hG j acc S H hi e p
  by_cases hlt : j < n1
  · refine .inr ⟨w.goes j H hlt q, fun H => ∃ S acc, Ext No S0 H0 S H ∧ S D = none ∧ H D = some (.lst acc) ∧ I (j + 1) acc S, fun H' p' => ⟨n1 - (j + 1), by omega, rfl, hlt, p'⟩, fun x H' y => ?_⟩
    refine hs j x acc S H H' _ _ hlt e p (w.yields j H x H' hlt q y) (fun v S' H4 e' p' => ?_) fun S' H3 e' p' => ?_
    · have h4 := e'.h D _ (fun z => z) hl
      have s4 := e'.n D (ne_none hl) hs0
      exact ⟨acc, h4, szLt (hz _ _ _ p), S', acc ++ [v], (e.trans e').mut (.inl hd0) s4, s4, upd_same, p'⟩
    · exact ⟨S', acc, e.trans e', e'.n D (ne_none hl) hs0, e'.h D _ (fun z => z) hl, p'⟩
  · have e' : j = n1 := by omega
    subst e'
    exact .inl ⟨w.stops H q, hd acc S H e hs0 hl p⟩
end
end Th

/-! part B8 -/
namespace Th
open PySem PySem.Spec PyProof.Rows L2
/-! ### walks of a tracked list | tuple, the kind left open -/
def iEnumW (ta : TA) : TI := fun σ H R => ta σ H fun vs H1 => ∃ (a : Addr) (xs : List V) (o : HO), vs = [.ref a] ∧ (o = .lst xs ∨ o = .tup xs) ∧ H1 a = some o ∧ ∀ (J : It) (G : Hp → Prop), Walk J xs.length G (YPair (fun i => some (.int (i : Nat))) (fun i => xs[i]?)) → (∀ H2 : Hp, H2 a = some o → G H2) → R J H1
theorem pi_enumW {X : Cx} {e : Expr} {ta : TA} {p pos tpos : Pos} {elts : List Expr} {kk : Nat} (hg : Gl X "enumerate") (hm : X.mg "enumerate" = none) (ha : PA X [e] ta) (hs : starEach [e] X.env = [(false, eval e X.env)] := by rfl) :
    PI X (.Tuple elts kk tpos) (.Call (.Name "enumerate" p) [e] [] pos) (iEnumW ta) := by
  refine ⟨fun pins s σ H R I h => ?_⟩
  refine Call_ (ld_blt I hg hm boot_enumerate (PyProof.Rows.callWith_type1 (thn (ha.run pos pins s σ H _ I h) fun us s1 ⟨vs, H1, I1, r1, q1⟩ => ?_) hs rfl))
  obtain ⟨a, xs, o, ex, eo, ho, q1⟩ := q1
  subst ex
  cases r1 with
  | cons r rr =>
    cases rr
    cases r
    have fresh2 : ∀ b, b ∈ [s1.heap.objs.size + 1, s1.heap.objs.size] → FpOk X pins H1 b := fun b hb => by
      have e' : b = s1.heap.objs.size + 1 ∨ b = s1.heap.objs.size := by simpa using hb
      have hle : s1.heap.objs.size ≤ b := by
        rcases e' with z | z
        · rw [z]; exact Nat.le_add_right _ _
        · rw [z]; exact Nat.le_refl _
      exact I1.fpOk hle (I1.hok.fresh hle)
    have q1 : (SqL X.K H1 a xs ∧ R (Ite X.K a) H1) ∨ (SqT X.K H1 a xs ∧ R (IteT X.K a) H1) := by
      rcases eo with rfl | rfl
      · exact .inl ⟨SqL.of ho, q1 _ _ walk_enum fun _ h => SqL.of h⟩
      · exact .inr ⟨SqT.of ho, q1 _ _ walk_enumT fun _ h => SqT.of h⟩
    rcases q1 with ⟨hq, q⟩ | ⟨hq, q⟩
    · obtain ⟨its, rv, p', hz⟩ := I1.list hq
      refine call_enumerate_list p'.isList fun h' he hit hsz hk => wpAny_pyIter_enum he ?_
      have I2 : Inv X pins σ H1 { s1 with heap := h' } := I1.kept (t' := s1.toks) hk
      exact ⟨s1.heap.objs.size + 1, [s1.heap.objs.size + 1, s1.heap.objs.size], _, _, H1, rfl, I2, turn_enum a (s1.heap.objs.size + 1) s1.heap.objs.size, ⟨⟨.none, he⟩, hit, Nat.succ_ne_self _⟩, fresh2, q⟩
    · obtain ⟨its, rv, p', hz⟩ := I1.tuple hq
      have pl : a < s1.heap.objs.size := by obtain ⟨_, q, _⟩ := id p'; exact Heap.lt_size q
      refine enum_begins1 (begins_tuple a its.toArray) p' fun h' he hit hsz hk => wpAny_pyIter_enum he ?_
      have I2 : Inv X pins σ H1 { s1 with heap := h' } := I1.kept (t' := s1.toks) hk
      exact ⟨s1.heap.objs.size + 1, [s1.heap.objs.size + 1, s1.heap.objs.size], _, _, H1, rfl, I2, turn_enumT a (s1.heap.objs.size + 1) s1.heap.objs.size (Nat.ne_of_lt pl) (Nat.ne_of_lt (Nat.lt_succ_of_lt pl)), ⟨⟨.none, he⟩, ⟨_, hit, rfl, rfl⟩, Nat.succ_ne_self _⟩, fresh2, q⟩
def iSeqW (tl : TE) : TI := fun σ H R => tl σ H fun x H1 => ∃ (a : Addr) (xs : List V) (o : HO), x = .ref a ∧ (o = .lst xs ∨ o = .tup xs) ∧ H1 a = some o ∧ ∀ (J : It) (G : Hp → Prop), Walk J xs.length G (YAt xs) → (∀ H2 : Hp, H2 a = some o → G H2) → R J H1
section
variable {X : Cx} {l e e2 : Expr} {tl : TE} {ta : TA} {tg : Expr} {p pos tpos : Pos} {elts : List Expr} {kk : Nat}
theorem pi_seqW (hl : PE X l tl) : PI X tg l (iSeqW tl) := by
  refine ⟨fun pins s σ H R I h => ?_⟩
  refine thn (hl.run pins s σ H _ I h) fun v s1 ⟨x, H1, I1, r1, q1⟩ => ?_
  obtain ⟨a, xs, o, e, eo, ho, q1⟩ := q1
  subst e
  cases r1
  have q1 : (SqL X.K H1 a xs ∧ R (Itl X.K a) H1) ∨ (SqT X.K H1 a xs ∧ R (Itt X.K a) H1) := by
    rcases eo with rfl | rfl
    · exact .inl ⟨SqL.of ho, q1 _ _ walk_list fun _ h => SqL.of h⟩
    · exact .inr ⟨SqT.of ho, q1 _ _ walk_tup fun _ h => SqT.of h⟩
  rcases q1 with ⟨hq, q⟩ | ⟨hq, q⟩
  · obtain ⟨its, rv, p, hz⟩ := I1.list hq
    refine wpAny_pyIter_list p.isList ?_
    refine ⟨s1.heap.objs.size, [s1.heap.objs.size], _, _, H1, rfl, I1.kept (t' := s1.toks) fun b o e => Heap.get?_push_of_some _ e, turn_list a _, ⟨_, Heap.get?_push_size _ rfl, rfl, rfl⟩, fun b hb => ?_, q⟩
    have e : b = s1.heap.objs.size := by simpa using hb
    subst e
    exact I1.fpOk (Nat.le_refl _) (I1.hok.fresh (Nat.le_refl _))
  · obtain ⟨its, rv, p, hz⟩ := I1.tuple hq
    refine wpAny_pyIter_tuple (show s1.heap.IsTuple a its.toArray from p) ?_
    refine ⟨s1.heap.objs.size, [s1.heap.objs.size], _, _, H1, rfl, I1.kept (t' := s1.toks) fun b o e => Heap.get?_push_of_some _ e, turn_tuple a _, ⟨_, Heap.get?_push_size _ rfl, rfl, rfl⟩, fun b hb => ?_, q⟩
    have e : b = s1.heap.objs.size := by simpa using hb
    subst e
    exact I1.fpOk (Nat.le_refl _) (I1.hok.fresh (Nat.le_refl _))
end
/-! ### a comprehension of objects that stay open to change -/
section
variable {J : It} {n : Nat} {G : Hp → Prop} {Y : Nat → Hp → V → Hp → Prop} {m : Addr → Prop} {S0 H0 S1 H1 : Hp} {σ : L2.St} {g : TG} {tt : TT} {te : TE} {vs : List Nat} {Qd : Addr → Hp → Prop}
theorem lcD (w : Walk J n G Y) (hn : n ≤ 1000000) (hm : ∀ b, m b → H0 b ≠ none) (I : Addr → Nat → List V → Hp → Hp → Prop) (E : Ext m S0 H0 S1 H1) (hI : ∀ d i acc S H o, I d i acc S H → I d i acc S (upd H d o)) (h0 : ∀ d, H1 d = none → I d 0 [] S1 (upd H1 d (.lst [])))
    (hG : ∀ d i acc S H, i ≤ n → Ext m S0 H0 S H → I d i acc S H → G H)
    (hs : ∀ d i x acc S H H' (Kt : VK) (Kf : Hp → Prop), i < n → H0 d = none → S d = none → H d = some (.lst acc) → Ext m S0 H0 S H → I d i acc S H → Y i H x H' → (∀ y S' H4, Ext m S H S' H4 → I d (i + 1) (acc ++ [y]) S' H4 → Kt y H4) → (∀ S' H3, Ext m S H S' H3 → I d (i + 1) acc S' H3 → Kf H3) →
      g x (wipe σ vs) H' fun σ2 H2 => wipe σ2 vs = wipe σ vs ∧ tt σ2 H2 fun b H3 => if b = true then te σ2 H3 Kt else Kf H3)
    (hd : ∀ d acc S H, H0 d = none → Ext m S0 H0 S H → S d = none → H d = some (.lst acc) → acc.length ≤ n → I d n acc S H → Qd d H) :
    ∀ d, H1 d = none → ∃ W : Nat → Nat → Hp → Prop, (∃ k, W 0 k (upd H1 d (.lst []))) ∧ ∀ i k H, W i k H →
      (J.stop i H ∧ Qd d H) ∨ (J.go i H ∧ ∃ Nx : Hp → Prop, (∀ H', Nx H' → ∃ k', k' < k ∧ W (i + 1) k' H') ∧ ∀ x H', J.yld i H x H' → g x (wipe σ vs) H' fun σ2 H2 => wipe σ2 vs = wipe σ vs ∧ tt σ2 H2 fun b H3 =>
        if b = true then te σ2 H3 fun y H4 => ∃ acc, H4 d = some (.lst acc) ∧ acc.length < sizeLine ∧ Nx (upd H4 d (.lst (acc ++ [y]))) else Nx H3) := by
  intro d hd1
  have hd0 : H0 d = none := E.none1 hd1
  have hmd : ¬ m d := fun z => hm d z hd0
  refine lc_it w (fun i H => ∃ S acc, Ext m S0 H0 S H ∧ S d = none ∧ H d = some (.lst acc) ∧ acc.length ≤ i ∧ I d i acc S H) ⟨S1, [], E.newM hd1, none_of_same E.i hd1, upd_same, Nat.le_refl _, h0 d hd1⟩
    (fun i H hi ⟨S, acc, e, _, _, _, p⟩ => hG d i acc S H hi e p) (fun i x H H' hi ⟨S, acc, e, hs0, hl, hlen, p⟩ y => ?_) fun H ⟨S, acc, e, hs0, hl, hlen, p⟩ => hd d acc S H hd0 e hs0 hl hlen p
  have hz : acc.length < sizeLine := Nat.lt_of_lt_of_le (show acc.length < 1000000 by omega) (by rw [sizeLine_eq]; decide)
  refine hs d i x acc S H H' _ _ hi hd0 hs0 hl e p y (fun v S' H4 e' p' => ?_) fun S' H3 e' p' => ?_
  · have h4 := e'.h d _ hmd hl
    have s4 := e'.n d (ne_none hl) hs0
    refine ⟨acc, h4, hz, S', acc ++ [v], (e.trans e').mut (.inl hd0) s4, s4, upd_same, ?_, hI _ _ _ _ _ _ p'⟩
    rw [List.length_append]
    show acc.length + 1 ≤ i + 1
    omega
  · exact ⟨S', acc, e.trans e', e'.n d (ne_none hl) hs0, e'.h d _ hmd hl, by omega, p'⟩
end
end Th

/-! part B9 -/
namespace Th
open PySem PySem.Spec PyProof.Rows L2
/-! ### Own.__init__(self, ..), Own a class over ValueError without an __init__ of its own -/
theorem hgType (K : PySem.W.Frag) : PySem.W.findIn K (.type "type") "__getattribute__" = some (some (.builtin "type.__getattribute__")) := by kernel_rfl
theorem getmOwn {prog : Program} {w : World} {A : Around} {E : Value → Shared → Prop} {s : Shared} {K : PySem.W.Frag} {CS : Addr} {v : Value} {m : PySem.Str} {pl : Sem Bool} {Q : Value × List Value → Shared → Prop} (X : K.In s.heap) (hr : PySem.W.readsIn K CS (.type "type") = true)
    (hf : PySem.W.findCls K (.ref CS) (.type "type") m = some (.val v)) (hh : PySem.W.handedIn v = true) (ht : PySem.W.typeIn K (.ref CS) = some (.type "type")) (h : Q (v, []) { s with toks := s.toks + 1 }) : wpAny (model prog w) A (getMethod (.ref CS) m pl) Q E s := by
  have L0 : PySem.W.Looks (model prog w) s.heap (typeOf (.ref CS)) (.type "type") := PySem.W.looks_typeIn X ht
  have hg := hgType K
  unfold getMethod specialOf
  refine wpAny_bind (wpAny_bind (L0.here ((PySem.W.looks_findIn X hg).here ?_)))
  dsimp only
  rw [if_pos PySem.W.canon_tga]
  refine wpAny_bind (wpAny_mono (Q := fun v => Q (v, [])) (E := E) ?_ (fun _ _ z => wpAny_pure z) fun _ _ z => z)
  exact PySem.W.cls_value X hr hf hh h
section
variable {X : Cx} {e : Expr} {es : List Expr} {ta : TA} {x : Str} {p1 p2 pos : Pos} {CS : Addr}
theorem pe_clsinit {pl : Sem Bool} (hg : Gl X x) (hm : X.mg x = some (.ref CS)) (hr : PySem.W.readsIn X.K CS (.type "type") = true) (hf : PySem.W.findCls X.K (.ref CS) (.type "type") "__init__" = some (.val (.builtin "ValueError.__init__"))) (ha : PA X (e :: es) ta) (hdb : (x == ("__debug__" : Str)) = false := by decide)
    (hc : eval (.Call (.Attribute (.Name x p1) "__init__" p2) (e :: es) [] pos) X.env = (do
      let ov ← eval (.Name x p1) X.env
      standAt p2.atName
      let (f, first) ← holding [ov] (getMethod ov "__init__" pl)
      callWith pos f first (backTo pos (starEach (e :: es) X.env)) (backToKw pos (keywordEach [] X.env))) := by rfl)
    (he : starEach (e :: es) X.env = (false, eval e X.env) :: starEach es X.env := by rfl) (hpl : (backTo pos (starEach es X.env)).any (·.1) = false := by rfl) :
    PE X (.Call (.Attribute (.Name x p1) "__init__" p2) (e :: es) [] pos) (tVeI X.K ta) := by
  refine ⟨fun pins s σ H Q I h => ?_⟩
  refine PySem.W.methodCall_KW (ld_glob I hg hm ?_ hdb) hc
  have ht : PySem.W.typeIn X.K (.ref CS) = some (.type "type") := by
    have z := hr
    simp only [PySem.W.readsIn, Bool.and_eq_true, beq_iff_eq] at z
    exact z.1.1.1.2
  refine getmOwn I.kIn hr hf (by decide +kernel) ht ?_
  show wpAny _ _ (callWith pos (Value.builtin "ValueError.__init__") [] (backTo pos (starEach (e :: es) X.env)) []) _ _ _
  refine PyProof.Rows.callWith_method1 (thn (ha.run pos pins _ σ H _ (I.tok _) h) fun us s1 ⟨vs, H1, I1, r1, a, C, ws, ev, hl, T, ea, q⟩ => ?_) he hpl
  subst ev
  cases r1 with
  | @cons _ u0 _ ur ra rw' =>
    obtain rfl : u0 = Value.ref a := ra
    have hlen : ur.length ≤ sizeLine := by
      rw [← Paired.length rw', sizeLine_eq]
      omega
    exact oinit_ok T I1 ea hlen fun s' J => ⟨.non, H1, J, rfl, q⟩
end
theorem ps_nox {X : Cx} {st : Stmt} {t : TS} (h : PS X.nox st t) : PS X st t := ⟨fun pins s σ H D I hw =>
  wpAny_mono (h.run pins s σ H D (I.wish _) hw) (fun _ _ q => q.unwish) fun _ _ z => False.elim z⟩
end Th

/-! part M1 -/
namespace Th
/-! ### the mathematics: rows of whole numbers -/
/-- all below 2 ^ b in size -/
def Bd (b : Nat) (l : List Int) : Prop := ∀ x ∈ l, x.natAbs < 2 ^ b
theorem Bd.mono {b c : Nat} {l : List Int} (h : Bd b l) (k : b ≤ c) : Bd c l := fun x hx => Nat.lt_of_lt_of_le (h x hx) (Nat.pow_le_pow_right (by decide) k)
theorem Bd.nil {b : Nat} : Bd b [] := fun x hx => by cases hx
theorem Bd.cons {b : Nat} {x : Int} {l : List Int} (h : x.natAbs < 2 ^ b) (t : Bd b l) : Bd b (x :: l) := fun y hy => by
  rcases List.mem_cons.mp hy with e | e
  · rw [e]; exact h
  · exact t y e
theorem Bd.hd {b : Nat} {x : Int} {l : List Int} (h : Bd b (x :: l)) : x.natAbs < 2 ^ b := h x (List.mem_cons_self ..)
theorem Bd.tl {b : Nat} {x : Int} {l : List Int} (h : Bd b (x :: l)) : Bd b l := fun y hy => h y (List.mem_cons_of_mem _ hy)
theorem Bd.app {b : Nat} {l k : List Int} (h : Bd b l) (h' : Bd b k) : Bd b (l ++ k) := fun y hy => (List.mem_append.mp hy).elim (h y) (h' y)
theorem Bd.at_ {b : Nat} {l : List Int} (h : Bd b l) (i : Nat) : (l.getD i 0).natAbs < 2 ^ b := by
  rw [List.getD_eq_getElem?_getD]
  cases e : l[i]? with
  | none => exact Nat.two_pow_pos b
  | some x => exact h x (List.mem_of_getElem? e)
theorem Bd.take {b : Nat} {l : List Int} (h : Bd b l) (i : Nat) : Bd b (l.take i) := fun y hy => h y (List.mem_of_mem_take hy)
theorem mul_bd {x y : Int} {a b : Nat} (hx : x.natAbs < 2 ^ a) (hy : y.natAbs < 2 ^ b) : (x * y).natAbs < 2 ^ (a + b) := by
  rw [Int.natAbs_mul, Nat.pow_add]
  exact Nat.mul_lt_mul'' hx hy
theorem sub_bd {x y : Int} {c : Nat} (hx : x.natAbs < 2 ^ c) (hy : y.natAbs < 2 ^ c) : (x - y).natAbs < 2 ^ (c + 1) := by
  have h := Int.natAbs_sub_le x y
  have e : 2 ^ (c + 1) = 2 ^ c + 2 ^ c := by rw [Nat.pow_succ]; omega
  omega
theorem add_bd {x y : Int} {c : Nat} (hx : x.natAbs < 2 ^ c) (hy : y.natAbs < 2 ^ c) : (x + y).natAbs < 2 ^ (c + 1) := by
  have h := Int.natAbs_add_le x y
  have e : 2 ^ (c + 1) = 2 ^ c + 2 ^ c := by rw [Nat.pow_succ]; omega
  omega
theorem ediv_le {x c : Int} (h : 0 < c) (d : c ∣ x) : (x / c).natAbs ≤ x.natAbs := by
  obtain ⟨k, rfl⟩ := d
  rw [Int.mul_ediv_cancel_left k (by omega), Int.natAbs_mul]
  exact Nat.le_mul_of_pos_left _ (by omega)
/-- the greatest common divisor of c and a row -/
def gI (a b : Int) : Int := ((Nat.gcd a.natAbs b.natAbs : Nat) : Int)
def gcdRow (c : Int) (row : List Int) : Int := row.foldl gI c
def plainRow (row : List Int) : List Int := if gcdRow 0 row < 2 then row else row.map fun n => n / gcdRow 0 row
def mixRow (row pivot : List Int) (col : Nat) : List Int :=
  List.zipWith (fun one other => (pivot.getD col 0 / gI (row.getD col 0) (pivot.getD col 0)) * one - (row.getD col 0 / gI (row.getD col 0) (pivot.getD col 0)) * other) row pivot
def clearedRow (row pivot : List Int) (col : Nat) : List Int := plainRow (mixRow row pivot col)
def clearedRows (rows : List (List Int)) (pivot : List Int) (col : Nat) : List (List Int) := rows.map fun row => if row.getD col 0 ≠ 0 then clearedRow row pivot col else row

theorem gI_nn (a b : Int) : 0 ≤ gI a b := Int.natCast_nonneg _
theorem gI_dl (a b : Int) : gI a b ∣ a := Int.natAbs_dvd_natAbs.mp (show a.natAbs.gcd b.natAbs ∣ a.natAbs from Nat.gcd_dvd_left _ _)
theorem gI_dr (a b : Int) : gI a b ∣ b := Int.natAbs_dvd_natAbs.mp (show a.natAbs.gcd b.natAbs ∣ b.natAbs from Nat.gcd_dvd_right _ _)
theorem gI_pos_l {a : Int} (b : Int) (h : a ≠ 0) : 0 < gI a b := by
  have := Nat.gcd_pos_of_pos_left b.natAbs (Int.natAbs_pos.mpr h)
  unfold gI; omega
theorem gI_pos_r (a : Int) {b : Int} (h : b ≠ 0) : 0 < gI a b := by
  have := Nat.gcd_pos_of_pos_right a.natAbs (Int.natAbs_pos.mpr h)
  unfold gI; omega
theorem gcdRow_cons (c x : Int) (r : List Int) : gcdRow c (x :: r) = gcdRow (gI c x) r := rfl
theorem gcdRow_nn : ∀ {c : Int} (r : List Int), 0 ≤ c → 0 ≤ gcdRow c r
  | _, [], h => h
  | c, x :: r, _ => gcdRow_nn (c := gI c x) r (gI_nn c x)
theorem gcdRow_dc : ∀ (c : Int) (r : List Int), gcdRow c r ∣ c
  | c, [] => Int.dvd_refl c
  | c, x :: r => Int.dvd_trans (gcdRow_dc (gI c x) r) (gI_dl c x)
theorem gcdRow_dm : ∀ (c : Int) (r : List Int), ∀ y ∈ r, gcdRow c r ∣ y
  | c, [], y, h => by cases h
  | c, x :: r, y, h => by
    rcases List.mem_cons.mp h with e | e
    · rw [e]; exact Int.dvd_trans (gcdRow_dc (gI c x) r) (gI_dr c x)
    · exact gcdRow_dm (gI c x) r y e
theorem gcdRow_bd {b : Nat} {r : List Int} (h : Bd b r) : (gcdRow 0 r).natAbs < 2 ^ b := by
  by_cases z : ∀ y ∈ r, y = 0
  · have : ∀ (c : Int) (r : List Int), (∀ y ∈ r, y = 0) → 0 ≤ c → gcdRow c r = c := by
      intro c r
      induction r generalizing c with
      | nil => intro _ _; rfl
      | cons x r ih =>
        intro hz hc
        rw [gcdRow_cons, hz x (List.mem_cons_self ..)]
        have e : gI c 0 = c := by unfold gI; rw [Int.natAbs_zero, Nat.gcd_zero_right]; omega
        rw [e]
        exact ih c (fun y hy => hz y (List.mem_cons_of_mem _ hy)) hc
    rw [this 0 r z (Int.le_refl 0)]
    exact Nat.two_pow_pos b
  · obtain ⟨y, hz⟩ := Classical.not_forall.mp z
    obtain ⟨hy, hn⟩ := Classical.not_imp.mp hz
    have d := Int.natAbs_dvd_natAbs.mpr (gcdRow_dm 0 r y hy)
    exact Nat.lt_of_le_of_lt (Nat.le_of_dvd (Int.natAbs_pos.mpr hn) d) (h y hy)
theorem plainRow_len (r : List Int) : (plainRow r).length = r.length := by
  unfold plainRow; split
  · rfl
  · exact List.length_map ..
theorem plainRow_bd {b : Nat} {r : List Int} (h : Bd b r) : Bd b (plainRow r) := by
  unfold plainRow; split
  · exact h
  · rename_i hc
    intro y hy
    obtain ⟨x, hx, rfl⟩ := List.mem_map.mp hy
    exact Nat.lt_of_le_of_lt (ediv_le (by omega) (gcdRow_dm 0 r x hx)) (h x hx)
/-- a row is a multiple of its plain one -/
theorem plainRow_mul (r : List Int) : ∃ c : Int, 0 < c ∧ r = (plainRow r).map (c * ·) := by
  unfold plainRow; split
  · exact ⟨1, by decide, by simp⟩
  · rename_i hc
    refine ⟨gcdRow 0 r, by omega, ?_⟩
    rw [List.map_map]
    refine (List.map_id' r).symm.trans (List.map_congr_left fun x hx => ?_)
    show x = gcdRow 0 r * (x / gcdRow 0 r)
    exact (Int.mul_ediv_cancel' (gcdRow_dm 0 r x hx)).symm
theorem mixRow_len {row pivot : List Int} {col : Nat} (h : row.length = pivot.length) : (mixRow row pivot col).length = row.length := by
  unfold mixRow; rw [List.length_zipWith, h]; exact Nat.min_self _
theorem zip_bd {f : Int → Int → Int} {a b c : Nat} (hf : ∀ x y : Int, x.natAbs < 2 ^ a → y.natAbs < 2 ^ b → (f x y).natAbs < 2 ^ c) : ∀ {l k : List Int}, Bd a l → Bd b k → Bd c (List.zipWith f l k)
  | [], k, _, _ => by rw [List.zipWith_nil_left]; exact Bd.nil
  | _ :: _, [], _, _ => by rw [List.zipWith_nil_right]; exact Bd.nil
  | x :: l, y :: k, h, h' => by
    rw [List.zipWith_cons_cons]
    exact Bd.cons (hf x y h.hd h'.hd) (zip_bd hf h.tl h'.tl)
theorem mix_bd {row pivot : List Int} {col a b : Nat} (h : Bd a row) (h' : Bd b pivot) (hne : row.getD col 0 ≠ 0) : Bd (a + b + 1) (mixRow row pivot col) := by
  have g0 : 0 < gI (row.getD col 0) (pivot.getD col 0) := gI_pos_l _ hne
  have u : (pivot.getD col 0 / gI (row.getD col 0) (pivot.getD col 0)).natAbs < 2 ^ b := Nat.lt_of_le_of_lt (ediv_le g0 (gI_dr _ _)) (h'.at_ col)
  have d : (row.getD col 0 / gI (row.getD col 0) (pivot.getD col 0)).natAbs < 2 ^ a := Nat.lt_of_le_of_lt (ediv_le g0 (gI_dl _ _)) (h.at_ col)
  refine zip_bd (a := a) (b := b) (fun x y hx hy => ?_) h h'
  have m1 := mul_bd u hx
  rw [Nat.add_comm b a] at m1
  exact sub_bd m1 (mul_bd d hy)
theorem clearedRow_bd {row pivot : List Int} {col a b : Nat} (h : Bd a row) (h' : Bd b pivot) (hne : row.getD col 0 ≠ 0) : Bd (a + b + 1) (clearedRow row pivot col) := plainRow_bd (mix_bd h h' hne)
theorem clearedRow_len {row pivot : List Int} {col : Nat} (h : row.length = pivot.length) : (clearedRow row pivot col).length = row.length := (plainRow_len _).trans (mixRow_len h)
end Th

/-! part M2 -/
namespace Th
/-! ### the program's elimination -/
def findRow (left : List (List Int)) (c : Nat) : Option Nat := left.findIdx? fun r => decide (r.getD c 0 ≠ 0)
abbrev Ech := List (List Int) × List (List Int) × List Nat
def echStep (s : Ech) (c : Nat) : Ech := match findRow s.1 c with
  | none => s
  | some k => (clearedRows (s.1.eraseIdx k) (s.1.getD k []) c, clearedRows s.2.1 (s.1.getD k []) c ++ [s.1.getD k []], s.2.2 ++ [c])
def echelon (rows : List (List Int)) (i : Nat) : Ech := (List.range i).foldl echStep (rows, [], [])
theorem echelon_succ (rows : List (List Int)) (i : Nat) : echelon rows (i + 1) = echStep (echelon rows i) i := by
  unfold echelon
  rw [List.range_succ, List.foldl_append]; rfl
def echelonPairs (rows : List (List Int)) (width : Nat) : List (List Int × Nat) := (echelon rows width).2.1.zip (echelon rows width).2.2
theorem clearedRows_all {rows : List (List Int)} {piv : List Int} {c n a b : Nat} (h : ∀ r ∈ rows, r.length = n ∧ Bd a r) (hp : piv.length = n) (hb : Bd b piv) : ∀ r ∈ clearedRows rows piv c, r.length = n ∧ Bd (a + b + 1) r := by
  intro r hr
  obtain ⟨x, hx, rfl⟩ := List.mem_map.mp hr
  obtain ⟨h1, h2⟩ := h x hx
  by_cases z : x.getD c 0 ≠ 0
  · rw [if_pos z]
    exact ⟨(clearedRow_len (by omega)).trans h1, clearedRow_bd h2 hb z⟩
  · rw [if_neg z]
    exact ⟨h1, h2.mono (by omega)⟩
theorem findRow_some {left : List (List Int)} {c k : Nat} (h : findRow left c = some k) : k < left.length ∧ (left.getD k []).getD c 0 ≠ 0 := by
  unfold findRow at h
  obtain ⟨h1, h2, h3⟩ := List.findIdx?_eq_some_iff_getElem.mp h
  refine ⟨h1, ?_⟩
  rw [List.getD_eq_getElem?_getD (l := left), List.getElem?_eq_getElem h1]
  exact of_decide_eq_true h2
theorem findRow_none {left : List (List Int)} {c : Nat} (h : findRow left c = none) : ∀ r ∈ left, r.getD c 0 = 0 := by
  intro r hr
  have := List.findIdx?_eq_none_iff.mp h r hr
  have := of_decide_eq_false this
  omega
theorem getD_mem {left : List (List Int)} {k : Nat} (h : k < left.length) : left.getD k [] ∈ left := by
  rw [List.getD_eq_getElem?_getD, List.getElem?_eq_getElem h]
  exact List.getElem_mem h
/-- lengths, sizes and counts along the columns -/
structure EchOk (rows : List (List Int)) (n b i : Nat) (s : Ech) : Prop where
  same : s.2.1.length = s.2.2.length
  le : s.2.2.length ≤ i
  sum : s.1.length + s.2.2.length = rows.length
  left : ∀ r ∈ s.1, r.length = n ∧ Bd ((b + 1) * 2 ^ s.2.2.length - 1) r
  done : ∀ r ∈ s.2.1, r.length = n ∧ Bd ((b + 1) * 2 ^ s.2.2.length - 1) r
  lead : ∀ c ∈ s.2.2, c < i
theorem ech_ok {rows : List (List Int)} {n b : Nat} (h : ∀ r ∈ rows, r.length = n ∧ Bd b r) : ∀ i, EchOk rows n b i (echelon rows i)
  | 0 => ⟨rfl, Nat.le_refl _, rfl, fun r hr => ⟨(h r hr).1, (h r hr).2.mono (by show b ≤ (b + 1) * 2 ^ 0 - 1; omega)⟩, fun r hr => (by cases hr), fun c hc => (by cases hc)⟩
  | i + 1 => by
    have ih := ech_ok h i
    rw [echelon_succ]
    generalize echelon rows i = s at ih
    unfold echStep
    cases e : findRow s.1 i with
    | none => exact ⟨ih.same, Nat.le_succ_of_le ih.le, ih.sum, ih.left, ih.done, fun c hc => Nat.lt_succ_of_lt (ih.lead c hc)⟩
    | some k =>
      obtain ⟨k1, k2⟩ := findRow_some e
      have pv := ih.left _ (getD_mem k1)
      have ex : (b + 1) * 2 ^ s.2.2.length - 1 + ((b + 1) * 2 ^ s.2.2.length - 1) + 1 = (b + 1) * 2 ^ (s.2.2.length + 1) - 1 := by
        rw [Nat.pow_succ]
        have : 0 < (b + 1) * 2 ^ s.2.2.length := Nat.mul_pos (by omega) (Nat.two_pow_pos _)
        rw [← Nat.mul_assoc]
        omega
      have le1 : (b + 1) * 2 ^ s.2.2.length - 1 ≤ (b + 1) * 2 ^ (s.2.2.length + 1) - 1 := by rw [← ex]; omega
      have pb : (s.2.2 ++ [i]).length = s.2.2.length + 1 := by rw [List.length_append]; rfl
      refine ⟨?_, ?_, ?_, ?_, ?_, ?_⟩
      · show (clearedRows s.2.1 (s.1.getD k []) i ++ [s.1.getD k []]).length = (s.2.2 ++ [i]).length
        rw [List.length_append, List.length_append]
        unfold clearedRows
        rw [List.length_map, ih.same]; rfl
      · show (s.2.2 ++ [i]).length ≤ i + 1
        rw [pb]
        have := ih.le
        omega
      · show (clearedRows (s.1.eraseIdx k) (s.1.getD k []) i).length + (s.2.2 ++ [i]).length = rows.length
        unfold clearedRows
        rw [List.length_map, List.length_eraseIdx, pb, if_pos k1]
        have := ih.sum
        omega
      · show ∀ r ∈ clearedRows (s.1.eraseIdx k) (s.1.getD k []) i, r.length = n ∧ Bd ((b + 1) * 2 ^ (s.2.2 ++ [i]).length - 1) r
        rw [pb, ← ex]
        exact clearedRows_all (fun r hr => ih.left r (List.mem_of_mem_eraseIdx hr)) pv.1 pv.2
      · show ∀ r ∈ clearedRows s.2.1 (s.1.getD k []) i ++ [s.1.getD k []], r.length = n ∧ Bd ((b + 1) * 2 ^ (s.2.2 ++ [i]).length - 1) r
        rw [pb, ← ex]
        intro r hr
        rcases List.mem_append.mp hr with hr | hr
        · exact clearedRows_all ih.done pv.1 pv.2 r hr
        · rw [List.mem_singleton.mp hr]
          exact ⟨pv.1, pv.2.mono (by omega)⟩
      · intro c hc
        rcases List.mem_append.mp hc with hc | hc
        · exact Nat.lt_succ_of_lt (ih.lead c hc)
        · rw [List.mem_singleton.mp hc]; exact Nat.lt_succ_self i
end Th

/-! part M3 -/
namespace Th
/-! ### the program's rows, as plain functions -/
def signRow (row : List Int) (lead : Nat) : List Int := if (plainRow row).getD lead 0 < 0 then (plainRow row).map (fun n => -n) else plainRow row
def widthOf (rows : List (List Int)) : Nat := match rows with
  | [] => 0
  | r :: _ => r.length
def reducedRows (rows : List (List Int)) : List (List Int) := (echelonPairs rows (widthOf rows)).map fun p => signRow p.1 p.2
def borderedRows (rows : List (List Int)) : List (List Int) := (List.range rows.length).map fun i => rows.getD i [] ++ (List.replicate (rows.length + 1) 0).set i 1
def targetOf (pairs : List (List Int × Nat)) (t : List Int) : List Int := pairs.foldl (fun t p => if t.getD p.2 0 ≠ 0 then clearedRow t p.1 p.2 else t) t
def startOf (many : Nat) (row : List Int) : List Int := row ++ List.replicate many 0 ++ [1]
/-- weights_in answers None -/
def noneIn (pairs : List (List Int × Nat)) (many : Nat) (row : List Int) : Bool := decide (((targetOf pairs (startOf many row)).take row.length).count 0 < row.length)
def noneFor (rows : List (List Int)) (row : List Int) : Bool := noneIn (echelonPairs (borderedRows rows) row.length) rows.length row
def lI2 (a b : Int) : Int := ((Nat.lcm a.natAbs b.natAbs : Nat) : Int)
def scaleOf (pairs : List (List Int × Nat)) : Int := pairs.foldl (fun s p => lI2 s (p.1.getD p.2 0)) 1
def numStep (sc : Int) (column : Nat) (ns : List Int) (p : List Int × Nat) : List Int := ns.set p.2 (-(p.1.getD column 0) * sc.fdiv (p.1.getD p.2 0))
def freeNums (pairs : List (List Int × Nat)) (column width : Nat) : List Int := pairs.foldl (numStep (scaleOf pairs) column) ((List.replicate width 0).set column (scaleOf pairs))
def freeRow (pairs : List (List Int × Nat)) (column width : Nat) : List Int := plainRow (freeNums pairs column width)
def hiddenBasis (rows : List (List Int)) (width : Nat) : List (List Int) :=
  reducedRows (((List.range width).filter fun c => decide (c ∉ (echelonPairs rows width).map Prod.snd)).map fun c => freeRow (echelonPairs rows width) c width)
def unitRow (many letter : Nat) : List Int := (List.range many).map fun i => if i = letter then 1 else 0
def lotStep (things : List Nat) (lots : List (List Nat)) : List (List Nat) := lots.flatMap fun lot => (things.filter fun t => decide (lot = [] ∨ lot.getLastD 0 < t)).map fun t => lot ++ [t]
def lotsOf (things : List Nat) : Nat → List (List Nat)
  | 0 => [[]]
  | n + 1 => lotStep things (lotsOf things n)
/-- the rows whose place is not in the lot -/
def keptRows (rows : List (List Int)) (lot : List Nat) : List (List Int) := ((List.range rows.length).filter fun i => decide (i ∉ lot)).map fun i => rows.getD i []
def firstIn (rows : List (List Int)) (unit : List Int) (lots : List (List Nat)) : Option (List Nat) := lots.find? fun lot => noneFor (keptRows rows lot) unit
/-- all lots up to a size, in the order in which they are tried -/
def allLots (n m : Nat) : List (List Nat) := (List.range (m + 1)).flatMap fun size => lotsOf (List.range n) size
def firstLoss (rows : List (List Int)) (many letter most : Nat) : Option (List Nat) := firstIn rows (unitRow many letter) (allLots rows.length (min most rows.length))
theorem take_snoc {α : Type} {l : List α} {i : Nat} {x : α} (h : l[i]? = some x) : l.take (i + 1) = l.take i ++ [x] := by
  rw [List.take_succ, h]; rfl
theorem scale_snoc (pairs : List (List Int × Nat)) (p : List Int × Nat) : scaleOf (pairs ++ [p]) = lI2 (scaleOf pairs) (p.1.getD p.2 0) := by
  unfold scaleOf; rw [List.foldl_append]; rfl
theorem lI2_bd {a b : Int} {x y : Nat} (ha : a.natAbs < 2 ^ x) (hb : b.natAbs < 2 ^ y) : (lI2 a b).natAbs < 2 ^ (x + y) := by
  unfold lI2
  rw [Int.natAbs_natCast, Nat.pow_add]
  exact Nat.lt_of_le_of_lt (Nat.div_le_self _ _) (Nat.mul_lt_mul'' ha hb)
theorem lI2_dl (a b : Int) : a ∣ lI2 a b := Int.natAbs_dvd_natAbs.mp (show a.natAbs ∣ a.natAbs.lcm b.natAbs from Nat.dvd_lcm_left _ _)
theorem lI2_dr (a b : Int) : b ∣ lI2 a b := Int.natAbs_dvd_natAbs.mp (show b.natAbs ∣ a.natAbs.lcm b.natAbs from Nat.dvd_lcm_right _ _)
theorem lI2_pos {a b : Int} (ha : a ≠ 0) (hb : b ≠ 0) : 0 < lI2 a b := by
  have := Nat.lcm_pos (Int.natAbs_pos.mpr ha) (Int.natAbs_pos.mpr hb)
  unfold lI2; omega
theorem scale_bd {e : Nat} {pairs : List (List Int × Nat)} (h : ∀ p ∈ pairs, Bd e p.1) : ∀ k, k ≤ pairs.length → (scaleOf (pairs.take k)).natAbs < 2 ^ (1 + k * e)
  | 0, _ => by rw [List.take_zero]; show (1 : Int).natAbs < 2 ^ (1 + 0 * e); rw [Nat.zero_mul]; decide
  | k + 1, hk => by
    have hk' : k < pairs.length := hk
    rw [take_snoc (List.getElem?_eq_getElem hk'), scale_snoc]
    have ex : 1 + (k + 1) * e = 1 + k * e + e := by rw [Nat.succ_mul]; omega
    rw [ex]
    exact lI2_bd (scale_bd h k (by omega)) ((h _ (List.getElem_mem hk')).at_ _)
theorem scale_dvd (pairs : List (List Int × Nat)) : ∀ k, k ≤ pairs.length → scaleOf (pairs.take k) ∣ scaleOf pairs := by
  have key : ∀ (l : List (List Int × Nat)) (c : Int), c ∣ l.foldl (fun s p => lI2 s (p.1.getD p.2 0)) c := by
    intro l
    induction l with
    | nil => intro c; exact Int.dvd_refl c
    | cons p l ih => intro c; exact Int.dvd_trans (lI2_dl _ _) (ih _)
  intro k hk
  have e : scaleOf pairs = (pairs.drop k).foldl (fun s p => lI2 s (p.1.getD p.2 0)) (scaleOf (pairs.take k)) := by
    unfold scaleOf; rw [← List.foldl_append, List.take_append_drop]
  rw [e]; exact key _ _
theorem lead_dvd {pairs : List (List Int × Nat)} {i : Nat} {p : List Int × Nat} (h : pairs[i]? = some p) : p.1.getD p.2 0 ∣ scaleOf pairs := by
  have hk : i < pairs.length := (List.getElem?_eq_some_iff.mp h).1
  refine Int.dvd_trans ?_ (scale_dvd pairs (i + 1) hk)
  rw [take_snoc h, scale_snoc]
  exact lI2_dr _ _
theorem fdiv_le {x d : Int} (h : d ≠ 0) (hd : d ∣ x) : (x.fdiv d).natAbs ≤ x.natAbs := by
  obtain ⟨k, rfl⟩ := hd
  rw [Int.mul_fdiv_cancel_left k h, Int.natAbs_mul]
  exact Nat.le_mul_of_pos_left _ (Int.natAbs_pos.mpr h)
theorem Bd.set {b : Nat} {l : List Int} (h : Bd b l) (i : Nat) {x : Int} (hx : x.natAbs < 2 ^ b) : Bd b (l.set i x) := fun y hy => by
  rcases List.mem_or_eq_of_mem_set hy with e | e
  · exact h y e
  · rw [e]; exact hx
theorem Bd.zeros (b n : Nat) : Bd b (List.replicate n 0) := fun y hy => by
  rw [(List.mem_replicate.mp hy).2]; exact Nat.two_pow_pos b
theorem nums_len (sc : Int) (c : Nat) : ∀ (pairs : List (List Int × Nat)) (ns : List Int), (pairs.foldl (numStep sc c) ns).length = ns.length
  | [], _ => rfl
  | p :: l, ns => by rw [List.foldl_cons, nums_len sc c l]; exact List.length_set ..
theorem nums_bd {sc : Int} {c e x : Nat} (hs : sc.natAbs < 2 ^ x) : ∀ {pairs : List (List Int × Nat)}, (∀ p ∈ pairs, Bd e p.1 ∧ p.1.getD p.2 0 ≠ 0 ∧ p.1.getD p.2 0 ∣ sc) → ∀ {ns : List Int}, Bd (e + x) ns → Bd (e + x) (pairs.foldl (numStep sc c) ns)
  | [], _, _, h => h
  | p :: l, hp, ns, h => by
    rw [List.foldl_cons]
    obtain ⟨h1, h2, h3⟩ := hp p (List.mem_cons_self ..)
    refine nums_bd hs (fun q hq => hp q (List.mem_cons_of_mem _ hq)) (h.set _ (mul_bd ?_ (Nat.lt_of_le_of_lt (fdiv_le h2 h3) hs)))
    rw [Int.natAbs_neg]; exact h1.at_ _
/-! sizes and lengths of the target -/
theorem targetOf_snoc (pairs : List (List Int × Nat)) (p : List Int × Nat) (t : List Int) : targetOf (pairs ++ [p]) t = if (targetOf pairs t).getD p.2 0 ≠ 0 then clearedRow (targetOf pairs t) p.1 p.2 else targetOf pairs t := by
  unfold targetOf; rw [List.foldl_append]; rfl
theorem targetOf_ok {n e : Nat} {pairs : List (List Int × Nat)} (h : ∀ p ∈ pairs, p.1.length = n ∧ Bd e p.1) {t : List Int} {a : Nat} (hl : t.length = n) (ht : Bd a t) :
    ∀ k, k ≤ pairs.length → (targetOf (pairs.take k) t).length = n ∧ Bd (a + k * (e + 1)) (targetOf (pairs.take k) t)
  | 0, _ => by rw [List.take_zero]; exact ⟨hl, ht.mono (by omega)⟩
  | k + 1, hk => by
    obtain ⟨h1, h2⟩ := targetOf_ok h hl ht k (by omega)
    have hk' : k < pairs.length := hk
    have e1 : pairs.take (k + 1) = pairs.take k ++ [pairs[k]] := by rw [List.take_succ, List.getElem?_eq_getElem hk']; rfl
    obtain ⟨g1, g2⟩ := h _ (List.getElem_mem hk')
    rw [e1, targetOf_snoc]
    have ex : a + (k + 1) * (e + 1) = a + k * (e + 1) + e + 1 := by rw [Nat.succ_mul]; omega
    rw [ex]
    split
    · rename_i hne
      exact ⟨(clearedRow_len (by omega)).trans h1, clearedRow_bd h2 g2 hne⟩
    · exact ⟨h1, h2.mono (by omega)⟩
end Th

/-! part M4 -/
namespace Th
/-! ### rows against a filling x -/
def dot : List Int → (Nat → Int) → Int
  | [], _ => 0
  | a :: l, x => a * x 0 + dot l fun i => x (i + 1)
theorem dot_map (k : Int) : ∀ (r : List Int) (x : Nat → Int), dot (r.map (k * ·)) x = k * dot r x
  | [], _ => (Int.mul_zero k).symm
  | a :: l, x => by
    show k * a * x 0 + dot (l.map (k * ·)) _ = k * (a * x 0 + dot l _)
    rw [dot_map k l, Int.mul_add, Int.mul_assoc]
theorem dot_zip (u d : Int) : ∀ (r p : List Int) (x : Nat → Int), r.length = p.length → dot (List.zipWith (fun a b => u * a - d * b) r p) x = u * dot r x - d * dot p x
  | [], [], _, _ => by show (0 : Int) = u * 0 - d * 0; rw [Int.mul_zero, Int.mul_zero]; rfl
  | [], _ :: _, _, h => by cases h
  | _ :: _, [], _, h => by cases h
  | a :: r, b :: p, x, h => by
    show (u * a - d * b) * x 0 + dot (List.zipWith _ r p) _ = u * (a * x 0 + dot r _) - d * (b * x 0 + dot p _)
    rw [dot_zip u d r p _ (Nat.succ.inj h), Int.sub_mul, Int.mul_add, Int.mul_add, Int.mul_assoc, Int.mul_assoc]
    omega
theorem getD_map (k : Int) (r : List Int) (j : Nat) : (r.map (k * ·)).getD j 0 = k * r.getD j 0 := by
  rw [List.getD_eq_getElem?_getD, List.getD_eq_getElem?_getD, List.getElem?_map]
  cases r[j]? with
  | none => exact (Int.mul_zero k).symm
  | some _ => rfl
theorem getD_zip (u d : Int) {r p : List Int} (h : r.length = p.length) (j : Nat) : (List.zipWith (fun a b => u * a - d * b) r p).getD j 0 = u * r.getD j 0 - d * p.getD j 0 := by
  rw [List.getD_eq_getElem?_getD, List.getD_eq_getElem?_getD, List.getD_eq_getElem?_getD, List.getElem?_zipWith]
  by_cases hj : j < r.length
  · rw [List.getElem?_eq_getElem hj, List.getElem?_eq_getElem (show j < p.length by omega)]; rfl
  · rw [List.getElem?_eq_none (by omega), List.getElem?_eq_none (by omega)]
    show (0 : Int) = u * 0 - d * 0
    rw [Int.mul_zero, Int.mul_zero]; rfl
/-- what clearing does: some multiple of the new row is u * row - d * pivot -/
theorem cleared_eq {row piv : List Int} {c : Nat} (hl : row.length = piv.length) (h1 : row.getD c 0 ≠ 0) (h2 : piv.getD c 0 ≠ 0) :
    ∃ k u d : Int, k ≠ 0 ∧ u ≠ 0 ∧ d ≠ 0 ∧ u * row.getD c 0 = d * piv.getD c 0 ∧ (∀ j, k * (clearedRow row piv c).getD j 0 = u * row.getD j 0 - d * piv.getD j 0) ∧ ∀ x, k * dot (clearedRow row piv c) x = u * dot row x - d * dot piv x := by
  have g0 : 0 < gI (row.getD c 0) (piv.getD c 0) := gI_pos_l _ h1
  obtain ⟨k, hk, e⟩ := plainRow_mul (mixRow row piv c)
  refine ⟨k, piv.getD c 0 / gI (row.getD c 0) (piv.getD c 0), row.getD c 0 / gI (row.getD c 0) (piv.getD c 0), by omega, ?_, ?_, ?_, fun j => ?_, fun x => ?_⟩
  · obtain ⟨q, hq⟩ := gI_dr (row.getD c 0) (piv.getD c 0)
    intro z
    rw [hq] at h2
    have : gI (row.getD c 0) (piv.getD c 0) * q / gI (row.getD c 0) (piv.getD c 0) = q := Int.mul_ediv_cancel_left q (by omega)
    rw [← hq, z] at this
    rw [← this, Int.mul_zero] at h2
    exact h2 rfl
  · obtain ⟨q, hq⟩ := gI_dl (row.getD c 0) (piv.getD c 0)
    intro z
    rw [hq] at h1
    have : gI (row.getD c 0) (piv.getD c 0) * q / gI (row.getD c 0) (piv.getD c 0) = q := Int.mul_ediv_cancel_left q (by omega)
    rw [← hq, z] at this
    rw [← this, Int.mul_zero] at h1
    exact h1 rfl
  · have a1 := Int.mul_ediv_cancel' (gI_dl (row.getD c 0) (piv.getD c 0))
    have a2 := Int.mul_ediv_cancel' (gI_dr (row.getD c 0) (piv.getD c 0))
    generalize gI (row.getD c 0) (piv.getD c 0) = g at *
    generalize row.getD c 0 / g = d at *
    generalize piv.getD c 0 / g = u at *
    rw [← a1, ← a2, ← Int.mul_assoc, ← Int.mul_assoc, Int.mul_comm u g, Int.mul_comm d g, Int.mul_assoc, Int.mul_assoc, Int.mul_comm u d]
  · have := congrArg (fun l => l.getD j 0) e
    simp only [getD_map] at this
    unfold clearedRow
    rw [← this]
    exact getD_zip _ _ hl j
  · have := congrArg (fun l => dot l x) e
    simp only [dot_map] at this
    unfold clearedRow
    rw [← this]
    exact dot_zip _ _ _ _ x hl
theorem mz {a b : Int} (h : a * b = 0) (ha : a ≠ 0) : b = 0 := (Int.mul_eq_zero.mp h).resolve_left ha
theorem cleared_at {row piv : List Int} {c : Nat} (hl : row.length = piv.length) (h1 : row.getD c 0 ≠ 0) (h2 : piv.getD c 0 ≠ 0) : (clearedRow row piv c).getD c 0 = 0 := by
  obtain ⟨k, u, d, hk, hu, hd, e, g, _⟩ := cleared_eq hl h1 h2
  have := g c
  rw [e, Int.sub_self] at this
  exact mz this hk
theorem cleared_z {row piv : List Int} {c j : Nat} (hl : row.length = piv.length) (h1 : row.getD c 0 ≠ 0) (h2 : piv.getD c 0 ≠ 0) (r0 : row.getD j 0 = 0) (p0 : piv.getD j 0 = 0) : (clearedRow row piv c).getD j 0 = 0 := by
  obtain ⟨k, u, d, hk, hu, hd, e, g, _⟩ := cleared_eq hl h1 h2
  have := g j
  rw [r0, p0, Int.mul_zero, Int.mul_zero, Int.sub_self] at this
  exact mz this hk
theorem cleared_nz {row piv : List Int} {c j : Nat} (hl : row.length = piv.length) (h1 : row.getD c 0 ≠ 0) (h2 : piv.getD c 0 ≠ 0) (r0 : row.getD j 0 ≠ 0) (p0 : piv.getD j 0 = 0) : (clearedRow row piv c).getD j 0 ≠ 0 := by
  obtain ⟨k, u, d, hk, hu, hd, e, g, _⟩ := cleared_eq hl h1 h2
  intro z
  have := g j
  rw [z, p0, Int.mul_zero, Int.mul_zero, Int.sub_zero] at this
  exact r0 (mz this.symm hu)
theorem cleared_dot {row piv : List Int} {c : Nat} (hl : row.length = piv.length) (h1 : row.getD c 0 ≠ 0) (h2 : piv.getD c 0 ≠ 0) {x : Nat → Int} (hp : dot piv x = 0) : dot (clearedRow row piv c) x = 0 ↔ dot row x = 0 := by
  obtain ⟨k, u, d, hk, hu, hd, e, _, g⟩ := cleared_eq hl h1 h2
  have := g x
  rw [hp, Int.mul_zero, Int.sub_zero] at this
  constructor
  · intro z; rw [z, Int.mul_zero] at this; exact mz this.symm hu
  · intro z; rw [z, Int.mul_zero] at this; exact mz this hk
/-! ### the reduced form -/
/-- each pair's row is not 0 at its own lead and 0 at the others' -/
def Red (ps : List (List Int × Nat)) : Prop := (∀ p ∈ ps, p.1.getD p.2 0 ≠ 0) ∧ ∀ (i j : Nat) (p q : List Int × Nat), ps[i]? = some p → ps[j]? = some q → i ≠ j → p.1.getD q.2 0 = 0
structure EchRed (rows : List (List Int)) (i : Nat) (s : Ech) : Prop where
  lz : ∀ r ∈ s.1, ∀ c, c < i → r.getD c 0 = 0
  own : ∀ (j : Nat) (r : List Int) (c : Nat), s.2.1[j]? = some r → s.2.2[j]? = some c → r.getD c 0 ≠ 0
  oth : ∀ (j k : Nat) (r : List Int) (c : Nat), s.2.1[j]? = some r → s.2.2[k]? = some c → j ≠ k → r.getD c 0 = 0
  eqv : ∀ x, (∀ r ∈ rows, dot r x = 0) ↔ (∀ r ∈ s.1, dot r x = 0) ∧ ∀ r ∈ s.2.1, dot r x = 0
theorem getD_of {l : List (List Int)} {k : Nat} {r : List Int} (h : l[k]? = some r) : l.getD k [] = r := by rw [List.getD_eq_getElem?_getD, h]; rfl
theorem cleared_get {rows : List (List Int)} {piv : List Int} {c j : Nat} {r : List Int} (h : (clearedRows rows piv c)[j]? = some r) : ∃ r0, rows[j]? = some r0 ∧ r = if r0.getD c 0 ≠ 0 then clearedRow r0 piv c else r0 := by
  unfold clearedRows at h
  rw [List.getElem?_map] at h
  cases e : rows[j]? with
  | none => rw [e] at h; cases h
  | some r0 => rw [e] at h; cases h; exact ⟨r0, rfl, rfl⟩
theorem mem_erase_or {l : List (List Int)} {k : Nat} {p r : List Int} (hk : l[k]? = some p) (hr : r ∈ l) : r = p ∨ r ∈ l.eraseIdx k := by
  obtain ⟨i, hi⟩ := List.mem_iff_getElem?.mp hr
  rcases Nat.lt_trichotomy i k with h | h | h
  · exact .inr (List.mem_iff_getElem?.mpr ⟨i, by rw [List.getElem?_eraseIdx_of_lt h]; exact hi⟩)
  · subst h; exact .inl (Option.some.inj (hi.symm.trans hk))
  · refine .inr (List.mem_iff_getElem?.mpr ⟨i - 1, ?_⟩)
    rw [List.getElem?_eraseIdx_of_ge (by omega), show i - 1 + 1 = i by omega]; exact hi
theorem ech_red {rows : List (List Int)} {n b : Nat} (h : ∀ r ∈ rows, r.length = n ∧ Bd b r) : ∀ i, EchRed rows i (echelon rows i)
  | 0 => ⟨fun r hr c hc => absurd hc (Nat.not_lt_zero _), fun j r c e => by
      have e' : ([] : List (List Int))[j]? = some r := e
      simp at e', fun j k r c e => by
      have e' : ([] : List (List Int))[j]? = some r := e
      simp at e', fun x => ⟨fun z => ⟨z, fun r hr => by cases hr⟩, fun z => z.1⟩⟩
  | i + 1 => by
    have ih := ech_red h i
    have ok := ech_ok h i
    rw [echelon_succ]
    generalize echelon rows i = s at ih ok
    unfold echStep
    cases e : findRow s.1 i with
    | none =>
      refine ⟨fun r hr c hc => ?_, ih.own, ih.oth, ih.eqv⟩
      rcases Nat.lt_succ_iff_lt_or_eq.mp hc with h1 | h1
      · exact ih.lz r hr c h1
      · rw [h1]; exact findRow_none e r hr
    | some k =>
      dsimp only
      obtain ⟨k1, k2⟩ := findRow_some e
      have hkp : s.1[k]? = some (s.1.getD k []) := by rw [List.getD_eq_getElem?_getD, List.getElem?_eq_getElem k1]; rfl
      generalize s.1.getD k [] = pv at hkp k2
      have pm : pv ∈ s.1 := List.mem_of_getElem? hkp
      have pl := (ok.left pv pm).1
      have pz := ih.lz pv pm
      show EchRed rows (i + 1) (clearedRows (s.1.eraseIdx k) pv i, clearedRows s.2.1 pv i ++ [pv], s.2.2 ++ [i])
      have dl : s.2.1.length = s.2.2.length := ok.same
      have cl : (clearedRows s.2.1 pv i).length = s.2.1.length := by unfold clearedRows; exact List.length_map ..
      refine ⟨fun r hr c hc => ?_, fun j r c h1 h2 => ?_, fun j k r c h1 h2 hne => ?_, fun x => ?_⟩
      · obtain ⟨j, hj⟩ := List.mem_iff_getElem?.mp hr
        obtain ⟨r0, g1, g2⟩ := cleared_get hj
        have m0 := List.mem_of_mem_eraseIdx (List.mem_of_getElem? g1)
        have l0 := (ok.left r0 m0).1
        subst g2
        split
        · rename_i hne
          rcases Nat.lt_succ_iff_lt_or_eq.mp hc with h1 | h1
          · exact cleared_z (by omega) hne k2 (ih.lz r0 m0 c h1) (pz c h1)
          · rw [h1]; exact cleared_at (by omega) hne k2
        · rename_i hne
          rcases Nat.lt_succ_iff_lt_or_eq.mp hc with h1 | h1
          · exact ih.lz r0 m0 c h1
          · rw [h1]; exact Classical.not_not.mp hne
      · by_cases hj : j < s.2.1.length
        · rw [List.getElem?_append_left (by omega)] at h1 h2
          obtain ⟨r0, g1, g2⟩ := cleared_get h1
          have own := ih.own j r0 c g1 h2
          have l0 := (ok.done r0 (List.mem_of_getElem? g1)).1
          have ci := ok.lead c (List.mem_of_getElem? h2)
          subst g2
          split
          · rename_i hne; exact cleared_nz (by omega) hne k2 own (pz c ci)
          · exact own
        · rw [List.getElem?_append_right (by omega)] at h1 h2
          have e1 : j - (clearedRows s.2.1 pv i).length = 0 := by
            cases hz : j - (clearedRows s.2.1 pv i).length with
            | zero => rfl
            | succ m => rw [hz] at h1; simp at h1
          have e2 : j - s.2.2.length = 0 := by omega
          rw [e1] at h1
          rw [e2] at h2
          cases h1
          cases h2
          exact k2
      · by_cases hj : j < s.2.1.length
        · rw [List.getElem?_append_left (by omega)] at h1
          obtain ⟨r0, g1, g2⟩ := cleared_get h1
          have l0 := (ok.done r0 (List.mem_of_getElem? g1)).1
          by_cases hk : k < s.2.2.length
          · rw [List.getElem?_append_left hk] at h2
            have oth := ih.oth j k r0 c g1 h2 hne
            have ci := ok.lead c (List.mem_of_getElem? h2)
            subst g2
            split
            · rename_i hne'; exact cleared_z (by omega) hne' k2 oth (pz c ci)
            · exact oth
          · rw [List.getElem?_append_right (by omega)] at h2
            have e2 : k - s.2.2.length = 0 := by
              cases hz : k - s.2.2.length with
              | zero => rfl
              | succ m => rw [hz] at h2; simp at h2
            rw [e2] at h2
            cases h2
            subst g2
            split
            · rename_i hne'; exact cleared_at (by omega) hne' k2
            · rename_i hne'; exact Classical.not_not.mp hne'
        · rw [List.getElem?_append_right (by omega)] at h1
          have e1 : j - (clearedRows s.2.1 pv i).length = 0 := by
            cases hz : j - (clearedRows s.2.1 pv i).length with
            | zero => rfl
            | succ m => rw [hz] at h1; simp at h1
          rw [e1] at h1
          cases h1
          have hk : k < s.2.2.length := by
            refine Classical.byContradiction fun hk => ?_
            rw [List.getElem?_append_right (by omega)] at h2
            have e2 : k - s.2.2.length = 0 := by
              cases hz : k - s.2.2.length with
              | zero => rfl
              | succ m => rw [hz] at h2; simp at h2
            omega
          rw [List.getElem?_append_left hk] at h2
          exact pz c (ok.lead c (List.mem_of_getElem? h2))
      · rw [ih.eqv x]
        constructor
        · rintro ⟨h1, h2⟩
          have hp := h1 pv pm
          refine ⟨fun r hr => ?_, fun r hr => ?_⟩
          · obtain ⟨j, hj⟩ := List.mem_iff_getElem?.mp hr
            obtain ⟨r0, g1, g2⟩ := cleared_get hj
            have m0 := List.mem_of_mem_eraseIdx (List.mem_of_getElem? g1)
            subst g2
            split
            · rename_i hne; exact (cleared_dot (by have := (ok.left r0 m0).1; omega) hne k2 hp).mpr (h1 r0 m0)
            · exact h1 r0 m0
          · rcases List.mem_append.mp hr with hr | hr
            · obtain ⟨j, hj⟩ := List.mem_iff_getElem?.mp hr
              obtain ⟨r0, g1, g2⟩ := cleared_get hj
              have m0 := List.mem_of_getElem? g1
              subst g2
              split
              · rename_i hne; exact (cleared_dot (by have := (ok.done r0 m0).1; omega) hne k2 hp).mpr (h2 r0 m0)
              · exact h2 r0 m0
            · rw [List.mem_singleton.mp hr]; exact hp
        · rintro ⟨h1, h2⟩
          have hp := h2 pv (List.mem_append.mpr (.inr (List.mem_singleton.mpr rfl)))
          refine ⟨fun r hr => ?_, fun r hr => ?_⟩
          · rcases mem_erase_or hkp hr with z | z
            · rw [z]; exact hp
            · have m := h1 (if r.getD i 0 ≠ 0 then clearedRow r pv i else r) (by unfold clearedRows; exact List.mem_map.mpr ⟨r, z, rfl⟩)
              split at m
              · rename_i hne; exact (cleared_dot (by have := (ok.left r hr).1; omega) hne k2 hp).mp m
              · exact m
          · have m := h2 (if r.getD i 0 ≠ 0 then clearedRow r pv i else r) (List.mem_append.mpr (.inl (by unfold clearedRows; exact List.mem_map.mpr ⟨r, hr, rfl⟩)))
            split at m
            · rename_i hne; exact (cleared_dot (by have := (ok.done r hr).1; omega) hne k2 hp).mp m
            · exact m
/-- what the pairs are -/
structure PairsOk (rows : List (List Int)) (n b w : Nat) (ps : List (List Int × Nat)) : Prop where
  len : ps.length ≤ min rows.length w
  row : ∀ p ∈ ps, p.1.length = n ∧ Bd ((b + 1) * 2 ^ ps.length - 1) p.1 ∧ p.2 < w
  red : Red ps
theorem pairs_ok {rows : List (List Int)} {n b : Nat} (h : ∀ r ∈ rows, r.length = n ∧ Bd b r) (w : Nat) : PairsOk rows n b w (echelonPairs rows w) := by
  have ok := ech_ok h w
  have rd := ech_red h w
  have el : (echelonPairs rows w).length = (echelon rows w).2.2.length := by unfold echelonPairs; rw [List.length_zip, ok.same, Nat.min_self]
  have at_ : ∀ (i : Nat) (p : List Int × Nat), (echelonPairs rows w)[i]? = some p → (echelon rows w).2.1[i]? = some p.1 ∧ (echelon rows w).2.2[i]? = some p.2 := fun i p e => List.getElem?_zip_eq_some.mp e
  refine ⟨?_, fun p hp => ?_, fun p hp => ?_, fun i j p q hi hj hne => ?_⟩
  · rw [el]; have := ok.le; have := ok.sum; omega
  · obtain ⟨i, hi⟩ := List.mem_iff_getElem?.mp hp
    obtain ⟨h1, h2⟩ := at_ i p hi
    rw [el]
    exact ⟨(ok.done _ (List.mem_of_getElem? h1)).1, (ok.done _ (List.mem_of_getElem? h1)).2, ok.lead _ (List.mem_of_getElem? h2)⟩
  · obtain ⟨i, hi⟩ := List.mem_iff_getElem?.mp hp
    obtain ⟨h1, h2⟩ := at_ i p hi
    exact rd.own i _ _ h1 h2
  · exact rd.oth i j _ _ (at_ i p hi).1 (at_ j q hj).2 hne
end Th
namespace Th
/-- the last entry of a target is not lost where the pairs' rows are 0 there -/
theorem target_last {n L : Nat} {pairs : List (List Int × Nat)} (h : ∀ p ∈ pairs, p.1.length = n ∧ p.1.getD p.2 0 ≠ 0 ∧ p.1.getD L 0 = 0) {t : List Int} (hl : t.length = n) (h0 : t.getD L 0 ≠ 0) : (targetOf pairs t).getD L 0 ≠ 0 := by
  induction pairs generalizing t with
  | nil => exact h0
  | cons p l ih =>
    obtain ⟨h1, h2, h3⟩ := h p (List.mem_cons_self ..)
    show (targetOf l (if t.getD p.2 0 ≠ 0 then clearedRow t p.1 p.2 else t)).getD L 0 ≠ 0
    split
    · rename_i hne
      exact ih (fun q hq => h q (List.mem_cons_of_mem _ hq)) ((clearedRow_len (by omega)).trans hl) (cleared_nz (by omega) hne h2 h0 h3)
    · exact ih (fun q hq => h q (List.mem_cons_of_mem _ hq)) hl h0
end Th

/-! part M5 -/
namespace Th
/-- a column that is 0 in all rows stays so -/
theorem ech_zero {rows : List (List Int)} {n b L : Nat} (h : ∀ r ∈ rows, r.length = n ∧ Bd b r) (hz : ∀ r ∈ rows, r.getD L 0 = 0) : ∀ i, (∀ r ∈ (echelon rows i).1, r.getD L 0 = 0) ∧ ∀ r ∈ (echelon rows i).2.1, r.getD L 0 = 0
  | 0 => ⟨hz, fun r hr => by cases hr⟩
  | i + 1 => by
    have ih := ech_zero h hz i
    have ok := ech_ok h i
    rw [echelon_succ]
    generalize echelon rows i = s at ih ok
    unfold echStep
    cases e : findRow s.1 i with
    | none => exact ih
    | some k =>
      dsimp only
      obtain ⟨k1, k2⟩ := findRow_some e
      have hkp : s.1[k]? = some (s.1.getD k []) := by rw [List.getD_eq_getElem?_getD, List.getElem?_eq_getElem k1]; rfl
      generalize s.1.getD k [] = pv at hkp k2
      have pm : pv ∈ s.1 := List.mem_of_getElem? hkp
      have key : ∀ l : List (List Int), (∀ r ∈ l, r.length = n ∧ r.getD L 0 = 0) → ∀ r ∈ clearedRows l pv i, r.getD L 0 = 0 := fun l hl r hr => by
        obtain ⟨j, hj⟩ := List.mem_iff_getElem?.mp hr
        obtain ⟨r0, g1, g2⟩ := cleared_get hj
        obtain ⟨a1, a2⟩ := hl r0 (List.mem_of_getElem? g1)
        subst g2
        split
        · rename_i hne; exact cleared_z (by have := (ok.left pv pm).1; omega) hne k2 a2 (ih.1 pv pm)
        · exact a2
      refine ⟨key _ fun r hr => ⟨(ok.left r (List.mem_of_mem_eraseIdx hr)).1, ih.1 r (List.mem_of_mem_eraseIdx hr)⟩, fun r hr => ?_⟩
      rcases List.mem_append.mp hr with hr | hr
      · exact key _ (fun r hr => ⟨(ok.done r hr).1, ih.2 r hr⟩) r hr
      · rw [List.mem_singleton.mp hr]; exact ih.1 pv pm
theorem pairs_zero {rows : List (List Int)} {n b L : Nat} (h : ∀ r ∈ rows, r.length = n ∧ Bd b r) (hz : ∀ r ∈ rows, r.getD L 0 = 0) (w : Nat) : ∀ p ∈ echelonPairs rows w, p.1.getD L 0 = 0 := fun p hp => by
  obtain ⟨i, hi⟩ := List.mem_iff_getElem?.mp hp
  exact (ech_zero h hz w).2 _ (List.mem_of_getElem? (List.getElem?_zip_eq_some.mp hi).1)
theorem bordered_ok {rows : List (List Int)} {n b : Nat} (h : ∀ r ∈ rows, r.length = n ∧ Bd b r) (hb : 1 ≤ b) : ∀ r ∈ borderedRows rows, r.length = n + rows.length + 1 ∧ Bd b r ∧ r.getD (n + rows.length) 0 = 0 := fun r hr => by
  obtain ⟨i, hi, rfl⟩ := List.mem_map.mp hr
  have hi' := List.mem_range.mp hi
  have hm : rows.getD i [] ∈ rows := getD_mem hi'
  obtain ⟨h1, h2⟩ := h _ hm
  refine ⟨?_, h2.app ((Bd.zeros b _).set i (by show 1 < 2 ^ b; exact Nat.one_lt_two_pow (by omega))), ?_⟩
  · rw [List.length_append, List.length_set, List.length_replicate, h1]; omega
  · rw [List.getD_eq_getElem?_getD, List.getElem?_append_right (by omega), h1, show n + rows.length - n = rows.length by omega, List.getElem?_set_ne (by omega), List.getElem?_replicate_of_lt (by omega)]; rfl
theorem freeRow_ok {rows : List (List Int)} {n b w : Nat} {ps : List (List Int × Nat)} (po : PairsOk rows n b w ps) (c : Nat) : (freeRow ps c w).length = w ∧ Bd (((b + 1) * 2 ^ ps.length - 1) * (ps.length + 1) + 1) (freeRow ps c w) := by
  have sc := scale_bd (fun p hp => (po.row p hp).2.1) ps.length (Nat.le_refl _)
  rw [List.take_length] at sc
  refine ⟨?_, plainRow_bd ?_⟩
  · unfold freeRow freeNums
    rw [plainRow_len, nums_len, List.length_set, List.length_replicate]
  · have nb := nums_bd (c := c) sc (pairs := ps) (fun p hp' => ⟨(po.row p hp').2.1, po.red.1 p hp', by
      obtain ⟨k, hk⟩ := List.mem_iff_getElem?.mp hp'
      exact lead_dvd hk⟩) (ns := (List.replicate w 0).set c (scaleOf ps)) ((Bd.zeros _ _).set c (Nat.lt_of_lt_of_le sc (Nat.pow_le_pow_right (by decide) (by omega))))
    refine nb.mono ?_
    generalize (b + 1) * 2 ^ ps.length - 1 = e
    rw [Nat.mul_succ, Nat.mul_comm e]; omega
theorem nodup_le : ∀ (n : Nat) (l : List Nat), l.Nodup → (∀ x ∈ l, x < n) → l.length ≤ n
  | 0, [], _, _ => Nat.le_refl _
  | 0, x :: _, _, h => absurd (h x (List.mem_cons_self ..)) (Nat.not_lt_zero _)
  | n + 1, l, hd, h => by
    have h1 := nodup_le n (l.erase n) (hd.erase n) fun x hx => by
      have m := (hd.mem_erase_iff).mp hx
      have := h x m.2
      omega
    rw [List.length_erase] at h1
    split at h1
    · omega
    · rename_i hn
      have := nodup_le n l hd fun x hx => by
        have := h x hx
        rcases Nat.lt_succ_iff_lt_or_eq.mp this with z | z
        · exact z
        · subst z; exact absurd hx hn
      omega
theorem leads_nodup {ps : List (List Int × Nat)} (h : Red ps) : (ps.map Prod.snd).Nodup := by
  rw [List.nodup_iff_pairwise_ne] 
  refine List.pairwise_iff_getElem.mpr fun i j hi hj hij e => ?_
  rw [List.length_map] at hi hj
  rw [List.getElem_map, List.getElem_map] at e
  have own := h.1 ps[j] (List.getElem_mem hj)
  have oth := h.2 j i ps[j] ps[i] (List.getElem?_eq_getElem hj) (List.getElem?_eq_getElem hi) (by omega)
  rw [e] at oth
  exact own oth
theorem free_count {ps : List (List Int × Nat)} {n : Nat} (h : Red ps) (hl : ∀ p ∈ ps, p.2 < n) : ((List.range n).filter fun c => decide (c ∉ ps.map Prod.snd)).length + ps.length ≤ n := by
  have := nodup_le n (((List.range n).filter fun c => decide (c ∉ ps.map Prod.snd)) ++ ps.map Prod.snd) (by
    refine List.nodup_append.mpr ⟨List.nodup_range.filter _, leads_nodup h, fun a ha b hb e => ?_⟩
    subst e
    have := (List.mem_filter.mp ha).2
    exact (of_decide_eq_true this) hb) fun x hx => by
      rcases List.mem_append.mp hx with hx | hx
      · exact List.mem_range.mp (List.mem_filter.mp hx).1
      · obtain ⟨p, hp, rfl⟩ := List.mem_map.mp hx
        exact hl p hp
  rw [List.length_append, List.length_map] at this
  exact this
end Th

/-! part M6 -/
namespace Th
def lotsOk (things : List Nat) : Nat → List (List Nat) → Bool
  | 0, l => Nat.ble l.length 924
  | k + 1, l => Nat.ble l.length 924 && lotsOk things k (lotStep things l)
theorem lotsOk_le (things : List Nat) : ∀ (K j : Nat), lotsOk things K (lotsOf things j) = true → ∀ k, k ≤ K → (lotsOf things (j + k)).length ≤ 924
  | 0, j, h, k, hk => by
    have : k = 0 := by omega
    subst this
    exact Nat.le_of_ble_eq_true h
  | K + 1, j, h, k, hk => by
    have h' := Bool.and_eq_true_iff.mp h
    cases k with
    | zero => exact Nat.le_of_ble_eq_true h'.1
    | succ k =>
      have := lotsOk_le things K (j + 1) h'.2 k (by omega)
      rw [show j + (k + 1) = j + 1 + k by omega]; exact this
theorem lots_all : ∀ n, n < 13 → lotsOk (List.range n) 12 (lotsOf (List.range n) 0) = true := by decide +kernel
theorem lots_count {n k : Nat} (hn : n ≤ 12) (hk : k ≤ 12) : (lotsOf (List.range n) k).length ≤ 924 := by
  have := lotsOk_le (List.range n) 12 0 (lots_all n (by omega)) k hk
  rw [Nat.zero_add] at this; exact this
end Th

/-! part M7 -/
namespace Th
theorem sign_len (r : List Int) (c : Nat) : (signRow r c).length = r.length := by
  unfold signRow
  split
  · rw [List.length_map, plainRow_len]
  · exact plainRow_len r
/-- the free rows -/
def freeRows (rows : List (List Int)) (n : Nat) : List (List Int) := ((List.range n).filter fun c => decide (c ∉ (echelonPairs rows n).map Prod.snd)).map fun c => freeRow (echelonPairs rows n) c n
theorem freeRows_ok {rows : List (List Int)} {n b : Nat} (h : ∀ r ∈ rows, r.length = n ∧ Bd b r) : ∃ B, ∀ r ∈ freeRows rows n, r.length = n ∧ Bd B r := by
  have po := pairs_ok h n
  exact ⟨_, fun r hr => by
    obtain ⟨c, _, rfl⟩ := List.mem_map.mp hr
    exact freeRow_ok po c⟩
theorem reduced_len {F : List (List Int)} {n B : Nat} (h : ∀ r ∈ F, r.length = n ∧ Bd B r) : ∀ v ∈ reducedRows F, v.length = n := fun v hv => by
  obtain ⟨p, hp, rfl⟩ := List.mem_map.mp hv
  rw [sign_len]
  exact ((pairs_ok h (widthOf F)).row p hp).1
theorem hidden_len {rows : List (List Int)} {n b : Nat} (h : ∀ r ∈ rows, r.length = n ∧ Bd b r) : ∀ v ∈ hiddenBasis rows n, v.length = n := by
  obtain ⟨B, hB⟩ := freeRows_ok h
  exact reduced_len (F := freeRows rows n) hB
end Th

/-! part M8 -/
namespace Th
/-! ### the law's elimination -/
abbrev Kept := List (Nat × List Int)
def lMix (left : List Int) (p : Nat × List Int) : List Int := List.zipWith (fun a b => a * p.2.getD p.1 0 - left.getD p.1 0 * b) left p.2
def lStep (left : List Int) (p : Nat × List Int) : List Int := if left.getD p.1 0 ≠ 0 then plainRow (lMix left p) else left
def lReduce (kept : Kept) (row : List Int) : List Int := kept.foldl lStep row
def lLead (row : List Int) : Option Nat := row.findIdx? fun n => decide (n ≠ 0)
def lAdd (kept : Kept) (row : List Int) : Kept := match lLead (lReduce kept row) with
  | none => kept
  | some c => kept ++ [(c, (lReduce kept row).map fun n => n / gcdRow 0 (lReduce kept row))]
def lEchelon (rows : List (List Int)) : Kept := rows.foldl lAdd []
def lTells (rows : List (List Int)) (n l : Nat) : Bool := (lLead (lReduce (lEchelon rows) (unitRow n l))).isNone
theorem lMix_eq (left : List Int) (p : Nat × List Int) : lMix left p = List.zipWith (fun a b => p.2.getD p.1 0 * a - left.getD p.1 0 * b) left p.2 := by
  unfold lMix
  congr 1
  funext a b
  rw [Int.mul_comm]
theorem lMix_len {left : List Int} {p : Nat × List Int} (h : left.length = p.2.length) : (lMix left p).length = left.length := by
  unfold lMix; rw [List.length_zipWith, h]; exact Nat.min_self _
theorem lMix_bd {left : List Int} {p : Nat × List Int} {a b : Nat} (h1 : Bd a left) (h2 : Bd b p.2) : Bd (a + b + 1) (lMix left p) :=
  zip_bd (a := a) (b := b) (fun x y hx hy => sub_bd (mul_bd hx (h2.at_ _)) (mul_bd (h1.at_ _) hy)) h1 h2
/-- some multiple of the step's row is u * row - d * other -/
theorem lStep_eq {left : List Int} {p : Nat × List Int} (hl : left.length = p.2.length) (h1 : left.getD p.1 0 ≠ 0) :
    ∃ k : Int, k ≠ 0 ∧ (∀ j, k * (lStep left p).getD j 0 = p.2.getD p.1 0 * left.getD j 0 - left.getD p.1 0 * p.2.getD j 0) ∧ ∀ x, k * dot (lStep left p) x = p.2.getD p.1 0 * dot left x - left.getD p.1 0 * dot p.2 x := by
  obtain ⟨k, hk, e⟩ := plainRow_mul (lMix left p)
  have es : lStep left p = plainRow (lMix left p) := if_pos h1
  rw [es]
  refine ⟨k, by omega, fun j => ?_, fun x => ?_⟩
  · have := congrArg (fun l => l.getD j 0) e
    simp only [getD_map] at this
    rw [← this, lMix_eq]
    exact getD_zip _ _ hl j
  · have := congrArg (fun l => dot l x) e
    simp only [dot_map] at this
    rw [← this, lMix_eq]
    exact dot_zip _ _ _ _ x hl
theorem lStep_ok {left : List Int} {p : Nat × List Int} {n a b : Nat} (hl : left.length = n) (hp : p.2.length = n) (h1 : Bd a left) (h2 : Bd b p.2) : (lStep left p).length = n ∧ Bd (a + b + 1) (lStep left p) := by
  unfold lStep
  split
  · exact ⟨by rw [plainRow_len, lMix_len (by omega), hl], plainRow_bd (lMix_bd h1 h2)⟩
  · exact ⟨hl, h1.mono (by omega)⟩
/-- the kept rows: their i-th is below 2 ^ (34 * 2 ^ i - 1), not 0 at its own lead, 0 at the earlier ones -/
structure KeptOk (n b : Nat) (K : Kept) : Prop where
  row : ∀ (i : Nat) (p : Nat × List Int), K[i]? = some p → p.2.length = n ∧ p.1 < n ∧ Bd ((b + 1) * 2 ^ i - 1) p.2 ∧ p.2.getD p.1 0 ≠ 0
  tri : ∀ (i j : Nat) (p q : Nat × List Int), K[i]? = some p → K[j]? = some q → i < j → q.2.getD p.1 0 = 0
theorem red_ok {n b : Nat} {K : Kept} (hK : KeptOk n b K) {row : List Int} (hl : row.length = n) (hb : Bd b row) :
    ∀ k, k ≤ K.length → (lReduce (K.take k) row).length = n ∧ Bd ((b + 1) * 2 ^ k - 1) (lReduce (K.take k) row) ∧ ∀ (i : Nat) (p : Nat × List Int), i < k → K[i]? = some p → (lReduce (K.take k) row).getD p.1 0 = 0
  | 0, _ => ⟨hl, hb.mono (by show b ≤ (b + 1) * 2 ^ 0 - 1; omega), fun i p hi => absurd hi (Nat.not_lt_zero _)⟩
  | k + 1, hk => by
    obtain ⟨h1, h2, h3⟩ := red_ok hK hl hb k (by omega)
    have e : K[k]? = some K[k] := List.getElem?_eq_getElem (by omega)
    obtain ⟨g1, g2, g3, g4⟩ := hK.row k _ e
    have es : lReduce (K.take (k + 1)) row = lStep (lReduce (K.take k) row) K[k] := by
      unfold lReduce; rw [take_snoc e, List.foldl_append]; rfl
    rw [es]
    obtain ⟨s1, s2⟩ := lStep_ok h1 g1 h2 g3
    refine ⟨s1, s2.mono ?_, fun i p hi hp => ?_⟩
    · have pos : 0 < (b + 1) * 2 ^ k := Nat.mul_pos (by omega) (Nat.two_pow_pos _)
      rw [Nat.pow_succ, ← Nat.mul_assoc]
      omega
    · by_cases hne : (lReduce (K.take k) row).getD K[k].1 0 ≠ 0
      · obtain ⟨c, hc, hj, _⟩ := lStep_eq (p := K[k]) (by omega) hne
        have := hj p.1
        rcases Nat.lt_succ_iff_lt_or_eq.mp hi with z | z
        · rw [h3 i p z hp, hK.tri i k p K[k] hp e z, Int.mul_zero, Int.mul_zero, Int.sub_self] at this
          exact mz this hc
        · subst z
          have : p = K[i] := Option.some.inj (hp.symm.trans e)
          subst this
          have := hj K[i].1
          rw [Int.mul_comm (K[i].2.getD K[i].1 0), Int.sub_self] at this
          exact mz this hc
      · have es2 : lStep (lReduce (K.take k) row) K[k] = lReduce (K.take k) row := if_neg hne
        rw [es2]
        rcases Nat.lt_succ_iff_lt_or_eq.mp hi with z | z
        · exact h3 i p z hp
        · subst z
          have : p = K[i] := Option.some.inj (hp.symm.trans e)
          subst this
          exact Classical.not_not.mp hne
theorem getD_map0 {f : Int → Int} (hf : f 0 = 0) (r : List Int) (j : Nat) : (r.map f).getD j 0 = f (r.getD j 0) := by
  rw [List.getD_eq_getElem?_getD, List.getD_eq_getElem?_getD, List.getElem?_map]
  cases r[j]? with
  | none => exact hf.symm
  | some _ => rfl
theorem lead_some {row : List Int} {c : Nat} (h : lLead row = some c) : c < row.length ∧ row.getD c 0 ≠ 0 := by
  unfold lLead at h
  obtain ⟨h1, h2, _⟩ := List.findIdx?_eq_some_iff_getElem.mp h
  refine ⟨h1, ?_⟩
  rw [List.getD_eq_getElem?_getD, List.getElem?_eq_getElem h1]
  exact of_decide_eq_true h2
theorem lead_none {row : List Int} (h : lLead row = none) : ∀ j, row.getD j 0 = 0 := fun j => by
  unfold lLead at h
  have h' := List.findIdx?_eq_none_iff.mp h
  rw [List.getD_eq_getElem?_getD]
  cases e : row[j]? with
  | none => rfl
  | some y => have := of_decide_eq_false (h' y (List.mem_of_getElem? e)); exact Classical.not_not.mp this
theorem gcd_pos {row : List Int} {c : Nat} (h1 : row.getD c 0 ≠ 0) : 0 < gcdRow 0 row := by
  have nn := gcdRow_nn row (Int.le_refl 0)
  rcases Int.lt_or_eq_of_le nn with z | z
  · exact z
  · exfalso
    have hm : row.getD c 0 ∈ row := by
      rw [List.getD_eq_getElem?_getD] at h1 ⊢
      cases e : row[c]? with
      | none => rw [e] at h1; exact absurd rfl h1
      | some y => exact List.mem_of_getElem? e
    have d := gcdRow_dm 0 row _ hm
    rw [← z] at d
    exact h1 (Int.zero_dvd.mp d)
theorem div_mul {row : List Int} (g : Int) (hg : g = gcdRow 0 row) : row = (row.map fun n => n / g).map (g * ·) := by
  rw [List.map_map]
  refine (List.map_id' row).symm.trans (List.map_congr_left fun x hx => ?_)
  show x = g * (x / g)
  rw [hg]
  exact (Int.mul_ediv_cancel' (gcdRow_dm 0 row x hx)).symm
theorem add_ok {n b : Nat} {K : Kept} (hK : KeptOk n b K) {row : List Int} (hl : row.length = n) (hb : Bd b row) : KeptOk n b (lAdd K row) := by
  unfold lAdd
  cases e : lLead (lReduce K row) with
  | none => exact hK
  | some c =>
    dsimp only
    obtain ⟨r1, r2, r3⟩ := red_ok hK hl hb K.length (Nat.le_refl _)
    rw [List.take_length] at r1 r2 r3
    generalize lReduce K row = left at e r1 r2 r3
    obtain ⟨l1, l2⟩ := lead_some e
    have g0 := gcd_pos l2
    have dm := div_mul (row := left) _ rfl
    have gd : ∀ j, left.getD j 0 = gcdRow 0 left * (left.map fun n => n / gcdRow 0 left).getD j 0 := fun j => by
      have := congrArg (fun l => l.getD j 0) dm
      simp only [getD_map] at this
      exact this
    have last : ∀ {j : Nat} {p : Nat × List Int}, (K ++ [(c, left.map fun n => n / gcdRow 0 left)])[j]? = some p → ¬ j < K.length → j = K.length ∧ p = (c, left.map fun n => n / gcdRow 0 left) := fun {j p} h hj => by
      rw [List.getElem?_append_right (by omega)] at h
      have hz : j - K.length = 0 := by
        cases hz : j - K.length with
        | zero => rfl
        | succ m => rw [hz] at h; simp at h
      rw [hz] at h
      cases h
      exact ⟨by omega, rfl⟩
    refine ⟨fun i p hp => ?_, fun i j p q hp hq hij => ?_⟩
    · by_cases hi : i < K.length
      · rw [List.getElem?_append_left hi] at hp; exact hK.row i p hp
      · obtain ⟨rfl, rfl⟩ := last hp hi
        refine ⟨by rw [List.length_map]; exact r1, by rw [← r1]; exact l1, fun y hy => ?_, fun z => ?_⟩
        · obtain ⟨x, hx, rfl⟩ := List.mem_map.mp hy
          exact Nat.lt_of_le_of_lt (ediv_le g0 (gcdRow_dm 0 left x hx)) (r2 x hx)
        · have := gd c
          rw [show (left.map fun n => n / gcdRow 0 left).getD c 0 = 0 from z, Int.mul_zero] at this
          exact l2 this
    · by_cases hj : j < K.length
      · rw [List.getElem?_append_left hj] at hq
        rw [List.getElem?_append_left (by omega)] at hp
        exact hK.tri i j p q hp hq hij
      · obtain ⟨rfl, rfl⟩ := last hq hj
        rw [List.getElem?_append_left hij] at hp
        have := gd p.1
        rw [r3 i p hij hp] at this
        exact mz this.symm (by omega)
theorem kept_all {n b : Nat} {rows : List (List Int)} (h : ∀ r ∈ rows, r.length = n ∧ Bd b r) : KeptOk n b (lEchelon rows) := by
  have key : ∀ (rows : List (List Int)) (K : Kept), (∀ r ∈ rows, r.length = n ∧ Bd b r) → KeptOk n b K → KeptOk n b (rows.foldl lAdd K) := by
    intro rows
    induction rows with
    | nil => intro K _ hK; exact hK
    | cons r l ih => intro K h hK; exact ih _ (fun x hx => h x (List.mem_cons_of_mem _ hx)) (add_ok hK (h r (List.mem_cons_self ..)).1 (h r (List.mem_cons_self ..)).2)
  exact key rows [] h ⟨fun i p e => by simp at e, fun i j p q e => by simp at e⟩
/-! ### what is orthogonal -/
/-- a filling that all rows send to 0, not 0 at the letter -/
def Hid (rows : List (List Int)) (l : Nat) : Prop := ∃ x : Nat → Int, (∀ r ∈ rows, dot r x = 0) ∧ x l ≠ 0
theorem red_dot {n : Nat} {x : Nat → Int} : ∀ {K : Kept}, (∀ p ∈ K, p.2.length = n ∧ p.2.getD p.1 0 ≠ 0 ∧ dot p.2 x = 0) → ∀ {row : List Int}, row.length = n → (dot (lReduce K row) x = 0 ↔ dot row x = 0)
  | [], _, _, _ => Iff.rfl
  | p :: K, h, row, hl => by
    obtain ⟨h1, h2, h3⟩ := h p (List.mem_cons_self ..)
    show dot (lReduce K (lStep row p)) x = 0 ↔ _
    have hs : (lStep row p).length = n := by
      unfold lStep
      split
      · rw [plainRow_len, lMix_len (by omega), hl]
      · exact hl
    refine (red_dot (fun q hq => h q (List.mem_cons_of_mem _ hq)) hs).trans ?_
    by_cases hne : row.getD p.1 0 ≠ 0
    · obtain ⟨k, hk, _, hd⟩ := lStep_eq (p := p) (by omega) hne
      have := hd x
      rw [h3, Int.mul_zero, Int.sub_zero] at this
      constructor
      · intro z; rw [z, Int.mul_zero] at this; exact mz this.symm h2
      · intro z; rw [z, Int.mul_zero] at this; exact mz this hk
    · have : lStep row p = row := if_neg hne
      rw [this]
theorem dot_zero : ∀ (r : List Int) (x : Nat → Int), (∀ j, r.getD j 0 = 0) → dot r x = 0
  | [], _, _ => rfl
  | a :: r, x, h => by
    show a * x 0 + dot r _ = 0
    have h0 : a = 0 := h 0
    rw [h0, Int.zero_mul, dot_zero r _ fun j => h (j + 1)]; rfl
theorem add_dot {n b : Nat} {K : Kept} (hK : KeptOk n b K) {row : List Int} (hl : row.length = n) {x : Nat → Int} : (∀ p ∈ lAdd K row, dot p.2 x = 0) ↔ (∀ p ∈ K, dot p.2 x = 0) ∧ dot row x = 0 := by
  have kk : (∀ p ∈ K, dot p.2 x = 0) → (dot (lReduce K row) x = 0 ↔ dot row x = 0) := fun h => red_dot (fun p hp => by
    obtain ⟨i, hi⟩ := List.mem_iff_getElem?.mp hp
    obtain ⟨g1, _, _, g4⟩ := hK.row i p hi
    exact ⟨g1, g4, h p hp⟩) hl
  unfold lAdd
  cases e : lLead (lReduce K row) with
  | none =>
    dsimp only
    refine ⟨fun h => ⟨h, (kk h).mp (dot_zero _ _ (lead_none e))⟩, fun h => h.1⟩
  | some c =>
    dsimp only
    obtain ⟨l1, l2⟩ := lead_some e
    have g0 := gcd_pos l2
    have dm := div_mul (row := lReduce K row) _ rfl
    have dd : dot (lReduce K row) x = gcdRow 0 (lReduce K row) * dot ((lReduce K row).map fun n => n / gcdRow 0 (lReduce K row)) x := by
      have := congrArg (fun l => dot l x) dm
      simp only [dot_map] at this
      exact this
    constructor
    · intro h
      have hKx : ∀ p ∈ K, dot p.2 x = 0 := fun p hp => h p (List.mem_append.mpr (.inl hp))
      have := h _ (List.mem_append.mpr (.inr (List.mem_singleton.mpr rfl)))
      refine ⟨hKx, (kk hKx).mp ?_⟩
      rw [dd, this, Int.mul_zero]
    · rintro ⟨h1, h2⟩ p hp
      rcases List.mem_append.mp hp with z | z
      · exact h1 p z
      · rw [List.mem_singleton.mp z]
        have := (kk h1).mpr h2
        rw [dd] at this
        exact mz this (by omega)
theorem ech_dot {n b : Nat} {rows : List (List Int)} (h : ∀ r ∈ rows, r.length = n ∧ Bd b r) {x : Nat → Int} : (∀ p ∈ lEchelon rows, dot p.2 x = 0) ↔ ∀ r ∈ rows, dot r x = 0 := by
  have key : ∀ (rows : List (List Int)) (K : Kept), (∀ r ∈ rows, r.length = n ∧ Bd b r) → KeptOk n b K → ((∀ p ∈ rows.foldl lAdd K, dot p.2 x = 0) ↔ (∀ p ∈ K, dot p.2 x = 0) ∧ ∀ r ∈ rows, dot r x = 0) := by
    intro rows
    induction rows with
    | nil => intro K _ _; exact ⟨fun h => ⟨h, fun r hr => by cases hr⟩, fun h => h.1⟩
    | cons r l ih =>
      intro K h hK
      obtain ⟨h1, h2⟩ := h r (List.mem_cons_self ..)
      refine (ih _ (fun x hx => h x (List.mem_cons_of_mem _ hx)) (add_ok hK h1 h2)).trans ?_
      rw [add_dot hK h1]
      constructor
      · rintro ⟨⟨a, b⟩, c⟩
        refine ⟨a, fun y hy => ?_⟩
        rcases List.mem_cons.mp hy with e | e
        · rw [e]; exact b
        · exact c y e
      · rintro ⟨a, b⟩
        exact ⟨⟨a, b r (List.mem_cons_self ..)⟩, fun y hy => b y (List.mem_cons_of_mem _ hy)⟩
  refine (key rows [] h ⟨fun i p e => by simp at e, fun i j p q e => by simp at e⟩).trans ⟨fun z => z.2, fun z => ⟨(fun p hp => by cases hp), z⟩⟩
/-! ### solving a triangle -/
theorem dot_congr : ∀ (r : List Int) {x y : Nat → Int}, (∀ j, j < r.length → x j = y j) → dot r x = dot r y
  | [], _, _, _ => rfl
  | a :: r, x, y, h => by
    show a * x 0 + dot r _ = a * y 0 + dot r _
    rw [h 0 (Nat.zero_lt_succ _), dot_congr r fun j hj => h (j + 1) (Nat.succ_lt_succ hj)]
/-- x scaled by u, then less d at the place c -/
theorem dot_bump (u d : Int) : ∀ (r : List Int) (c : Nat) (x : Nat → Int), dot r (fun j => if j = c then u * x j - d else u * x j) = u * dot r x - d * r.getD c 0
  | [], _, _ => by show (0 : Int) = u * 0 - d * 0; rw [Int.mul_zero, Int.mul_zero]; rfl
  | a :: r, 0, x => by
    show a * (if 0 = 0 then u * x 0 - d else u * x 0) + dot r (fun j => if j + 1 = 0 then _ else u * x (j + 1)) = u * (a * x 0 + dot r _) - d * a
    rw [if_pos rfl]
    have e : dot r (fun j => if j + 1 = 0 then u * x (j + 1) - d else u * x (j + 1)) = u * dot r fun j => x (j + 1) := by
      rw [dot_congr r (y := fun j => u * x (j + 1)) fun j _ => if_neg (Nat.succ_ne_zero j)]
      have key : ∀ (r : List Int) (y : Nat → Int), dot r (fun j => u * y j) = u * dot r y := by
        intro r
        induction r with
        | nil => intro y; exact (Int.mul_zero u).symm
        | cons a r ih =>
          intro y
          show a * (u * y 0) + dot r (fun j => u * y (j + 1)) = u * (a * y 0 + dot r _)
          rw [ih fun j => y (j + 1), Int.mul_add, ← Int.mul_assoc, ← Int.mul_assoc, Int.mul_comm a u]
      exact key r _
    rw [e, Int.mul_sub, Int.mul_add, ← Int.mul_assoc, ← Int.mul_assoc, Int.mul_comm a u, Int.mul_comm a d]
    omega
  | a :: r, c + 1, x => by
    show a * (if 0 = c + 1 then u * x 0 - d else u * x 0) + dot r (fun j => if j + 1 = c + 1 then u * x (j + 1) - d else u * x (j + 1)) = u * (a * x 0 + dot r _) - d * r.getD c 0
    rw [if_neg (by omega), dot_congr r (y := fun j => if j = c then u * x (j + 1) - d else u * x (j + 1)) fun j _ => by
      by_cases h : j = c
      · rw [if_pos h, if_pos (by omega)]
      · rw [if_neg h, if_neg (by omega)], dot_bump u d r c fun j => x (j + 1), Int.mul_add, ← Int.mul_assoc, ← Int.mul_assoc, Int.mul_comm a u]
    omega
theorem dot_at : ∀ (r : List Int) (c : Nat), dot r (fun j => if j = c then 1 else 0) = r.getD c 0
  | [], _ => rfl
  | a :: r, 0 => by
    show a * (if 0 = 0 then 1 else 0) + dot r (fun j => if j + 1 = 0 then (1 : Int) else 0) = a
    rw [if_pos rfl, dot_congr r (y := fun _ => 0) fun j _ => if_neg (Nat.succ_ne_zero j)]
    have key : ∀ (r : List Int), dot r (fun _ => 0) = 0 := by
      intro r
      induction r with
      | nil => rfl
      | cons a r ih => show a * 0 + dot r _ = 0; rw [ih, Int.mul_zero]; rfl
    rw [key]; omega
  | a :: r, c + 1 => by
    show a * (if 0 = c + 1 then 1 else 0) + dot r (fun j => if j + 1 = c + 1 then (1 : Int) else 0) = r.getD c 0
    rw [if_neg (by omega), dot_congr r (y := fun j => if j = c then 1 else 0) fun j _ => by
      by_cases h : j = c
      · rw [if_pos h, if_pos (by omega)]
      · rw [if_neg h, if_neg (by omega)], dot_at r c]
    omega
/-- pairs whose later rows are 0 at the earlier leads: a filling that they send to 0, the target not; only the place and the leads are not 0 -/
theorem tri_solve {t : List Int} {j : Nat} : ∀ {K : Kept}, (∀ p ∈ K, p.2.getD p.1 0 ≠ 0) → List.Pairwise (fun p q : Nat × List Int => q.2.getD p.1 0 = 0) K → (∀ p ∈ K, t.getD p.1 0 = 0) → t.getD j 0 ≠ 0 →
    ∃ x : Nat → Int, (∀ p ∈ K, dot p.2 x = 0) ∧ dot t x ≠ 0 ∧ ∀ m, m ≠ j → (∀ p ∈ K, m ≠ p.1) → x m = 0
  | [], _, _, _, ht => ⟨fun m => if m = j then 1 else 0, (fun p hp => by cases hp), by rw [dot_at]; exact ht, fun m hm _ => if_neg hm⟩
  | p :: K, h1, h2, h3, ht => by
    obtain ⟨pw1, pw2⟩ := List.pairwise_cons.mp h2
    obtain ⟨x, x1, x2, x3⟩ := tri_solve (K := K) (fun q hq => h1 q (List.mem_cons_of_mem _ hq)) pw2 (fun q hq => h3 q (List.mem_cons_of_mem _ hq)) ht
    have hp := h1 p (List.mem_cons_self ..)
    refine ⟨fun m => if m = p.1 then p.2.getD p.1 0 * x m - dot p.2 x else p.2.getD p.1 0 * x m, fun q hq => ?_, ?_, fun m hm hq => ?_⟩
    · rw [dot_bump]
      rcases List.mem_cons.mp hq with e | e
      · rw [e, Int.mul_comm, Int.sub_self]
      · rw [x1 q e, pw1 q e, Int.mul_zero, Int.mul_zero]; rfl
    · rw [dot_bump, h3 p (List.mem_cons_self ..), Int.mul_zero, Int.sub_zero]
      exact fun z => x2 (mz z hp)
    · show (if m = p.1 then _ else _) = (0 : Int)
      rw [if_neg (hq p (List.mem_cons_self ..)), x3 m hm fun q hq' => hq q (List.mem_cons_of_mem _ hq'), Int.mul_zero]
theorem unit_len (n l : Nat) : (unitRow n l).length = n := by unfold unitRow; rw [List.length_map, List.length_range]
theorem unit_get {n l j : Nat} (hj : j < n) : (unitRow n l).getD j 0 = if j = l then 1 else 0 := by
  unfold unitRow
  rw [List.getD_eq_getElem?_getD, List.getElem?_map, List.getElem?_range hj]; rfl
theorem dot_unit {n l : Nat} (h : l < n) (x : Nat → Int) : dot (unitRow n l) x = x l := by
  have key : ∀ (n s l : Nat) (x : Nat → Int), s ≤ l → l < s + n → dot ((List.range' s n).map fun i => if i = l then (1 : Int) else 0) (fun j => x (s + j)) = x l := by
    intro n
    induction n with
    | zero => intro s l x h1 h2; omega
    | succ n ih =>
      intro s l x h1 h2
      rw [List.range'_succ, List.map_cons]
      show (if s = l then (1 : Int) else 0) * x (s + 0) + dot _ (fun j => x (s + (j + 1))) = x l
      have zero : ∀ (n s : Nat) (y : Nat → Int), l < s → dot ((List.range' s n).map fun i => if i = l then (1 : Int) else 0) y = 0 := by
        intro n
        induction n with
        | zero => intro s y _; rfl
        | succ n ih =>
          intro s y hs
          rw [List.range'_succ, List.map_cons]
          show (if s = l then (1 : Int) else 0) * y 0 + dot _ _ = 0
          rw [if_neg (by omega), ih (s + 1) _ (by omega)]; omega
      by_cases e : s = l
      · rw [if_pos e, zero n (s + 1) _ (by omega), e, Nat.add_zero]; omega
      · rw [if_neg e]
        have := ih (s + 1) l x (by omega) (by omega)
        rw [dot_congr _ (y := fun j => x (s + 1 + j)) fun j _ => by rw [show s + (j + 1) = s + 1 + j by omega], this]; omega
  unfold unitRow
  rw [List.range_eq_range']
  have := key n 0 l x (Nat.zero_le _) (by omega)
  rw [dot_congr _ (y := x) fun j _ => by rw [Nat.zero_add]] at this
  exact this
theorem tells_iff {n b l : Nat} {rows : List (List Int)} (h : ∀ r ∈ rows, r.length = n ∧ Bd b r) (hb : 1 ≤ b) (hl : l < n) : lTells rows n l = true ↔ ¬ Hid rows l := by
  have kk := kept_all h
  have ub : Bd b (unitRow n l) := fun y hy => by
    obtain ⟨i, _, rfl⟩ := List.mem_map.mp hy
    have := Nat.one_lt_two_pow (n := b) (by omega)
    split
    · exact this
    · exact Nat.two_pow_pos b
  obtain ⟨r1, r2, r3⟩ := red_ok kk (unit_len n l) ub (lEchelon rows).length (Nat.le_refl _)
  rw [List.take_length] at r1 r2 r3
  have mem : ∀ p ∈ lEchelon rows, p.2.length = n ∧ p.2.getD p.1 0 ≠ 0 := fun p hp => by
    obtain ⟨i, hi⟩ := List.mem_iff_getElem?.mp hp
    obtain ⟨g1, _, _, g4⟩ := kk.row i p hi
    exact ⟨g1, g4⟩
  unfold lTells
  cases e : lLead (lReduce (lEchelon rows) (unitRow n l)) with
  | none =>
    refine ⟨fun _ => ?_, fun _ => rfl⟩
    rintro ⟨x, hx, hxl⟩
    have kx := (ech_dot h).mpr hx
    have := (red_dot (fun p hp => ⟨(mem p hp).1, (mem p hp).2, kx p hp⟩) (unit_len n l)).mp (dot_zero _ _ (lead_none e))
    rw [dot_unit hl] at this
    exact hxl this
  | some c =>
    refine ⟨(fun z => by cases z), fun hn => absurd ?_ hn⟩
    obtain ⟨l1, l2⟩ := lead_some e
    obtain ⟨x, x1, x2, _⟩ := tri_solve (t := lReduce (lEchelon rows) (unitRow n l)) (j := c) (K := lEchelon rows) (fun p hp => (mem p hp).2) (List.pairwise_iff_getElem.mpr fun i j hi hj hij => kk.tri i j _ _ (List.getElem?_eq_getElem hi) (List.getElem?_eq_getElem hj) hij)
      (fun p hp => by
        obtain ⟨i, hi⟩ := List.mem_iff_getElem?.mp hp
        exact r3 i p (List.getElem?_eq_some_iff.mp hi).1 hi) l2
    refine ⟨x, (ech_dot h).mp x1, fun z => x2 ?_⟩
    refine (red_dot (fun p hp => ⟨(mem p hp).1, (mem p hp).2, x1 p hp⟩) (unit_len n l)).mpr ?_
    rw [dot_unit hl]; exact z
end Th

/-! part M9 -/
namespace Th
theorem dot_or : ∀ (r : List Int) (x : Nat → Int), (∀ j, r.getD j 0 = 0 ∨ x j = 0) → dot r x = 0
  | [], _, _ => rfl
  | a :: r, x, h => by
    show a * x 0 + dot r _ = 0
    have h0 : a * x 0 = 0 := by
      rcases h 0 with z | z
      · have z' : a = 0 := z
        rw [z', Int.zero_mul]
      · rw [z, Int.mul_zero]
    rw [h0, dot_or r _ fun j => h (j + 1)]; rfl
theorem dot_app : ∀ (a b : List Int) (x : Nat → Int), dot (a ++ b) x = dot a x + dot b fun j => x (a.length + j)
  | [], b, x => by
    show dot b x = 0 + dot b _
    rw [dot_congr b (y := fun j => x (([] : List Int).length + j)) fun j _ => by rw [show ([] : List Int).length + j = j from Nat.zero_add j]]; omega
  | c :: a, b, x => by
    show c * x 0 + dot (a ++ b) _ = c * x 0 + dot a _ + dot b _
    rw [dot_app a b, dot_congr b (y := fun j => x ((c :: a).length + j)) fun j _ => by rw [List.length_cons]; congr 1; omega]
    omega
theorem target_dot {N : Nat} {x : Nat → Int} : ∀ {ps : List (List Int × Nat)}, (∀ p ∈ ps, p.1.length = N ∧ p.1.getD p.2 0 ≠ 0 ∧ dot p.1 x = 0) → ∀ {t : List Int}, t.length = N → (dot (targetOf ps t) x = 0 ↔ dot t x = 0)
  | [], _, _, _ => Iff.rfl
  | p :: ps, h, t, hl => by
    obtain ⟨h1, h2, h3⟩ := h p (List.mem_cons_self ..)
    show dot (targetOf ps (if t.getD p.2 0 ≠ 0 then clearedRow t p.1 p.2 else t)) x = 0 ↔ _
    by_cases hne : t.getD p.2 0 ≠ 0
    · rw [if_pos hne]
      exact (target_dot (fun q hq => h q (List.mem_cons_of_mem _ hq)) ((clearedRow_len (by omega)).trans hl)).trans (cleared_dot (by omega) hne h2 h3)
    · rw [if_neg hne]
      exact target_dot (fun q hq => h q (List.mem_cons_of_mem _ hq)) hl
theorem target_lead {N : Nat} {ps : List (List Int × Nat)} (hr : Red ps) (h : ∀ p ∈ ps, p.1.length = N) {t : List Int} (hl : t.length = N) :
    ∀ k, k ≤ ps.length → (targetOf (ps.take k) t).length = N ∧ ∀ (i : Nat) (p : List Int × Nat), i < k → ps[i]? = some p → (targetOf (ps.take k) t).getD p.2 0 = 0
  | 0, _ => ⟨hl, fun i p hi => absurd hi (Nat.not_lt_zero _)⟩
  | k + 1, hk => by
    obtain ⟨h1, h2⟩ := target_lead hr h hl k (by omega)
    have e : ps[k]? = some ps[k] := List.getElem?_eq_getElem (by omega)
    have hm := List.mem_of_getElem? e
    rw [take_snoc e, targetOf_snoc]
    by_cases hne : (targetOf (ps.take k) t).getD ps[k].2 0 ≠ 0
    · rw [if_pos hne]
      have hlen := h _ hm
      refine ⟨(clearedRow_len (by omega)).trans h1, fun i p hi hp => ?_⟩
      rcases Nat.lt_succ_iff_lt_or_eq.mp hi with z | z
      · exact cleared_z (by omega) hne (hr.1 _ hm) (h2 i p z hp) (hr.2 k i ps[k] p e hp (by omega))
      · subst z
        have : p = ps[i] := Option.some.inj (hp.symm.trans e)
        subst this
        exact cleared_at (by omega) hne (hr.1 _ hm)
    · rw [if_neg hne]
      refine ⟨h1, fun i p hi hp => ?_⟩
      rcases Nat.lt_succ_iff_lt_or_eq.mp hi with z | z
      · exact h2 i p z hp
      · subst z
        have : p = ps[i] := Option.some.inj (hp.symm.trans e)
        subst this
        exact Classical.not_not.mp hne
theorem none_iff {n b l : Nat} {rows : List (List Int)} (h : ∀ r ∈ rows, r.length = n ∧ Bd b r) (hb : 1 ≤ b) (hl : l < n) : noneFor rows (unitRow n l) = true ↔ Hid rows l := by
  have bo := bordered_ok h hb
  have bo' : ∀ r ∈ borderedRows rows, r.length = n + rows.length + 1 ∧ Bd b r := fun r hr => ⟨(bo r hr).1, (bo r hr).2.1⟩
  have po := pairs_ok bo' n
  have rd := ech_red bo' n
  have okk := ech_ok bo' n
  have pl : ∀ p ∈ echelonPairs (borderedRows rows) n, p.1.length = n + rows.length + 1 := fun p hp => (po.row p hp).1
  have sl : (startOf rows.length (unitRow n l)).length = n + rows.length + 1 := by
    unfold startOf; rw [List.length_append, List.length_append, List.length_replicate, unit_len]; rfl
  obtain ⟨t1, t2⟩ := target_lead po.red pl sl (echelonPairs (borderedRows rows) n).length (Nat.le_refl _)
  rw [List.take_length] at t1 t2
  -- fillings that are 0 from n on
  have startX : ∀ X : Nat → Int, (∀ m, n ≤ m → X m = 0) → dot (startOf rows.length (unitRow n l)) X = X l := fun X hX => by
    unfold startOf
    rw [List.append_assoc, dot_app, dot_unit hl, unit_len, dot_or _ (fun j => X (n + j)) fun j => .inr (hX _ (Nat.le_add_right _ _))]
    omega
  have rowX : ∀ X : Nat → Int, (∀ m, n ≤ m → X m = 0) → ((∀ r ∈ borderedRows rows, dot r X = 0) ↔ ∀ r ∈ rows, dot r X = 0) := fun X hX => by
    have one : ∀ i, i < rows.length → dot (rows.getD i [] ++ (List.replicate (rows.length + 1) 0).set i 1) X = dot (rows.getD i []) X := fun i hi => by
      have hm := (h _ (getD_mem hi)).1
      rw [dot_app, hm, dot_or _ (fun j => X (n + j)) fun j => .inr (hX _ (Nat.le_add_right _ _))]
      omega
    constructor
    · intro hx r hr
      obtain ⟨i, hi⟩ := List.mem_iff_getElem?.mp hr
      have il := (List.getElem?_eq_some_iff.mp hi).1
      have := hx _ (by unfold borderedRows; exact List.mem_map.mpr ⟨i, List.mem_range.mpr il, rfl⟩)
      rw [one i il, getD_of hi] at this
      exact this
    · intro hx r hr
      unfold borderedRows at hr
      obtain ⟨i, hi, rfl⟩ := List.mem_map.mp hr
      have il := List.mem_range.mp hi
      rw [one i il]
      exact hx _ (getD_mem il)
  have pairX : ∀ X : Nat → Int, (∀ m, n ≤ m → X m = 0) → ((∀ p ∈ echelonPairs (borderedRows rows) n, dot p.1 X = 0) ↔ ∀ r ∈ rows, dot r X = 0) := fun X hX => by
    rw [← rowX X hX, rd.eqv X]
    have lft : ∀ r ∈ (echelon (borderedRows rows) n).1, dot r X = 0 := fun r hr => dot_or r X fun j => by
      by_cases hj : j < n
      · exact .inl (rd.lz r hr j hj)
      · exact .inr (hX j (by omega))
    constructor
    · intro hp
      refine ⟨lft, fun r hr => ?_⟩
      obtain ⟨i, hi⟩ := List.mem_iff_getElem?.mp hr
      have il := (List.getElem?_eq_some_iff.mp hi).1
      have : (echelonPairs (borderedRows rows) n)[i]? = some (r, (echelon (borderedRows rows) n).2.2[i]'(by rw [← okk.same]; exact il)) := List.getElem?_zip_eq_some.mpr ⟨hi, List.getElem?_eq_getElem _⟩
      exact hp _ (List.mem_of_getElem? this)
    · rintro ⟨_, hd⟩ p hp
      obtain ⟨i, hi⟩ := List.mem_iff_getElem?.mp hp
      exact hd _ (List.mem_of_getElem? (List.getElem?_zip_eq_some.mp hi).1)
  have cnt : noneFor rows (unitRow n l) = true ↔ ∃ j, j < n ∧ (targetOf (echelonPairs (borderedRows rows) n) (startOf rows.length (unitRow n l))).getD j 0 ≠ 0 := by
    unfold noneFor noneIn
    rw [unit_len]
    generalize targetOf (echelonPairs (borderedRows rows) n) (startOf rows.length (unitRow n l)) = t at t1
    have tl : (t.take n).length = n := by rw [List.length_take]; omega
    constructor
    · intro hc
      have hlt := of_decide_eq_true hc
      refine Classical.byContradiction fun hno => ?_
      have all : ∀ y ∈ t.take n, (0 : Int) = y := fun y hy => by
        obtain ⟨j, hj⟩ := List.mem_iff_getElem?.mp hy
        have jl := (List.getElem?_eq_some_iff.mp hj).1
        rw [List.getElem?_take_of_lt (by omega)] at hj
        refine Classical.byContradiction fun hne => hno ⟨j, by omega, ?_⟩
        rw [List.getD_eq_getElem?_getD, hj]
        exact fun z => hne z.symm
      have := List.count_eq_length.mpr all
      omega
    · rintro ⟨j, hj, hne⟩
      refine decide_eq_true ?_
      refine Nat.lt_of_le_of_ne (Nat.le_trans List.count_le_length (by omega)) fun hc => hne ?_
      have hall := List.count_eq_length.mp (hc.trans tl.symm)
      have e : t[j]? = some t[j] := List.getElem?_eq_getElem (by omega)
      rw [List.getD_eq_getElem?_getD, e]
      exact (hall t[j] (List.mem_of_getElem? (by rw [List.getElem?_take_of_lt hj]; exact e))).symm
  rw [cnt]
  constructor
  · rintro ⟨j, hj, hne⟩
    obtain ⟨X, x1, x2, x3⟩ := tri_solve (t := targetOf (echelonPairs (borderedRows rows) n) (startOf rows.length (unitRow n l))) (j := j) (K := (echelonPairs (borderedRows rows) n).map fun p => (p.2, p.1))
      (fun q hq => by
        obtain ⟨p, hp, rfl⟩ := List.mem_map.mp hq
        exact po.red.1 p hp)
      (by
        refine List.pairwise_map.mpr (List.pairwise_iff_getElem.mpr fun i k hi hk hik => ?_)
        exact po.red.2 k i _ _ (List.getElem?_eq_getElem hk) (List.getElem?_eq_getElem hi) (by omega))
      (fun q hq => by
        obtain ⟨p, hp, rfl⟩ := List.mem_map.mp hq
        obtain ⟨i, hi⟩ := List.mem_iff_getElem?.mp hp
        exact t2 i p (List.getElem?_eq_some_iff.mp hi).1 hi) hne
    have hX : ∀ m, n ≤ m → X m = 0 := fun m hm => x3 m (by omega) fun q hq => by
      obtain ⟨p, hp, rfl⟩ := List.mem_map.mp hq
      have := (po.row p hp).2.2
      show m ≠ p.2
      omega
    have px : ∀ p ∈ echelonPairs (borderedRows rows) n, dot p.1 X = 0 := fun p hp => x1 _ (List.mem_map.mpr ⟨p, hp, rfl⟩)
    refine ⟨X, (pairX X hX).mp px, fun z => x2 ?_⟩
    refine (target_dot (fun p hp => ⟨pl p hp, po.red.1 p hp, px p hp⟩) sl).mpr ?_
    rw [startX X hX]; exact z
  · rintro ⟨x, hx, hxl⟩
    refine Classical.byContradiction fun hno => hxl ?_
    have hX : ∀ m, n ≤ m → (fun j => if j < n then x j else 0) m = 0 := fun m hm => if_neg (by omega)
    have hxX : ∀ r ∈ rows, dot r (fun j => if j < n then x j else 0) = 0 := fun r hr => by
      rw [dot_congr r (y := x) fun j hj => if_pos (by rw [(h r hr).1] at hj; exact hj)]
      exact hx r hr
    have px := (pairX _ hX).mpr hxX
    have hz : dot (targetOf (echelonPairs (borderedRows rows) n) (startOf rows.length (unitRow n l))) (fun j => if j < n then x j else 0) = 0 := dot_or _ _ fun j => by
      by_cases hj : j < n
      · exact .inl (Classical.byContradiction fun hne => hno ⟨j, hj, hne⟩)
      · exact .inr (if_neg hj)
    have := (target_dot (fun p hp => ⟨pl p hp, po.red.1 p hp, px p hp⟩) sl).mp hz
    rw [startX _ hX] at this
    rw [if_pos hl] at this
    exact this
end Th

/-! part MA -/
namespace Th
/-! ### the hidden basis -/
theorem pairs_iff {rows : List (List Int)} {n b : Nat} (h : ∀ r ∈ rows, r.length = n ∧ Bd b r) (x : Nat → Int) : (∀ p ∈ echelonPairs rows n, dot p.1 x = 0) ↔ ∀ r ∈ rows, dot r x = 0 := by
  have rd := ech_red h n
  have okk := ech_ok h n
  rw [rd.eqv x]
  have lft : ∀ r ∈ (echelon rows n).1, dot r x = 0 := fun r hr => dot_or r x fun j => by
    by_cases hj : j < n
    · exact .inl (rd.lz r hr j hj)
    · refine .inl ?_
      rw [List.getD_eq_getElem?_getD, List.getElem?_eq_none (by have := (okk.left r hr).1; omega)]; rfl
  constructor
  · intro hp
    refine ⟨lft, fun r hr => ?_⟩
    obtain ⟨i, hi⟩ := List.mem_iff_getElem?.mp hr
    have il := (List.getElem?_eq_some_iff.mp hi).1
    have : (echelonPairs rows n)[i]? = some (r, (echelon rows n).2.2[i]'(by rw [← okk.same]; exact il)) := List.getElem?_zip_eq_some.mpr ⟨hi, List.getElem?_eq_getElem _⟩
    exact hp _ (List.mem_of_getElem? this)
  · rintro ⟨_, hd⟩ p hp
    obtain ⟨i, hi⟩ := List.mem_iff_getElem?.mp hp
    exact hd _ (List.mem_of_getElem? (List.getElem?_zip_eq_some.mp hi).1)
theorem dot_pt : ∀ (r : List Int) {x y : Nat → Int}, (∀ j, r.getD j 0 * x j = r.getD j 0 * y j) → dot r x = dot r y
  | [], _, _, _ => rfl
  | a :: r, x, y, h => by
    show a * x 0 + dot r _ = a * y 0 + dot r _
    have h0 : a * x 0 = a * y 0 := h 0
    rw [h0, dot_pt r fun j => h (j + 1)]
theorem dot_comm : ∀ (a b : List Int), dot a (fun j => b.getD j 0) = dot b fun j => a.getD j 0
  | [], b => by show (0 : Int) = _; exact (dot_or b _ fun j => .inr rfl).symm
  | a :: as, [] => dot_or (a :: as) _ fun j => .inr rfl
  | a :: as, b :: bs => by
    show a * b + dot as (fun j => bs.getD j 0) = b * a + dot bs fun j => as.getD j 0
    rw [dot_comm as bs, Int.mul_comm]
theorem nums_at {sc : Int} {c : Nat} {ps : List (List Int × Nat)} (hr : Red ps) {ns : List Int} (hw : ∀ p ∈ ps, p.2 < ns.length) : ∀ k, k ≤ ps.length →
    (∀ m, (∀ (i : Nat) (p : List Int × Nat), i < k → ps[i]? = some p → m ≠ p.2) → ((ps.take k).foldl (numStep sc c) ns).getD m 0 = ns.getD m 0) ∧
    ∀ (i : Nat) (p : List Int × Nat), i < k → ps[i]? = some p → ((ps.take k).foldl (numStep sc c) ns).getD p.2 0 = -(p.1.getD c 0) * sc.fdiv (p.1.getD p.2 0)
  | 0, _ => ⟨fun m _ => rfl, fun i p hi => absurd hi (Nat.not_lt_zero _)⟩
  | k + 1, hk => by
    obtain ⟨h1, h2⟩ := nums_at hr hw k (by omega)
    have e : ps[k]? = some ps[k] := List.getElem?_eq_getElem (by omega)
    rw [take_snoc e, List.foldl_append]
    have len : ((ps.take k).foldl (numStep sc c) ns).length = ns.length := nums_len ..
    generalize (ps.take k).foldl (numStep sc c) ns = cur at h1 h2 len
    show (∀ m : Nat, _ → (cur.set ps[k].2 _).getD m 0 = _) ∧ ∀ (i : Nat) (p : List Int × Nat), _ → _ → (cur.set ps[k].2 _).getD p.2 0 = _
    have hk2 := hw _ (List.mem_of_getElem? e)
    refine ⟨fun m hm => ?_, fun i p hi hp => ?_⟩
    · have ne := hm k ps[k] (Nat.lt_succ_self k) e
      rw [List.getD_eq_getElem?_getD, List.getElem?_set_ne (fun z => ne z.symm), ← List.getD_eq_getElem?_getD]
      exact h1 m fun i p hi hp => hm i p (Nat.lt_succ_of_lt hi) hp
    · rcases Nat.lt_succ_iff_lt_or_eq.mp hi with z | z
      · have ne : ps[k].2 ≠ p.2 := fun q => by
          have o1 := hr.2 i k p ps[k] hp e (by omega)
          rw [q] at o1
          exact hr.1 p (List.mem_of_getElem? hp) o1
        rw [List.getD_eq_getElem?_getD, List.getElem?_set_ne ne, ← List.getD_eq_getElem?_getD]
        exact h2 i p z hp
      · subst z
        have : p = ps[i] := Option.some.inj (hp.symm.trans e)
        subst this
        rw [List.getD_eq_getElem?_getD, List.getElem?_set_self (by omega)]; rfl
/-- the numbers of a free row, place by place -/
theorem free_at {ps : List (List Int × Nat)} (hr : Red ps) {w c : Nat} (hw : ∀ p ∈ ps, p.2 < w) (hc : c < w) (hcl : ∀ p ∈ ps, c ≠ p.2) :
    (freeNums ps c w).getD c 0 = scaleOf ps ∧ (∀ m, m ≠ c → (∀ p ∈ ps, m ≠ p.2) → (freeNums ps c w).getD m 0 = 0) ∧ ∀ p ∈ ps, (freeNums ps c w).getD p.2 0 = -(p.1.getD c 0) * (scaleOf ps).fdiv (p.1.getD p.2 0) := by
  obtain ⟨h1, h2⟩ := nums_at (sc := scaleOf ps) (c := c) hr (ns := (List.replicate w 0).set c (scaleOf ps)) (fun p hp => by rw [List.length_set, List.length_replicate]; exact hw p hp) ps.length (Nat.le_refl _)
  rw [List.take_length] at h1 h2
  refine ⟨?_, fun m hm hp => ?_, fun p hp => ?_⟩
  · refine (h1 c fun i p _ hi => hcl p (List.mem_of_getElem? hi)).trans ?_
    rw [List.getD_eq_getElem?_getD, List.getElem?_set_self (by rw [List.length_replicate]; exact hc)]; rfl
  · refine (h1 m fun i p _ hi => hp p (List.mem_of_getElem? hi)).trans ?_
    rw [List.getD_eq_getElem?_getD, List.getElem?_set_ne (fun z => hm z.symm), List.getElem?_replicate]
    split <;> rfl
  · obtain ⟨i, hi⟩ := List.mem_iff_getElem?.mp hp
    exact h2 i p (List.getElem?_eq_some_iff.mp hi).1 hi
theorem scale_pos {ps : List (List Int × Nat)} (h : ∀ p ∈ ps, p.1.getD p.2 0 ≠ 0) : 0 < scaleOf ps := by
  have key : ∀ (ps : List (List Int × Nat)) (c : Int), (∀ p ∈ ps, p.1.getD p.2 0 ≠ 0) → 0 < c → 0 < ps.foldl (fun s p => lI2 s (p.1.getD p.2 0)) c := by
    intro ps
    induction ps with
    | nil => intro c _ hc; exact hc
    | cons p l ih => intro c h hc; exact ih _ (fun q hq => h q (List.mem_cons_of_mem _ hq)) (lI2_pos (by omega) (h p (List.mem_cons_self ..)))
  exact key ps 1 h (by decide)
theorem free_perp {ps : List (List Int × Nat)} (hr : Red ps) {w c : Nat} (hw : ∀ p ∈ ps, p.2 < w) (hc : c < w) (hcl : ∀ p ∈ ps, c ≠ p.2) : ∀ p ∈ ps, dot p.1 (fun j => (freeNums ps c w).getD j 0) = 0 := fun p hp => by
  obtain ⟨f1, f2, f3⟩ := free_at hr hw hc hcl
  obtain ⟨i, hi⟩ := List.mem_iff_getElem?.mp hp
  have e : dot p.1 (fun j => (freeNums ps c w).getD j 0) = dot p.1 (fun j => if j = p.2 then scaleOf ps * (if j = c then 1 else 0) - (p.1.getD c 0) * (scaleOf ps).fdiv (p.1.getD p.2 0) else scaleOf ps * (if j = c then 1 else 0)) := by
    refine dot_pt _ fun j => ?_
    by_cases h1 : j = p.2
    · subst h1
      rw [f3 p hp, if_pos rfl, if_neg (fun z => hcl p hp z.symm), Int.mul_zero, Int.zero_sub, Int.neg_mul]
    · rw [if_neg h1]
      by_cases h2 : j = c
      · rw [h2, f1, if_pos rfl, Int.mul_one]
      · rw [if_neg h2, Int.mul_zero]
        by_cases h3 : ∀ q ∈ ps, j ≠ q.2
        · rw [f2 j h2 h3]
        · obtain ⟨q, hq⟩ := Classical.not_forall.mp h3
          obtain ⟨hq1, hq2⟩ := Classical.not_imp.mp hq
          have hj : j = q.2 := Classical.not_not.mp hq2
          obtain ⟨k, hk⟩ := List.mem_iff_getElem?.mp hq1
          have : p.1.getD j 0 = 0 := by
            rw [hj]
            refine hr.2 i k p q hi hk fun z => ?_
            subst z
            have : p = q := Option.some.inj (hi.symm.trans hk)
            subst this
            exact h1 hj
          rw [this, Int.zero_mul, Int.zero_mul]
  rw [e, dot_bump, dot_at]
  have d := lead_dvd hi
  have hne := hr.1 p hp
  obtain ⟨k, hk⟩ := d
  rw [hk, Int.mul_fdiv_cancel_left k hne, Int.mul_assoc, Int.mul_comm k, Int.mul_comm (p.1.getD p.2 0), Int.sub_self]
theorem free_mul (ps : List (List Int × Nat)) (c w : Nat) : ∃ k : Int, 0 < k ∧ ∀ j, (freeNums ps c w).getD j 0 = k * (freeRow ps c w).getD j 0 := by
  obtain ⟨k, hk, e⟩ := plainRow_mul (freeNums ps c w)
  refine ⟨k, hk, fun j => ?_⟩
  have := congrArg (fun l => l.getD j 0) e
  simp only [getD_map] at this
  exact this
theorem dot_scale (k : Int) : ∀ (r : List Int) (x : Nat → Int), dot r (fun j => k * x j) = k * dot r x
  | [], _ => (Int.mul_zero k).symm
  | a :: r, x => by
    show a * (k * x 0) + dot r (fun j => k * x (j + 1)) = k * (a * x 0 + dot r _)
    rw [dot_scale k r fun j => x (j + 1), Int.mul_add, ← Int.mul_assoc, ← Int.mul_assoc, Int.mul_comm a k]
theorem free_mem {rows : List (List Int)} {n : Nat} {f : List Int} (hf : f ∈ freeRows rows n) : ∃ c, c < n ∧ (∀ p ∈ echelonPairs rows n, c ≠ p.2) ∧ f = freeRow (echelonPairs rows n) c n := by
  obtain ⟨c, hc, rfl⟩ := List.mem_map.mp hf
  obtain ⟨h1, h2⟩ := List.mem_filter.mp hc
  exact ⟨c, List.mem_range.mp h1, fun p hp z => of_decide_eq_true h2 (List.mem_map.mpr ⟨p, hp, z.symm⟩), rfl⟩
theorem free_row_perp {rows : List (List Int)} {n b : Nat} (h : ∀ r ∈ rows, r.length = n ∧ Bd b r) {f : List Int} (hf : f ∈ freeRows rows n) : ∀ r ∈ rows, dot r (fun j => f.getD j 0) = 0 := by
  obtain ⟨c, hc, hcl, rfl⟩ := free_mem hf
  have po := pairs_ok h n
  refine (pairs_iff h _).mp fun p hp => ?_
  have z := free_perp po.red (fun p hp => (po.row p hp).2.2) hc hcl p hp
  obtain ⟨k, hk, e⟩ := free_mul (echelonPairs rows n) c n
  rw [dot_congr p.1 (y := fun j => k * (freeRow (echelonPairs rows n) c n).getD j 0) fun j _ => e j, dot_scale] at z
  exact mz z (by omega)
/-- signRow is a multiple, not 0 -/
theorem sign_mul (r : List Int) (c : Nat) : ∃ k : Int, k ≠ 0 ∧ (∀ j, r.getD j 0 = k * (signRow r c).getD j 0) ∧ ∀ x, dot r x = k * dot (signRow r c) x := by
  obtain ⟨k, hk, e⟩ := plainRow_mul r
  have e1 : ∀ j, r.getD j 0 = k * (plainRow r).getD j 0 := fun j => by
    have := congrArg (fun l => l.getD j 0) e
    simp only [getD_map] at this
    exact this
  have e2 : ∀ x, dot r x = k * dot (plainRow r) x := fun x => by
    have := congrArg (fun l => dot l x) e
    simp only [dot_map] at this
    exact this
  unfold signRow
  split
  · refine ⟨-k, by omega, fun j => ?_, fun x => ?_⟩
    · rw [getD_map0 (f := fun n => -n) rfl, Int.neg_mul_neg]; exact e1 j
    · have : dot ((plainRow r).map fun n => -n) x = -1 * dot (plainRow r) x := by
        rw [← dot_map]; congr 1
        exact List.map_congr_left fun y _ => by omega
      rw [this, e2 x, ← Int.mul_assoc, Int.mul_neg_one, Int.neg_neg]
  · exact ⟨k, by omega, e1, e2⟩
theorem hidden_perp {rows : List (List Int)} {n b : Nat} (h : ∀ r ∈ rows, r.length = n ∧ Bd b r) {v : List Int} (hv : v ∈ hiddenBasis rows n) : ∀ r ∈ rows, dot r (fun j => v.getD j 0) = 0 := fun r hr => by
  obtain ⟨B, hB⟩ := freeRows_ok h
  obtain ⟨p, hp, rfl⟩ := List.mem_map.mp (show v ∈ reducedRows (freeRows rows n) from hv)
  have hF : ∀ f ∈ freeRows rows n, dot f (fun j => r.getD j 0) = 0 := fun f hf => by
    rw [dot_comm]; exact free_row_perp h hf r hr
  have hpz : dot p.1 (fun j => r.getD j 0) = 0 := by
    have rd := ech_red hB (widthOf (freeRows rows n))
    obtain ⟨i, hi⟩ := List.mem_iff_getElem?.mp hp
    exact ((rd.eqv _).mp hF).2 _ (List.mem_of_getElem? (List.getElem?_zip_eq_some.mp hi).1)
  obtain ⟨k, hk, _, e⟩ := sign_mul p.1 p.2
  rw [dot_comm]
  rw [e] at hpz
  exact mz hpz hk
theorem hidden_some {rows : List (List Int)} {n b l : Nat} (h : ∀ r ∈ rows, r.length = n ∧ Bd b r) (hl : l < n) (hid : Hid rows l) : ∃ v ∈ hiddenBasis rows n, v.getD l 0 ≠ 0 := by
  refine Classical.byContradiction fun hno => ?_
  have hz : ∀ v ∈ hiddenBasis rows n, v.getD l 0 = 0 := fun v hv => Classical.byContradiction fun z => hno ⟨v, hv, z⟩
  obtain ⟨B, hB⟩ := freeRows_ok h
  have po := pairs_ok h n
  -- the free rows are 0 at l
  have hF : ∀ f ∈ freeRows rows n, f.getD l 0 = 0 := by
    have rd := ech_red hB (widthOf (freeRows rows n))
    have okk := ech_ok hB (widthOf (freeRows rows n))
    have all : ∀ f ∈ freeRows rows n, dot f (fun j => if j = l then 1 else 0) = 0 := by
      refine (rd.eqv _).mpr ⟨fun r hr => ?_, fun r hr => ?_⟩
      · rw [dot_at]
        cases hc : freeRows rows n with
        | nil =>
          have := okk.sum
          rw [hc] at this hr
          have z : (echelon ([] : List (List Int)) (widthOf [])).1.length = 0 := by
            have h2 : (([] : List (List Int))).length = 0 := rfl
            omega
          rw [List.length_eq_zero_iff.mp z] at hr
          cases hr
        | cons f F =>
          refine rd.lz r hr l ?_
          rw [hc]
          have := (hB f (by rw [hc]; exact List.mem_cons_self ..)).1
          show l < f.length
          omega
      · rw [dot_at]
        obtain ⟨i, hi⟩ := List.mem_iff_getElem?.mp hr
        have il := (List.getElem?_eq_some_iff.mp hi).1
        have hp : (echelonPairs (freeRows rows n) (widthOf (freeRows rows n)))[i]? = some (r, (echelon (freeRows rows n) (widthOf (freeRows rows n))).2.2[i]'(by rw [← okk.same]; exact il)) := List.getElem?_zip_eq_some.mpr ⟨hi, List.getElem?_eq_getElem _⟩
        have := hz _ (show _ ∈ reducedRows (freeRows rows n) from List.mem_map.mpr ⟨_, List.mem_of_getElem? hp, rfl⟩)
        obtain ⟨k, hk, e, _⟩ := sign_mul r ((echelon (freeRows rows n) (widthOf (freeRows rows n))).2.2[i]'(by rw [← okk.same]; exact il))
        rw [e l, this, Int.mul_zero]
    intro f hf
    have := all f hf
    rwa [dot_at] at this
  have hN : ∀ c, c < n → (∀ p ∈ echelonPairs rows n, c ≠ p.2) → (freeNums (echelonPairs rows n) c n).getD l 0 = 0 := fun c hc hcl => by
    obtain ⟨k, hk, e⟩ := free_mul (echelonPairs rows n) c n
    rw [e l, hF (freeRow (echelonPairs rows n) c n) (List.mem_map.mpr ⟨c, List.mem_filter.mpr ⟨List.mem_range.mpr hc, decide_eq_true fun z => by
      obtain ⟨p, hp, q⟩ := List.mem_map.mp z
      exact hcl p hp q.symm⟩, rfl⟩), Int.mul_zero]
  have sp := scale_pos po.red.1
  by_cases hlead : ∃ p ∈ echelonPairs rows n, l = p.2
  · obtain ⟨p, hp, rfl⟩ := hlead
    obtain ⟨x, hx, hxl⟩ := hid
    have px := (pairs_iff h x).mpr hx p hp
    obtain ⟨i, hi⟩ := List.mem_iff_getElem?.mp hp
    have e : dot p.1 x = dot p.1 (fun j => x p.2 * (if j = p.2 then 1 else 0)) := by
      refine dot_pt _ fun j => ?_
      by_cases h1 : j = p.2
      · rw [h1, if_pos rfl, Int.mul_one]
      · rw [if_neg h1, Int.mul_zero, Int.mul_zero]
        have : p.1.getD j 0 = 0 := by
          by_cases hj : j < n
          · by_cases h3 : ∀ q ∈ echelonPairs rows n, j ≠ q.2
            · have f3 := (free_at po.red (fun p hp => (po.row p hp).2.2) hj h3).2.2 p hp
              rw [hN j hj h3] at f3
              have hne := po.red.1 p hp
              obtain ⟨k, hk⟩ := lead_dvd hi
              rw [hk, Int.mul_fdiv_cancel_left k hne] at f3
              have hk0 : k ≠ 0 := fun z => by rw [z, Int.mul_zero] at hk; omega
              rcases Int.mul_eq_zero.mp f3.symm with z | z
              · omega
              · exact absurd z hk0
            · obtain ⟨q, hq⟩ := Classical.not_forall.mp h3
              obtain ⟨hq1, hq2⟩ := Classical.not_imp.mp hq
              have hj' : j = q.2 := Classical.not_not.mp hq2
              obtain ⟨k, hk⟩ := List.mem_iff_getElem?.mp hq1
              rw [hj']
              refine po.red.2 i k p q hi hk fun z => ?_
              subst z
              have : p = q := Option.some.inj (hi.symm.trans hk)
              subst this
              exact h1 hj'
          · rw [List.getD_eq_getElem?_getD, List.getElem?_eq_none (by have := (po.row p hp).1; omega)]; rfl
        rw [this, Int.zero_mul]
    rw [e, dot_scale, dot_at] at px
    rcases Int.mul_eq_zero.mp px with z | z
    · exact hxl z
    · exact po.red.1 p hp z
  · have hcl : ∀ p ∈ echelonPairs rows n, l ≠ p.2 := fun p hp z => hlead ⟨p, hp, z⟩
    have f1 := (free_at po.red (fun p hp => (po.row p hp).2.2) hl hcl).1
    rw [hN l hl hcl] at f1
    omega
end Th

/-! part MB -/
namespace Th
/-! ### lots -/
theorem lot_step_mem {things : List Nat} {lots : List (List Nat)} {lot : List Nat} : lot ∈ lotStep things lots ↔ ∃ b ∈ lots, ∃ t ∈ things, (b = [] ∨ b.getLastD 0 < t) ∧ lot = b ++ [t] := by
  unfold lotStep
  rw [List.mem_flatMap]
  constructor
  · rintro ⟨b, hb, h⟩
    obtain ⟨t, ht, rfl⟩ := List.mem_map.mp h
    obtain ⟨h1, h2⟩ := List.mem_filter.mp ht
    exact ⟨b, hb, t, h1, of_decide_eq_true h2, rfl⟩
  · rintro ⟨b, hb, t, ht, h, rfl⟩
    exact ⟨b, hb, List.mem_map.mpr ⟨t, List.mem_filter.mpr ⟨ht, decide_eq_true h⟩, rfl⟩⟩
structure LotOk (n : Nat) (lot : List Nat) : Prop where
  inc : lot.Pairwise (· < ·)
  lt : ∀ x ∈ lot, x < n
theorem getLastD_mem {b : List Nat} (h : b ≠ []) : b.getLastD 0 ∈ b := by
  rw [List.getLastD_eq_getLast?, List.getLast?_eq_some_getLast h]
  exact List.getLast_mem h
theorem last_max {b : List Nat} (h : b.Pairwise (· < ·)) : ∀ x ∈ b, x ≤ b.getLastD 0 := fun x hx => by
  have hne : b ≠ [] := fun z => by subst z; cases hx
  rw [List.getLastD_eq_getLast?, List.getLast?_eq_some_getLast hne]
  show x ≤ b.getLast hne
  rw [← List.dropLast_concat_getLast hne] at h hx
  rcases List.mem_append.mp hx with z | z
  · exact Nat.le_of_lt ((List.pairwise_append.mp h).2.2 x z _ (List.mem_singleton_self _))
  · rw [List.mem_singleton.mp z]; exact Nat.le_refl _
theorem lots_mem {n : Nat} : ∀ {k : Nat} {lot : List Nat}, lot ∈ lotsOf (List.range n) k ↔ lot.length = k ∧ LotOk n lot
  | 0, lot => by
    show lot ∈ [[]] ↔ _
    rw [List.mem_singleton]
    constructor
    · rintro rfl; exact ⟨rfl, .nil, fun x hx => by cases hx⟩
    · rintro ⟨h, _⟩; exact List.length_eq_zero_iff.mp h
  | k + 1, lot => by
    show lot ∈ lotStep _ _ ↔ _
    rw [lot_step_mem]
    constructor
    · rintro ⟨b, hb, t, ht, h, rfl⟩
      obtain ⟨h1, h2⟩ := lots_mem.mp hb
      refine ⟨by rw [List.length_append, h1]; rfl, List.pairwise_append.mpr ⟨h2.inc, List.pairwise_singleton .., fun x hx y hy => ?_⟩, fun x hx => ?_⟩
      · rw [List.mem_singleton.mp hy]
        rcases h with rfl | h
        · cases hx
        · have := last_max h2.inc x hx; omega
      · rcases List.mem_append.mp hx with z | z
        · exact h2.lt x z
        · rw [List.mem_singleton.mp z]; exact List.mem_range.mp ht
    · rintro ⟨h1, h2⟩
      have hne : lot ≠ [] := fun z => by subst z; cases h1
      have e := List.dropLast_concat_getLast hne
      have h3 := h2.inc
      have h4 := h2.lt
      rw [← e] at h3 h4
      obtain ⟨g1, _, g3⟩ := List.pairwise_append.mp h3
      refine ⟨lot.dropLast, lots_mem.mpr ⟨by rw [List.length_dropLast, h1]; rfl, g1, fun x hx => h4 x (List.mem_append_left _ hx)⟩, lot.getLast hne, List.mem_range.mpr (h4 _ (List.mem_append_right _ (List.mem_singleton_self _))), ?_, e.symm⟩
      by_cases z : lot.dropLast = []
      · exact .inl z
      · exact .inr (g3 _ (getLastD_mem z) _ (List.mem_singleton_self _))
theorem all_mem {n m : Nat} {lot : List Nat} : lot ∈ allLots n m ↔ lot.length ≤ m ∧ LotOk n lot := by
  unfold allLots
  rw [List.mem_flatMap]
  constructor
  · rintro ⟨k, hk, h⟩
    obtain ⟨h1, h2⟩ := lots_mem.mp h
    have := List.mem_range.mp hk
    exact ⟨by omega, h2⟩
  · rintro ⟨h1, h2⟩
    exact ⟨lot.length, List.mem_range.mpr (by omega), lots_mem.mpr ⟨rfl, h2⟩⟩
theorem all_sorted (n m : Nat) : (allLots n m).Pairwise fun a b => a.length ≤ b.length := by
  unfold allLots
  rw [List.pairwise_flatMap]
  refine ⟨fun k _ => ?_, ?_⟩
  · refine List.pairwise_of_forall_mem_list fun a ha b hb => ?_
    rw [(lots_mem.mp ha).1, (lots_mem.mp hb).1]; exact Nat.le_refl _
  · refine (List.pairwise_lt_range (n := m + 1)).imp fun {i j} h x hx y hy => ?_
    rw [(lots_mem.mp hx).1, (lots_mem.mp hy).1]; omega
theorem lot_len {n : Nat} {lot : List Nat} (h : LotOk n lot) : lot.length ≤ n :=
  nodup_le n lot (h.inc.imp fun {a b} z => by show a ≠ b; omega) h.lt
theorem all_split (n : Nat) {i m : Nat} (h : i ≤ m) : ∃ rest, allLots n m = allLots n i ++ rest ∧ ∀ x ∈ rest, i < x.length := by
  induction m with
  | zero => have : i = 0 := by omega
            subst this; exact ⟨[], by rw [List.append_nil], fun x hx => by cases hx⟩
  | succ m ih =>
    by_cases z : i = m + 1
    · subst z; exact ⟨[], by rw [List.append_nil], fun x hx => by cases hx⟩
    · obtain ⟨rest, e, hr⟩ := ih (by omega)
      refine ⟨rest ++ lotsOf (List.range n) (m + 1), ?_, fun x hx => ?_⟩
      · rw [show allLots n (m + 1) = allLots n m ++ lotsOf (List.range n) (m + 1) by
          unfold allLots
          rw [List.range_succ, List.flatMap_append, List.flatMap_cons, List.flatMap_nil, List.append_nil], e, List.append_assoc]
      · rcases List.mem_append.mp hx with y | y
        · exact hr x y
        · rw [(lots_mem.mp y).1]; omega
/-! ### the first lot -/
theorem find_min {p : List Nat → Bool} {n m : Nat} {lot : List Nat} (h : (allLots n m).find? p = some lot) : p lot = true ∧ lot.length ≤ m ∧ LotOk n lot ∧ ∀ x, x.length ≤ m → LotOk n x → x.length < lot.length → p x = false := by
  obtain ⟨h1, as, bs, e, h2⟩ := List.find?_eq_some_iff_append.mp h
  have hm : lot ∈ allLots n m := by rw [e]; exact List.mem_append_right _ (List.mem_cons_self ..)
  obtain ⟨g1, g2⟩ := all_mem.mp hm
  refine ⟨h1, g1, g2, fun x hx ox hlt => ?_⟩
  have hxm := all_mem.mpr ⟨hx, ox⟩
  have hs := all_sorted n m
  rw [e] at hxm hs
  rcases List.mem_append.mp hxm with y | y
  · have := h2 x y
    cases hp : p x with
    | true => rw [hp] at this; cases this
    | false => rfl
  · rcases List.mem_cons.mp y with rfl | y
    · omega
    · have := (List.pairwise_cons.mp (List.pairwise_append.mp hs).2.1).1 x y
      omega
theorem find_cut {p : List Nat → Bool} {n m k : Nat} {lot : List Nat} (h : (allLots n m).find? p = some lot) (hmn : n ≤ m) : (allLots n (min k m)).find? p = if lot.length ≤ k then some lot else none := by
  obtain ⟨rest, e, hr⟩ := all_split n (i := min k m) (m := m) (by omega)
  obtain ⟨h1, h2, h3, _⟩ := find_min h
  have h4 := lot_len h3
  rw [e, List.find?_append] at h
  cases hf : (allLots n (min k m)).find? p with
  | some x =>
    rw [hf] at h
    cases (show some x = some lot from h)
    have := (find_min hf).2.1
    rw [if_pos (by omega)]
  | none =>
    rw [hf] at h
    have hlr : lot ∈ rest := List.mem_of_find?_eq_some (show rest.find? p = some lot from h)
    have := hr lot hlr
    rw [if_neg (by omega)]
theorem kept_mem {rows : List (List Int)} {lot : List Nat} {r : List Int} : r ∈ keptRows rows lot ↔ ∃ i, i < rows.length ∧ i ∉ lot ∧ r = rows.getD i [] := by
  unfold keptRows
  rw [List.mem_map]
  constructor
  · rintro ⟨i, hi, rfl⟩
    obtain ⟨h1, h2⟩ := List.mem_filter.mp hi
    exact ⟨i, List.mem_range.mp h1, of_decide_eq_true h2, rfl⟩
  · rintro ⟨i, h1, h2, rfl⟩
    exact ⟨i, List.mem_filter.mpr ⟨List.mem_range.mpr h1, decide_eq_true h2⟩, rfl⟩
theorem kept_all' {rows : List (List Int)} {P : List Int → Prop} (h : ∀ r ∈ rows, P r) (lot : List Nat) : ∀ r ∈ keptRows rows lot, P r := fun r hr => by
  obtain ⟨i, hi, _, rfl⟩ := kept_mem.mp hr
  exact h _ (getD_mem hi)
section
variable {rows : List (List Int)} {n l : Nat}
/-- the law's own first lot is the program's -/
theorem law_first (h : ∀ r ∈ rows, r.length = n ∧ Bd 33 r) (hl : l < n) (m : Nat) : (allLots rows.length m).find? (fun lot => !lTells (keptRows rows lot) n l) = (allLots rows.length m).find? fun lot => noneFor (keptRows rows lot) (unitRow n l) := by
  congr 1
  funext lot
  have h' := kept_all' h lot
  have h1 := tells_iff h' (by decide) hl
  have h2 := none_iff h' (by decide) hl
  cases h3 : lTells (keptRows rows lot) n l <;> cases h4 : noneFor (keptRows rows lot) (unitRow n l) <;> rw [h3] at h1 <;> rw [h4] at h2
  · exact absurd (h1.mpr fun z => absurd (h2.mpr z) (by decide)) (by decide)
  · rfl
  · rfl
  · exact absurd (h2.mp rfl) (h1.mp rfl)
theorem first_ex (h : ∀ r ∈ rows, r.length = n ∧ Bd 33 r) (hl : l < n) : ∃ lot, firstLoss rows n l rows.length = some lot := by
  unfold firstLoss firstIn
  rw [Nat.min_self]
  have hm : List.range rows.length ∈ allLots rows.length rows.length := all_mem.mpr ⟨by rw [List.length_range]; exact Nat.le_refl _, List.pairwise_lt_range, fun x hx => List.mem_range.mp hx⟩
  have hp : noneFor (keptRows rows (List.range rows.length)) (unitRow n l) = true := by
    refine (none_iff (kept_all' h _) (by decide) hl).mpr ⟨fun _ => 1, fun r hr => ?_, Int.one_ne_zero⟩
    obtain ⟨i, h1, h2, _⟩ := kept_mem.mp hr
    exact absurd (List.mem_range.mpr h1) h2
  cases hf : (allLots rows.length rows.length).find? fun lot => noneFor (keptRows rows lot) (unitRow n l) with
  | some lot => exact ⟨lot, rfl⟩
  | none => exact absurd hp (List.find?_eq_none.mp hf _ hm)
structure Least (rows : List (List Int)) (l : Nat) (lot : List Nat) : Prop where
  hid : Hid (keptRows rows lot) l
  ok : LotOk rows.length lot
  min : ∀ x, LotOk rows.length x → Hid (keptRows rows x) l → lot.length ≤ x.length
theorem first_least (h : ∀ r ∈ rows, r.length = n ∧ Bd 33 r) (hl : l < n) {lot : List Nat} (hf : firstLoss rows n l rows.length = some lot) : Least rows l lot := by
  unfold firstLoss firstIn at hf
  rw [Nat.min_self] at hf
  obtain ⟨h1, h2, h3, h4⟩ := find_min hf
  refine ⟨(none_iff (kept_all' h _) (by decide) hl).mp h1, h3, fun x ox hx => ?_⟩
  by_cases z : x.length < lot.length
  · have := h4 x (lot_len ox) ox z
    rw [(none_iff (kept_all' h _) (by decide) hl).mpr hx] at this
    cases this
  · omega
theorem first_cut {lot : List Nat} (hf : firstLoss rows n l rows.length = some lot) (k : Nat) : firstLoss rows n l k = if lot.length ≤ k then some lot else none := by
  unfold firstLoss firstIn at hf ⊢
  rw [Nat.min_self] at hf
  exact find_cut hf (Nat.le_refl _)
/-- any filling hidden from the rest and not 0 at the letter is seen in every row of a least lot -/
theorem Least.seen {lot : List Nat} (h : Least rows l lot) {x : Nat → Int} (hx : ∀ r ∈ keptRows rows lot, dot r x = 0) (h0 : x l ≠ 0) {i : Nat} (hi : i ∈ lot) : dot (rows.getD i []) x ≠ 0 := fun z => by
  have := h.min (lot.filter (· ≠ i)) ⟨h.ok.inc.filter _, fun y hy => h.ok.lt y (List.mem_filter.mp hy).1⟩ ⟨x, fun r hr => ?_, h0⟩
  · have lt : (lot.filter (· ≠ i)).length < lot.length := by
      refine Nat.lt_of_le_of_ne (List.length_filter_le ..) fun e => ?_
      have := List.length_filter_eq_length_iff.mp e i hi
      exact absurd rfl (of_decide_eq_true this)
    omega
  · obtain ⟨j, h1, h2, rfl⟩ := kept_mem.mp hr
    by_cases e : j = i
    · rw [e]; exact z
    · exact hx _ (kept_mem.mpr ⟨j, h1, fun q => h2 (List.mem_filter.mpr ⟨q, decide_eq_true e⟩), rfl⟩)
/-- more rows: no smaller least lot -/
theorem least_more {more : List (List Int)} {lot lot' : List Nat} (h : Least rows l lot) (h' : Least (rows ++ more) l lot') : lot.length ≤ lot'.length := by
  obtain ⟨x, hx, h0⟩ := h'.hid
  refine Nat.le_trans (h.min (lot'.filter (· < rows.length)) ⟨h'.ok.inc.filter _, fun y hy => of_decide_eq_true (List.mem_filter.mp hy).2⟩ ⟨x, fun r hr => ?_, h0⟩) (List.length_filter_le ..)
  obtain ⟨j, h1, h2, rfl⟩ := kept_mem.mp hr
  refine hx _ (kept_mem.mpr ⟨j, by rw [List.length_append]; omega, fun q => h2 (List.mem_filter.mpr ⟨q, decide_eq_true h1⟩), ?_⟩)
  rw [List.getD_eq_getElem?_getD, List.getD_eq_getElem?_getD, List.getElem?_append_left h1]
end
end Th

/-! part MC -/
namespace Th
theorem sign_bd {b : Nat} {r : List Int} (c : Nat) (h : Bd b r) : Bd b (signRow r c) := by
  have h' := plainRow_bd h
  unfold signRow
  split
  · intro y hy
    obtain ⟨z, hz, rfl⟩ := List.mem_map.mp hy
    rw [Int.natAbs_neg]; exact h' z hz
  · exact h'
theorem reduced_bd {F : List (List Int)} {n B C k : Nat} (h : ∀ r ∈ F, r.length = n ∧ Bd B r) (hk : F.length ≤ k) (hC : (B + 1) * 2 ^ k ≤ C) : ∀ v ∈ reducedRows F, Bd C v := fun v hv => by
  obtain ⟨p, hp, rfl⟩ := List.mem_map.mp hv
  have po := pairs_ok h (widthOf F)
  refine sign_bd _ ((po.row p hp).2.1.mono ?_)
  have h1 := po.len
  have h2 : (B + 1) * 2 ^ (echelonPairs F (widthOf F)).length ≤ (B + 1) * 2 ^ k := Nat.mul_le_mul_left _ (Nat.pow_le_pow_right (by decide) (by omega))
  omega
theorem hidden_bd {rows : List (List Int)} {n b : Nat} (h : ∀ r ∈ rows, r.length = n ∧ Bd b r) (hs : ∀ k, k ≤ min rows.length n → (((b + 1) * 2 ^ k - 1) * (k + 1) + 2) * 2 ^ (n - k) ≤ 8999) : ∀ v ∈ hiddenBasis rows n, Bd 8999 v := fun v hv => by
  have po := pairs_ok h n
  have fc := free_count po.red fun p hp => (po.row p hp).2.2
  refine reduced_bd (F := freeRows rows n) (n := n) (B := ((b + 1) * 2 ^ (echelonPairs rows n).length - 1) * ((echelonPairs rows n).length + 1) + 1) (k := n - (echelonPairs rows n).length) (fun r hr => ?_) ?_ (hs _ po.len) v hv
  · obtain ⟨c, _, rfl⟩ := List.mem_map.mp hr
    exact freeRow_ok po c
  · unfold freeRows
    rw [List.length_map]
    omega
section
variable {rows : List (List Int)} {n l : Nat}
theorem find_hid (h : ∀ r ∈ rows, r.length = n ∧ Bd 33 r) (hl : l < n) (hid : Hid rows l) : ∃ v, (hiddenBasis rows n).find? (fun v => decide (v.getD l 0 ≠ 0)) = some v ∧ v ∈ hiddenBasis rows n ∧ v.getD l 0 ≠ 0 := by
  cases hf : (hiddenBasis rows n).find? fun v => decide (v.getD l 0 ≠ 0) with
  | some v => exact ⟨v, rfl, List.mem_of_find?_eq_some hf, of_decide_eq_true (show decide (v.getD l 0 ≠ 0) = true from List.find?_some (p := fun v : List Int => decide (v.getD l 0 ≠ 0)) hf)⟩
  | none =>
    obtain ⟨v, hv, h0⟩ := hidden_some h hl hid
    exact absurd (decide_eq_true h0) (List.find?_eq_none.mp hf v hv)
end
/-- the filling shown: hidden from the rest, not 0 at the letter -/
structure Shown (rows : List (List Int)) (n l : Nat) (lot : List Nat) (xs : List Int) : Prop where
  len : xs.length = n
  bd : Bd 8999 xs
  at_ : xs.getD l 0 ≠ 0
  rest : ∀ i, i < rows.length → i ∉ lot → dot (rows.getD i []) (fun j => xs.getD j 0) = 0
theorem shown_of {rows : List (List Int)} {n l : Nat} {lot : List Nat} (h : ∀ r ∈ rows, r.length = n ∧ Bd 33 r) (hl : l < n) (hs : ∀ k, k ≤ n → (((33 + 1) * 2 ^ k - 1) * (k + 1) + 2) * 2 ^ (n - k) ≤ 8999) (hid : Hid (keptRows rows lot) l) :
    ∃ xs, (hiddenBasis (keptRows rows lot) n).find? (fun v => decide (v.getD l 0 ≠ 0)) = some xs ∧ Shown rows n l lot xs := by
  have h' := kept_all' h lot
  obtain ⟨v, h1, h2, h3⟩ := find_hid h' hl hid
  exact ⟨v, h1, hidden_len h' v h2, hidden_bd h' (fun k hk => hs k (by omega)) v h2, h3, fun i hi hn => hidden_perp h' h2 _ (kept_mem.mpr ⟨i, hi, hn, rfl⟩)⟩
end Th

/-! part D1 -/
namespace Th
open PySem PySem.Spec PyProof.Rows L2

/-! ### numbers -/
def sp_common_divisor : Sp := fun vs H Q _ => ∃ a b : Int, vs = [.int a, .int b] ∧ Q (.int (gI a b)) H
theorem gI_comm (a b : Int) : gI a b = gI b a := by unfold gI; rw [Nat.gcd_comm]
theorem gI_zero_r {a : Int} (h : 0 ≤ a) : gI a 0 = a := by unfold gI; rw [Int.natAbs_zero, Nat.gcd_zero_right]; omega
theorem gI_abs (a b : Int) : gI (if a < 0 then -a else a) (if b < 0 then -b else b) = gI a b := by
  unfold gI
  have h : ∀ x : Int, (if x < 0 then -x else x).natAbs = x.natAbs := fun x => by split <;> omega
  rw [h, h]
theorem abs_nn (a : Int) : 0 ≤ (if a < 0 then -a else a) := by split <;> omega
theorem gI_step {a b : Int} (ha : 0 ≤ a) (hb : 0 ≤ b) : gI b (a.fmod b) = gI a b := by
  unfold gI
  rw [Int.fmod_eq_emod_of_nonneg a hb]
  have e : (a % b).natAbs = a.natAbs % b.natAbs := by
    rw [Int.natAbs_emod_of_nonneg ha]
  rw [e, Nat.gcd_comm b.natAbs, ← Nat.gcd_rec, Nat.gcd_comm]
theorem fmod_nn {a b : Int} (ha : 0 ≤ a) (hb : 0 ≤ b) (h : b ≠ 0) : 0 ≤ a.fmod b ∧ (a.fmod b).natAbs < b.natAbs := by
  rw [Int.fmod_eq_emod_of_nonneg a hb]
  have h1 := Int.emod_nonneg a h
  have h2 := Int.emod_lt_of_pos a (show 0 < b by omega)
  omega
theorem dV (a b : Int) : decide (V.int a = V.int b) = decide (a = b) := by
  by_cases e : a = b
  · rw [e]; simp
  · rw [decide_eq_false e]; exact decide_eq_false fun z => e (V.int.inj z)
/-- tests whose answer is open -/
theorem ifD {c A B : Prop} [Decidable c] (h1 : c → A) (h2 : ¬ c → B) : if decide c = true then A else B := by
  by_cases h : c
  · rw [decide_eq_true h]; exact iteT (h1 h)
  · rw [decide_eq_false h]; exact iteF (h2 h)
theorem ifN {c A B : Prop} [Decidable c] (h1 : ¬ c → A) (h2 : c → B) : if (!decide c) = true then A else B := by
  by_cases h : c
  · rw [decide_eq_true h]; exact iteF (h2 h)
  · rw [decide_eq_false h]; exact iteT (h1 h)
theorem ok_common_divisor {P : Program} {w : World} {K : PySem.W.Frag} {mg : Str → Option Value} {base : Heap} (T : Tx K mg) : FnOk P w K mg base CX0 1 A_common_divisor (fdAt K A_common_divisor) P_common_divisor sp_common_divisor := by
  refine (fn_common_divisor T).ok sc_common_divisor (fun vs H Q E h => ?_) (fun cdv A outer s H vs Q E hr h => ?_)
  · obtain ⟨a, b, rfl, _⟩ := h; rfl
  · obtain ⟨a, b, rfl, q⟩ := h
    refine ⟨_, PSs.nox (pss_cons (ps_set (i := 0) sc_common_divisor.nd rfl (.inl rfl) (pe_callB call_abs (by rfl) (f_abs T) bt_abs (pa_cons (pv 0) pa_nil)))
      (pss_cons (ps_set (i := 1) sc_common_divisor.nd rfl (.inl rfl) (pe_callB call_abs (by rfl) (f_abs T) bt_abs (pa_cons (pv 1) pa_nil)))
      (pss_cons (ps_while PassesOwn.never (pt_cmpR op_ne (pv 1) pe_int (nomark _)) (pss_one (ps_par (i := 0) (j := 1) (by rfl) sc_common_divisor.nd rfl rfl (by decide) rfl rfl (pa_cons (pv 1) (pa_cons (pe_op op_modN (pv 0) (pv 1)) pa_nil)) (by rfl))))
      (pss_one (ps_ret (pv 0)))))), ?_⟩
    refine ⟨_, rfl, _, rfl, ?_⟩
    refine ⟨_, rfl, _, rfl, ?_⟩
    refine ⟨fun k σ H' => H' = H ∧ ∃ x y : Int, 0 ≤ x ∧ 0 ≤ y ∧ σ = [some (.int x), some (.int y)] ∧ k = y.natAbs ∧ gI x y = gI a b, ⟨_, rfl, _, _, abs_nn a, abs_nn b, rfl, rfl, gI_abs a b⟩, fun k σ H' hW => ?_⟩
    obtain ⟨rfl, x, y, hx, hy, rfl, rfl, e⟩ := hW
    refine ⟨_, rfl, rfl, _, rfl, ?_⟩
    rw [dV]
    refine ifN (fun z => ?_) fun z => ?_
    · refine ⟨fun σ' H2 => H2 = H' ∧ ∃ x' y' : Int, 0 ≤ x' ∧ 0 ≤ y' ∧ σ' = [some (.int x'), some (.int y')] ∧ y'.natAbs < y.natAbs ∧ gI x' y' = gI a b, fun σ' H2 ⟨h1, x', y', h2, h3, h4, h5, h6⟩ => ⟨_, h5, h1, x', y', h2, h3, h4, rfl, h6⟩, ?_⟩
      refine ⟨_, rfl, _, rfl, _, rfl, _, _, rfl, rfl, z, _, _, rfl, ?_⟩
      exact ⟨rfl, _, _, hy, (fmod_nn hx hy z).1, rfl, (fmod_nn hx hy z).2, (gI_step hx hy).trans e⟩
    · subst z
      rw [gI_zero_r hx] at e
      refine ⟨_, rfl, ?_⟩
      show Q (.int x) H'
      rw [e]; exact q
end Th

/-! part D2 -/
namespace Th
open PySem PySem.Spec PyProof.Rows L2

/-! ### kinds of values -/
def tyO : Option HO → Option String
  | some (.lst _) => some "list"
  | some (.tup _) => some "tuple"
  | _ => none
def tyN (H : Hp) : V → Option String
  | .non => some "NoneType"
  | .bl _ => some "bool"
  | .int _ => some "int"
  | .str _ => some "str"
  | .ref a => tyO (H a)
  | _ => none
def tys : List String := ["NoneType", "bool", "int", "str", "list", "tuple"]
theorem tyN_ok {K : PySem.W.Frag} {H : Hp} {x : V} {t : String} (h : tyN H x = some t) : TyX K H x (.type t) ∧ t ∈ tys := by
  cases x with
  | non => cases h; exact ⟨.base .non, by decide⟩
  | bl b => cases h; exact ⟨.base (.bl b), by decide⟩
  | int i => cases h; exact ⟨.base (.int i), by decide⟩
  | str z => cases h; exact ⟨.base (.str z), by decide⟩
  | byt b => cases h
  | flt b => cases h
  | ty n => cases h
  | ref a =>
    have h' : tyO (H a) = some t := h
    cases e : H a with
    | none => rw [e] at h'; cases h'
    | some o =>
      rw [e] at h'
      cases o with
      | lst xs => cases h'; exact ⟨.base (.lst e), by decide⟩
      | tup xs => cases h'; exact ⟨.base (.tup e), by decide⟩
      | _ => cases h'
theorem tyN_same {H H' : Hp} (k : Same H H') {x : V} {t : String} (h : tyN H x = some t) : tyN H' x = some t := by
  cases x with
  | ref a =>
    have h' : tyO (H a) = some t := h
    show tyO (H' a) = some t
    cases e : H a with
    | none => rw [e] at h'; cases h'
    | some o => rw [k a o e]; rw [e] at h'; exact h'
  | _ => exact h
theorem kit1 (K : PySem.W.Frag) (c : String) (hc : c ∈ (["int", "bool", "str", "list", "tuple"] : List String)) {t : String} (h : t ∈ tys) : PySem.W.kitOne K (.type t) (.type c) = some (t == c || (t == "bool" && c == "int")) := by
  have key : ∀ c ∈ (["int", "bool", "str", "list", "tuple"] : List String), ∀ t ∈ tys, kitB t c = some (t == c || (t == "bool" && c == "int")) := by decide +kernel
  exact kit_ty (key c hc t h)
theorem kitLT (K : PySem.W.Frag) {t : String} (h : t ∈ tys) : PySem.W.kitAny K (.type t) [.type "list", .type "tuple"] = some (t == "list" || t == "tuple") := by
  have h1 := kit1 K "list" (by decide) h
  have h2 := kit1 K "tuple" (by decide) h
  have e1 : (t == "list" || (t == "bool" && ("list" : String) == "int")) = (t == "list") := by rw [show (("list" : String) == "int") = false by decide]; simp
  have e2 : (t == "tuple" || (t == "bool" && ("tuple" : String) == "int")) = (t == "tuple") := by rw [show (("tuple" : String) == "int") = false by decide]; simp
  rw [e1] at h1
  rw [e2] at h2
  refine kitAny_cons h1 (fun z => ?_) fun z => by rw [z]; rfl
  rw [z, Bool.false_or]
  refine kitAny_cons h2 (fun y => ?_) fun y => y
  rw [y]; exact kitAny_nil
/-- is it a list or a tuple -/
def sp_is_sequence : Sp := fun vs H Q _ => ∃ S x t, vs = [x] ∧ Same S H ∧ tyN H x = some t ∧ ∀ H', Ext No S H S H' → Q (.bl (t == "list" || t == "tuple")) H'
theorem ok_is_sequence {P : Program} {w : World} {K : PySem.W.Frag} {mg : Str → Option Value} {base : Heap} (T : Tx K mg) : FnOk P w K mg base CX0 1 A_is_sequence (fdAt K A_is_sequence) P_is_sequence sp_is_sequence := by
  refine (fn_is_sequence T).ok sc_is_sequence (fun vs H Q E h => ?_) (fun cdv A outer s H vs Q E hr h => ?_)
  · obtain ⟨S, x, t, rfl, _⟩ := h; rfl
  · obtain ⟨S, x, t, rfl, hS, ht, q⟩ := h
    refine ⟨_, PSs.nox (pss_one (ps_ret (pe_callB call_isiT (by rfl) (f_isinstance T) bt_isinstance (pa_cons (pv 0) (pa_cons (pe_tup (pa_cons (pe_bltn (v := .ty "list") (by rfl) (f_list T) bt_list rfl) (pa_cons (pe_bltn (v := .ty "tuple") (by rfl) (f_tuple T) bt_tuple rfl) pa_nil))) pa_nil))))), ?_⟩
    refine ⟨x, rfl, by show 2 ≤ sizeLine; rw [sizeLine_eq]; decide, fun p hp => ?_⟩
    have E1 : Ext No S H S (upd H p (.tup [.ty "list", .ty "tuple"])) := (Ext.refl hS).newM hp
    obtain ⟨h1, h2⟩ := tyN_ok (K := K) (tyN_same E1.same ht)
    exact ⟨x, p, _, _, _, _, rfl, upd_same, .cons (.ty _) (.cons (.ty _) .nil), h1, kitLT K h2, q _ E1⟩
/-- whole numbers within limits -/
def oV : Option Int → V
  | none => .non
  | some n => .int n
def wh (lo hi : Option Int) : V → Bool
  | .int n => (lo.all fun l => decide (l ≤ n)) && (hi.all fun h => decide (n ≤ h))
  | _ => false
def sp_is_whole : Sp := fun vs H Q _ => ∃ x t lo hi, vs = [x, oV lo, oV hi] ∧ tyN H x = some t ∧ Q (.bl (wh lo hi x)) H
theorem wh_of_not {H : Hp} {lo hi : Option Int} {x : V} {t : String} (h : tyN H x = some t) (n : t ≠ "int") : wh lo hi x = false := by
  cases x with
  | int i => cases h; exact absurd rfl n
  | _ => rfl
theorem tyN_int {H : Hp} {x : V} (h : tyN H x = some "int") : ∃ n, x = .int n := by
  cases x with
  | int n => exact ⟨n, rfl⟩
  | ref a =>
    have h' : tyO (H a) = some "int" := h
    cases e : H a with
    | none => rw [e] at h'; cases h'
    | some o => rw [e] at h'; cases o <;> exact absurd h' (by simp [tyO])
  | _ => simp [tyN] at h
theorem ok_is_whole {P : Program} {w : World} {K : PySem.W.Frag} {mg : Str → Option Value} {base : Heap} (T : Tx K mg) : FnOk P w K mg base CX0 1 A_is_whole (fdAt K A_is_whole) P_is_whole sp_is_whole := by
  refine (fn_is_whole T).ok sc_is_whole (fun vs H Q E h => ?_) (fun cdv A outer s H vs Q E hr h => ?_)
  · obtain ⟨x, t, lo, hi, rfl, _⟩ := h; rfl
  · obtain ⟨x, t, lo, hi, rfl, ht, q⟩ := h
    obtain ⟨h1, h2⟩ := tyN_ok (K := K) ht
    have k1 := kit1 K "int" (by decide) h2
    have k2 := kit1 K "bool" (by decide) h2
    refine ⟨_, PSs.nox (pss_cons (ps_if (PW.pt (pw_or (pt_not (pt_val (pe_callB call_isi (by rfl) (f_isinstance T) bt_isinstance (pa_cons (pv 0) (pa_cons (pe_bltn (v := .ty "int") (by rfl) (f_int T) bt_int rfl) pa_nil))))) (pw_or1 (pt_val (pe_callB call_isi (by rfl) (f_isinstance T) bt_isinstance (pa_cons (pv 0) (pa_cons (pe_bltn (v := .ty "bool") (by rfl) (f_bool T) bt_bool rfl) pa_nil)))))))
      (pss_one (ps_ret pe_bl))
      pss_nil)
      (pss_cons (ps_if (PW.pt (pw_and (pt_cmpR op_notN (pv 1) pe_non (nomark _)) (pw_and1 (pt_cmpR op_lt (pv 0) (pv 1) (nomark _)))))
      (pss_one (ps_ret pe_bl))
      pss_nil)
      (pss_one (ps_ret (pe_or (pe_cmpR op_isN (pv 2) pe_non (nomark _)) (pe_one (pe_cmpR op_le (pv 0) (pv 2) (nomark _)))))))), ?_⟩
    refine ⟨_, rfl, _, _, _, _, _, rfl, .ty _, h1, k1, _, rfl, ?_⟩
    by_cases hti : t = "int"
    · subst hti
      obtain ⟨n, rfl⟩ := tyN_int ht
      refine iteF ⟨_, rfl, _, _, _, _, _, rfl, .ty _, h1, k2, _, rfl, ?_⟩
      refine iteF ?_
      have fin : ∀ l : Bool, wh lo hi (.int n) = (l && (hi.all fun h => decide (n ≤ h))) → l = true → tRet (tOrV (tOp (fun x y H Q => y = V.non ∧ Q (V.bl (decide (x = V.non))) H) (tVar 2) (tC .non)) (tOp (rI0 fun i j => V.bl (decide (i ≤ j))) (tVar 0) (tVar 2))) { nx := fun x H' => Q .non H', rt := Q } [some (.int n), some (oV lo), some (oV hi)] H := by
        intro l e hl
        rw [hl, Bool.true_and] at e
        rw [e] at q
        cases hi with
        | none => exact ⟨_, rfl, rfl, _, rfl, iteT q⟩
        | some k => exact ⟨_, rfl, rfl, _, rfl, iteF ⟨_, rfl, _, rfl, _, _, rfl, rfl, q⟩⟩
      cases lo with
      | none => exact ⟨_, rfl, rfl, _, rfl, iteF (iteF (fin true rfl rfl))⟩
      | some l =>
        refine ⟨_, rfl, rfl, _, rfl, iteT ⟨_, rfl, _, rfl, _, _, rfl, rfl, _, rfl, ?_⟩⟩
        refine ifD (fun z => ?_) fun z => ?_
        · have e : wh (some l) hi (.int n) = false := by
            show (decide (l ≤ n) && _) = false
            rw [decide_eq_false (show ¬ l ≤ n by omega)]; rfl
          rw [e] at q; exact q
        · exact fin (decide (l ≤ n)) rfl (decide_eq_true (show l ≤ n by omega))
    · have e := wh_of_not (lo := lo) (hi := hi) ht hti
      rw [e] at q
      by_cases hb : t = "bool"
      · subst hb
        exact iteF ⟨_, rfl, _, _, _, _, _, rfl, .ty _, h1, k2, _, rfl, iteT q⟩
      · have f : (t == "int" || (t == "bool" && ("int" : String) == "int")) = false := by simp [hti, hb]
        rw [f]
        exact iteT (iteT q)
end Th

/-! part D3 -/
namespace Th
open PySem PySem.Spec PyProof.Rows L2

/-! ### ratios -/
abbrev ratR : Rp (Int × Int) := pR Th.rI Th.rI
def mkR (a b : Int) : Int × Int := if b < 0 then ((-a) / gI (-a) (-b), (-b) / gI (-a) (-b)) else (a / gI a b, b / gI a b)
theorem two_le : 2 ≤ sizeLine := by rw [sizeLine_eq]; decide
theorem gI_lt {a b : Int} {k : Nat} (hb : b ≠ 0) (h : b.natAbs < 2 ^ k) : 0 < gI a b ∧ (gI a b).natAbs < 2 ^ k := by
  refine ⟨gI_pos_r a hb, Nat.lt_of_le_of_lt ?_ h⟩
  exact Nat.le_of_dvd (Int.natAbs_pos.mpr hb) (Int.natAbs_dvd_natAbs.mpr (gI_dr a b))
def sp_make_ratio : Sp := fun vs H Q _ => ∃ S a b, vs = [.int a, .int b] ∧ Same S H ∧ b ≠ 0 ∧ b.natAbs < 2 ^ 9000 ∧ ∀ S' H' v, Ext No S H S' H' → ratR S' v (mkR a b) → Q v H'
theorem ok_make_ratio {P : Program} {w : World} {K : PySem.W.Frag} {mg : Str → Option Value} {base : Heap} (T : Tx K mg) : FnOk P w K mg base CX0 2 A_make_ratio (fdAt K A_make_ratio) P_make_ratio sp_make_ratio := by
  refine (fn_make_ratio T).ok sc_make_ratio (fun vs H Q E h => ?_) (fun cdv A outer s H vs Q E hr h => ?_)
  · obtain ⟨S, a, b, rfl, _⟩ := h; rfl
  · obtain ⟨S, a, b, rfl, hS, hb, h9, q⟩ := h
    refine ⟨_, PSs.nox (pss_cons (ps_if (pt_not (pt_val (pe_call (ok_is_whole T) hr (by rfl) (g_is_whole T) (fn_is_whole T).kp (b2_is_whole T).choose_spec.2 (b2_is_whole T).choose_spec.1 pass0 (pa_cons (pv 0) pa_nil))))
      (pss_one ps_never)
      pss_nil)
      (pss_cons (ps_if (PW.pt (pw_or (pt_not (pt_val (pe_call (ok_is_whole T) hr (by rfl) (g_is_whole T) (fn_is_whole T).kp (b2_is_whole T).choose_spec.2 (b2_is_whole T).choose_spec.1 pass0 (pa_cons (pv 1) pa_nil)))) (pw_or1 (pt_cmpR op_eq (pv 1) pe_int (nomark _)))))
      (pss_one ps_never)
      pss_nil)
      (pss_cons (ps_if (pt_cmpR op_lt (pv 1) pe_int (nomark _))
      (pss_cons (ps_set (i := 0) sc_make_ratio.nd rfl (.inl rfl) (pe_un un_neg (pv 0)))
      (pss_one (ps_set (i := 1) sc_make_ratio.nd rfl (.inl rfl) (pe_un un_neg (pv 1)))))
      pss_nil)
      (pss_cons (ps_set (i := 2) sc_make_ratio.nd rfl (.inl rfl) (pe_call (ok_common_divisor T) hr (by rfl) (g_common_divisor T) (fn_common_divisor T).kp (b_common_divisor T) .nil pass0 (pa_cons (pv 0) (pa_cons (pv 1) pa_nil))))
      (pss_one (ps_ret (pe_tup (pa_cons (pe_op op_fdivW (pv 0) (pv 2)) (pa_cons (pe_op op_fdivW (pv 1) (pv 2)) pa_nil))))))))), ?_⟩
    refine ⟨_, rfl, .int a, "int", none, none, rfl, rfl, _, rfl, iteF ?_⟩
    refine ⟨_, rfl, .int b, "int", none, none, rfl, rfl, _, rfl, iteF ⟨_, rfl, rfl, _, rfl, ?_⟩⟩
    rw [dV, decide_eq_false hb]
    refine iteF ⟨_, rfl, _, _, rfl, rfl, _, rfl, ?_⟩
    have fin : ∀ a' b' : Int, 0 < b' → b'.natAbs < 2 ^ 9000 → mkR a b = (a' / gI a' b', b' / gI a' b') → tSeq (tAsg (tCall sp_common_divisor [] E0 (tCons (tVar 0) (tCons (tVar 1) tNil))) (gName 2))
        (tRet (tTup (tCons (tOp (L2.rI CDivW fun i j => V.int (i / j)) (tVar 0) (tVar 2)) (tCons (tOp (L2.rI CDivW fun i j => V.int (i / j)) (tVar 1) (tVar 2)) tNil)))) { nx := fun x H' => Q .non H', rt := Q } [some (.int a'), some (.int b'), none] H := by
      intro a' b' h0 h1 e
      obtain ⟨g1, g2⟩ := gI_lt (a := a') (show b' ≠ 0 by omega) h1
      have w := wide_div (i := a') g1 g2 (by decide) (by decide)
      refine ⟨_, rfl, _, rfl, _, _, rfl, ?_⟩
      refine ⟨_, rfl, _, rfl, _, _, rfl, rfl, w, _, rfl, _, rfl, _, _, rfl, rfl, w, two_le, fun p hp => ?_⟩
      refine q (upd S p _) _ _ ((Ext.refl hS).new hp) ⟨p, _, _, rfl, upd_same, ?_, ?_⟩
      · rw [e]; rfl
      · rw [e]; rfl
    refine ifD (fun z => ?_) fun z => ?_
    · refine ⟨_, rfl, _, rfl, _, rfl, _, rfl, ?_⟩
      exact fin (-a) (-b) (by omega) (by rw [Int.natAbs_neg]; exact h9) (if_pos z)
    · exact fin a b (by omega) h9 (if_neg z)
/-- a ratio in lowest terms -/
def isR (x : Int × Int) : Prop := 0 < x.2 ∧ gI x.1 x.2 = 1
def sp_ratio_plus : Sp := fun vs H Q _ => ∃ S v w, ∃ x y : Int × Int, vs = [v, w] ∧ Same S H ∧ ratR S v x ∧ ratR S w y ∧ 0 < x.2 ∧ 0 < y.2 ∧ x.1.natAbs < 2 ^ 100000 ∧ y.1.natAbs < 2 ^ 100000 ∧ x.2.natAbs < 2 ^ 4500 ∧ y.2.natAbs < 2 ^ 4500 ∧
  ∀ S' H' u, Ext No S H S' H' → ratR S' u (mkR (x.1 * y.2 + y.1 * x.2) (x.2 * y.2)) → Q u H'
theorem rat_ix {K : PySem.W.Frag} {S H : Hp} {v : V} {x : Int × Int} (hS : Same S H) (h : ratR S v x) : ∃ p, v = .ref p ∧ SqT K H p [.int x.1, .int x.2] := by
  obtain ⟨p, v1, v2, rfl, e, h1, h2⟩ := h
  have e1 : v1 = .int x.1 := h1
  have e2 : v2 = .int x.2 := h2
  subst e1 e2
  exact ⟨p, rfl, SqT.of (hS _ _ e)⟩
theorem ok_ratio_plus {P : Program} {w : World} {K : PySem.W.Frag} {mg : Str → Option Value} {base : Heap} (T : Tx K mg) : FnOk P w K mg base CX0 3 A_ratio_plus (fdAt K A_ratio_plus) P_ratio_plus sp_ratio_plus := by
  refine (fn_ratio_plus T).ok sc_ratio_plus (fun vs H Q E h => ?_) (fun cdv A outer s H vs Q E hr h => ?_)
  · obtain ⟨S, v, w, x, y, rfl, _⟩ := h; rfl
  · obtain ⟨S, v, w, x, y, rfl, hS, hx, hy, px, py, b1, b2, b3, b4, q⟩ := h
    obtain ⟨p, rfl, tp⟩ := rat_ix (K := K) hS hx
    obtain ⟨p', rfl, tp'⟩ := rat_ix (K := K) hS hy
    refine ⟨_, PSs.nox (pss_one (ps_ret (pe_call (ok_make_ratio T) hr (by rfl) (g_make_ratio T) (fn_make_ratio T).kp (b0_make_ratio T) .nil pass0 (pa_cons (pe_op op_add (pe_op op_mulW (pe_ix ix_tup (pv 0) pe_int (fun _ _ => rfl)) (pe_ix ix_tup (pv 1) pe_int (fun _ _ => rfl))) (pe_op op_mulW (pe_ix ix_tup (pv 1) pe_int (fun _ _ => rfl)) (pe_ix ix_tup (pv 0) pe_int (fun _ _ => rfl)))) (pa_cons (pe_op op_mulW (pe_ix ix_tup (pv 0) pe_int (fun _ _ => rfl)) (pe_ix ix_tup (pv 1) pe_int (fun _ _ => rfl))) pa_nil))))), ?_⟩
    refine ⟨_, rfl, _, _, _, _, rfl, rfl, tp, atI_nat (j := 0) rfl, _, rfl, _, _, _, _, rfl, rfl, tp', atI_nat (j := 1) rfl, _, _, rfl, rfl, wide_mul b1 b4 (by decide) (by decide) (by decide), ?_⟩
    refine ⟨_, rfl, _, _, _, _, rfl, rfl, tp', atI_nat (j := 0) rfl, _, rfl, _, _, _, _, rfl, rfl, tp, atI_nat (j := 1) rfl, _, _, rfl, rfl, wide_mul b2 b3 (by decide) (by decide) (by decide), _, _, rfl, rfl, ?_⟩
    refine ⟨_, rfl, _, _, _, _, rfl, rfl, tp, atI_nat (j := 1) rfl, _, rfl, _, _, _, _, rfl, rfl, tp', atI_nat (j := 1) rfl, _, _, rfl, rfl, wide_mul b3 b4 (by decide) (by decide) (by decide), ?_⟩
    exact ⟨S, _, _, rfl, hS, (Int.ne_of_gt (Int.mul_pos px py)), wide_lt b3 b4, q⟩
def sp_ratio_times : Sp := fun vs H Q _ => ∃ S v w, ∃ x y : Int × Int, vs = [v, w] ∧ Same S H ∧ ratR S v x ∧ ratR S w y ∧ 0 < x.2 ∧ 0 < y.2 ∧ x.1.natAbs < 2 ^ 100000 ∧ y.1.natAbs < 2 ^ 100000 ∧ x.2.natAbs < 2 ^ 4500 ∧ y.2.natAbs < 2 ^ 4500 ∧
  ∀ S' H' u, Ext No S H S' H' → ratR S' u (mkR (x.1 * y.1) (x.2 * y.2)) → Q u H'
theorem ok_ratio_times {P : Program} {w : World} {K : PySem.W.Frag} {mg : Str → Option Value} {base : Heap} (T : Tx K mg) : FnOk P w K mg base CX0 3 A_ratio_times (fdAt K A_ratio_times) P_ratio_times sp_ratio_times := by
  refine (fn_ratio_times T).ok sc_ratio_times (fun vs H Q E h => ?_) (fun cdv A outer s H vs Q E hr h => ?_)
  · obtain ⟨S, v, w, x, y, rfl, _⟩ := h; rfl
  · obtain ⟨S, v, w, x, y, rfl, hS, hx, hy, px, py, b1, b2, b3, b4, q⟩ := h
    obtain ⟨p, rfl, tp⟩ := rat_ix (K := K) hS hx
    obtain ⟨p', rfl, tp'⟩ := rat_ix (K := K) hS hy
    refine ⟨_, PSs.nox (pss_one (ps_ret (pe_call (ok_make_ratio T) hr (by rfl) (g_make_ratio T) (fn_make_ratio T).kp (b0_make_ratio T) .nil pass0 (pa_cons (pe_op op_mulW (pe_ix ix_tup (pv 0) pe_int (fun _ _ => rfl)) (pe_ix ix_tup (pv 1) pe_int (fun _ _ => rfl))) (pa_cons (pe_op op_mulW (pe_ix ix_tup (pv 0) pe_int (fun _ _ => rfl)) (pe_ix ix_tup (pv 1) pe_int (fun _ _ => rfl))) pa_nil))))), ?_⟩
    refine ⟨_, rfl, _, _, _, _, rfl, rfl, tp, atI_nat (j := 0) rfl, _, rfl, _, _, _, _, rfl, rfl, tp', atI_nat (j := 0) rfl, _, _, rfl, rfl, wide_mul b1 b2 (by decide) (by decide) (by decide), ?_⟩
    refine ⟨_, rfl, _, _, _, _, rfl, rfl, tp, atI_nat (j := 1) rfl, _, rfl, _, _, _, _, rfl, rfl, tp', atI_nat (j := 1) rfl, _, _, rfl, rfl, wide_mul b3 b4 (by decide) (by decide) (by decide), ?_⟩
    exact ⟨S, _, _, rfl, hS, (Int.ne_of_gt (Int.mul_pos px py)), wide_lt b3 b4, q⟩
end Th

/-! part D4 -/
namespace Th
open PySem PySem.Spec PyProof.Rows L2

/-! ### numbers of any kind that the law passes -/
inductive Nm where
  | int (n : Int) | pair (a b : Int) | non | str (x : Str) | bl (b : Bool)
def nmR : Rp Nm := fun S v x => match x with
  | .int n => v = .int n
  | .pair a b => ratR S v (a, b)
  | .non => v = .non
  | .str z => v = .str z
  | .bl b => v = .bl b
theorem nmR_m : MonoR nmR := fun S S' v x k h => by
  cases x with
  | pair a b => exact pR_m rI_m rI_m _ _ _ _ k h
  | _ => exact h
def nmT : Nm → String
  | .int _ => "int" | .pair _ _ => "tuple" | .non => "NoneType" | .str _ => "str" | .bl _ => "bool"
theorem nm_ty {S H : Hp} {v : V} {x : Nm} (hS : Same S H) (h : nmR S v x) : tyN H v = some (nmT x) := by
  cases x with
  | int n => cases (show v = .int n from h); rfl
  | non => cases (show v = .non from h); rfl
  | str z => cases (show v = .str z from h); rfl
  | bl b => cases (show v = .bl b from h); rfl
  | pair a b =>
    obtain ⟨p, v1, v2, rfl, e, _⟩ := (show ratR S v (a, b) from h)
    show tyO (H p) = some "tuple"
    rw [hS _ _ e]; rfl
def isRat : Nm → Bool
  | .pair a b => decide (1 ≤ b) && decide (gI a b = 1)
  | _ => false
def asRat : Nm → Option (Int × Int)
  | .int n => some (n, 1)
  | .pair a b => if isRat (.pair a b) = true then some (a, b) else none
  | _ => none
def optR {α : Type} (R : Rp α) : Rp (Option α) := fun S v x => match x with
  | none => v = .non
  | some y => R S v y
theorem optR_m {α : Type} {R : Rp α} (hR : MonoR R) : MonoR (optR R) := fun S S' v x k h => by
  cases x with
  | none => exact h
  | some y => exact hR _ _ _ _ k h
def sp_is_ratio : Sp := fun vs H Q _ => ∃ S v x, vs = [v] ∧ Same S H ∧ nmR S v x ∧ Q (.bl (isRat x)) H
theorem ok_is_ratio {P : Program} {w : World} {K : PySem.W.Frag} {mg : Str → Option Value} {base : Heap} (T : Tx K mg) : FnOk P w K mg base CX0 2 A_is_ratio (fdAt K A_is_ratio) P_is_ratio sp_is_ratio := by
  refine (fn_is_ratio T).ok sc_is_ratio (fun vs H Q E h => ?_) (fun cdv A outer s H vs Q E hr h => ?_)
  · obtain ⟨S, v, x, rfl, _⟩ := h; rfl
  · obtain ⟨S, v, x, rfl, hS, hx, q⟩ := h
    have ht := nm_ty hS hx
    obtain ⟨h1, h2⟩ := tyN_ok (K := K) ht
    have k1 := kit1 K "tuple" (by decide) h2
    refine ⟨_, PSs.nox (pss_cons (ps_if (PW.pt (pw_or (pt_not (pt_val (pe_callB call_isi (by rfl) (f_isinstance T) bt_isinstance (pa_cons (pv 0) (pa_cons (pe_bltn (v := .ty "tuple") (by rfl) (f_tuple T) bt_tuple rfl) pa_nil))))) (pw_or1 (pt_cmpR op_ne (pe_callB call_len_seq (by rfl) (f_len T) bt_len (pa_cons (pv 0) pa_nil)) pe_int (nomark _)))))
      (pss_one (ps_ret pe_bl))
      pss_nil)
      (pss_cons (ps_if (PW.pt (pw_or (pt_not (pt_val (pe_call (ok_is_whole T) hr (by rfl) (g_is_whole T) (fn_is_whole T).kp (b2_is_whole T).choose_spec.2 (b2_is_whole T).choose_spec.1 pass0 (pa_cons (pe_ix ix_tup (pv 0) pe_int (fun _ _ => rfl)) pa_nil)))) (pw_or1 (pt_not (pt_val (pe_call (ok_is_whole T) hr (by rfl) (g_is_whole T) (fn_is_whole T).kp (b1_is_whole T).choose_spec.2 (b1_is_whole T).choose_spec.1 pass0 (pa_cons (pe_ix ix_tup (pv 0) pe_int (fun _ _ => rfl)) (pa_cons pe_int pa_nil))))))))
      (pss_one (ps_ret pe_bl))
      pss_nil)
      (pss_one (ps_ret (pe_cmpR op_eq (pe_call (ok_common_divisor T) hr (by rfl) (g_common_divisor T) (fn_common_divisor T).kp (b_common_divisor T) .nil pass0 (pa_cons (pe_ix ix_tup (pv 0) pe_int (fun _ _ => rfl)) (pa_cons (pe_ix ix_tup (pv 0) pe_int (fun _ _ => rfl)) pa_nil))) pe_int (nomark _)))))), ?_⟩
    refine ⟨_, rfl, _, _, _, _, _, rfl, .ty _, h1, k1, _, rfl, ?_⟩
    cases x with
    | pair a b =>
      obtain ⟨p, rfl, tp⟩ := rat_ix (K := K) hS (show ratR S v (a, b) from hx)
      refine iteF ⟨_, rfl, _, _, rfl, .inr tp, rfl, _, rfl, iteF ?_⟩
      refine ⟨_, rfl, _, _, _, _, rfl, rfl, tp, atI_nat (j := 0) rfl, .int a, "int", none, none, rfl, rfl, _, rfl, iteF ?_⟩
      refine ⟨_, rfl, _, _, _, _, rfl, rfl, tp, atI_nat (j := 1) rfl, .int b, "int", some 1, none, rfl, rfl, _, rfl, ?_⟩
      have e : wh (some 1) none (.int b) = decide (1 ≤ b) := by
        show (decide (1 ≤ b) && true) = _
        rw [Bool.and_true]
      rw [e]
      refine ifN (fun z => ?_) fun z => ?_
      · have e2 : isRat (.pair a b) = false := by
          show (decide (1 ≤ b) && _) = false
          rw [decide_eq_false z]; rfl
        rw [e2] at q; exact q
      · have e2 : isRat (.pair a b) = decide (gI a b = 1) := by
          show (decide (1 ≤ b) && _) = _
          rw [decide_eq_true z, Bool.true_and]
        rw [e2] at q
        refine ⟨_, rfl, _, _, _, _, rfl, rfl, tp, atI_nat (j := 0) rfl, _, rfl, _, _, _, _, rfl, rfl, tp, atI_nat (j := 1) rfl, _, _, rfl, rfl, ?_⟩
        show Q (.bl (decide (V.int (gI a b) = V.int 1))) H
        rw [dV]; exact q
    | int n => exact iteT (iteT q)
    | non => exact iteT (iteT q)
    | str z => exact iteT (iteT q)
    | bl b => exact iteT (iteT q)
def sp_as_ratio : Sp := fun vs H Q _ => ∃ S v x, vs = [v] ∧ Same S H ∧ nmR S v x ∧ ∀ S' H' u, Ext No S H S' H' → optR ratR S' u (asRat x) → Q u H'
theorem ok_as_ratio {P : Program} {w : World} {K : PySem.W.Frag} {mg : Str → Option Value} {base : Heap} (T : Tx K mg) : FnOk P w K mg base CX0 3 A_as_ratio (fdAt K A_as_ratio) P_as_ratio sp_as_ratio := by
  refine (fn_as_ratio T).ok sc_as_ratio (fun vs H Q E h => ?_) (fun cdv A outer s H vs Q E hr h => ?_)
  · obtain ⟨S, v, x, rfl, _⟩ := h; rfl
  · obtain ⟨S, v, x, rfl, hS, hx, q⟩ := h
    have ht := nm_ty hS hx
    refine ⟨_, PSs.nox (pss_cons (ps_if (pt_val (pe_call (ok_is_whole T) (hr.mono (by decide)) (by rfl) (g_is_whole T) (fn_is_whole T).kp (b2_is_whole T).choose_spec.2 (b2_is_whole T).choose_spec.1 pass0 (pa_cons (pv 0) pa_nil)))
      (pss_one (ps_ret (pe_tup (pa_cons (pv 0) (pa_cons pe_int pa_nil)))))
      pss_nil)
      (pss_one (ps_ret (pe_ifExp (pt_val (pe_call (ok_is_ratio T) hr (by rfl) (g_is_ratio T) (fn_is_ratio T).kp (b_is_ratio T) .nil pass0 (pa_cons (pv 0) pa_nil))) (pv 0) pe_non)))), ?_⟩
    refine ⟨_, rfl, v, _, none, none, rfl, ht, _, rfl, ?_⟩
    cases x with
    | int n =>
      cases (show v = .int n from hx)
      refine iteT ⟨_, rfl, two_le, fun p hp => ?_⟩
      exact q (upd S p _) _ _ ((Ext.refl hS).new hp) ⟨p, _, _, rfl, upd_same, rfl, rfl⟩
    | pair a b =>
      obtain ⟨p, v1, v2, rfl, e, h1, h2⟩ := (show ratR S v (a, b) from hx)
      refine iteF ⟨_, rfl, S, _, .pair a b, rfl, hS, ⟨p, v1, v2, rfl, e, h1, h2⟩, _, rfl, ?_⟩
      cases ei : isRat (.pair a b) with
      | true =>
        refine iteT ⟨_, rfl, q S H _ (Ext.refl hS) ?_⟩
        show optR ratR S _ (if isRat (.pair a b) = true then some (a, b) else none)
        rw [ei]
        exact ⟨p, v1, v2, rfl, e, h1, h2⟩
      | false =>
        refine iteF (q S H _ (Ext.refl hS) ?_)
        show optR ratR S _ (if isRat (.pair a b) = true then some (a, b) else none)
        rw [ei]; rfl
    | non =>
      cases (show v = .non from hx)
      exact iteF ⟨_, rfl, S, _, .non, rfl, hS, rfl, _, rfl, iteF (q S H _ (Ext.refl hS) rfl)⟩
    | str z =>
      cases (show v = .str z from hx)
      exact iteF ⟨_, rfl, S, _, .str z, rfl, hS, rfl, _, rfl, iteF (q S H _ (Ext.refl hS) rfl)⟩
    | bl b =>
      cases (show v = .bl b from hx)
      exact iteF ⟨_, rfl, S, _, .bl b, rfl, hS, rfl, _, rfl, iteF (q S H _ (Ext.refl hS) rfl)⟩
end Th

/-! part D5 -/
namespace Th
open PySem PySem.Spec PyProof.Rows L2

/-! ### rows -/
theorem take_get {α : Type} {l : List α} {i : Nat} {x : α} (h : l[i]? = some x) : l.take (i + 1) = l.take i ++ [x] := by
  rw [List.take_add_one, h]; rfl
theorem gcdRow_app (c : Int) (r : List Int) (x : Int) : gcdRow c (r ++ [x]) = gI (gcdRow c r) x := by
  unfold gcdRow; rw [List.foldl_append]; rfl
theorem map_get {l : List Int} {i : Nat} {v : V} (h : (l.map V.int)[i]? = some v) : ∃ n, l[i]? = some n ∧ v = .int n := by
  rw [List.getElem?_map] at h
  cases e : l[i]? with
  | none => rw [e] at h; cases h
  | some n => rw [e] at h; cases h; exact ⟨n, rfl, rfl⟩
def sp_plain_row : Sp := fun vs H Q _ => ∃ S v row, vs = [v] ∧ Same S H ∧ lI S v row ∧ Bd 9000 row ∧ row.length ≤ 1000 ∧ ∀ S' H' u, Ext No S H S' H' → lI S' u (plainRow row) → Q u H'
theorem ok_plain_row {P : Program} {w : World} {K : PySem.W.Frag} {mg : Str → Option Value} {base : Heap} (T : Tx K mg) : FnOk P w K mg base CX0 1 A_plain_row (fdAt K A_plain_row) P_plain_row sp_plain_row := by
  refine (fn_plain_row T).ok sc_plain_row (fun vs H Q E h => ?_) (fun cdv A outer s H vs Q E hr h => ?_)
  · obtain ⟨S, v, row, rfl, _⟩ := h; rfl
  · obtain ⟨S, v, row, rfl, hS, ⟨a, rfl, ha⟩, hb, hl, q⟩ := h
    have sA : ∀ {S' H'}, Ext No S H S' H' → SqL K H' a (row.map V.int) := fun e => SqL.of (e.i _ _ (e.s _ _ ha))
    have et : row.take (row.map V.int).length = row := by rw [List.length_map]; exact List.take_length
    refine ⟨_, PSs.nox (pss_cons (ps_set (i := 1) sc_plain_row.nd rfl (.inr rfl) pe_int)
      (pss_cons (ps_for PassesOwn.never rfl (pi_list (pv 0)) (pg_name (i := 2) sc_plain_row.nd rfl (.inl rfl))
      (pss_one (ps_set (i := 1) sc_plain_row.nd rfl (.inr rfl) (pe_callBfun cr_gcd (by rfl) (g_gcd T) (pa_cons (pv 1) (pa_cons (pv 2) pa_nil))))))
      (pss_cons (ps_if (pt_cmpR op_lt (pv 1) pe_int (nomark _))
      (pss_one (ps_ret (pe_callTy call_list_of (by rfl) (f_list T) bt_list (pa_cons (pv 0) pa_nil))))
      pss_nil)
      (pss_one (ps_ret (pe_lc (own := [("number", 2)]) (g := gName 2) rfl sc_plain_row.nd (pi_list (pv 0)) (blkOk_by (N := N_plain_row) (sc := defScope st_plain_row) (by decide +kernel)) (fun _ _ _ _ _ => (pg_name (i := 2) sc_plain_row.nd rfl (.inl rfl))) (fun _ _ _ _ _ => pts_nil) (fun _ _ _ _ _ => (pe_op op_fdivW (pv 2) (pv 1))))))))), ?_⟩
    refine ⟨_, rfl, a, rfl, ⟨_, sA (Ext.refl hS)⟩, forE (walk_list (xs := row.map V.int)) (fun i σ _ _ => ∃ x, σ = [some (.ref a), some (.int (gcdRow 0 (row.take i))), x]) (Ext.refl (m := No) hS) ⟨_, rfl⟩
      (fun _ _ _ _ _ e _ => sA e) (fun i x σ S' H1 H' hi e ⟨y, e3⟩ ⟨e4, e5⟩ => ?_) fun σ S' H' e ⟨y, e3⟩ => ?_⟩
    · subst e3 e4
      obtain ⟨n, e6, rfl⟩ := map_get e5
      refine ⟨_, rfl, _, rfl, _, _, rfl, S', e, some (.int n), ?_⟩
      rw [take_get e6, gcdRow_app]; rfl
    · subst e3
      rw [et]
      refine ⟨_, rfl, _, _, rfl, rfl, _, rfl, ?_⟩
      refine ifD (fun z => ?_) fun z => ?_
      · refine ⟨_, rfl, a, _, rfl, .inl (sA e), fun l hn => ?_⟩
        refine q (upd S' l _) _ _ (e.new hn) ⟨l, rfl, ?_⟩
        rw [upd_same]; unfold plainRow; rw [if_pos z]
      · have w : ∀ i, CDivW i (gcdRow 0 row) := fun i => wide_div (i := i) (show 0 < gcdRow 0 row by omega) (gcdRow_bd hb) (by decide) (by decide)
        refine ⟨_, rfl, a, rfl, ⟨_, sA e⟩, lcP (walk_list (xs := row.map V.int)) (by rw [List.length_map]; omega) (fun i acc _ => acc = (row.take i).map fun n => V.int (n / gcdRow 0 row)) e
          rfl (fun _ _ _ _ _ e _ => sA e)
          (fun i x acc S2 H2 H3 Kt Kf hi e p ⟨e4, e5⟩ kt kf => ?_) fun d acc S2 H2 hd e hs he _ p => ?_⟩
        · subst e4 p
          obtain ⟨n, e6, rfl⟩ := map_get e5
          refine ⟨rfl, ?_⟩
          refine ⟨_, rfl, _, rfl, _, _, rfl, rfl, w _, ?_⟩
          refine kt _ S2 _ (Ext.refl e.i) ?_
          rw [take_get e6, List.map_append]; rfl
        · refine q (upd S2 d _) _ _ (e.fix hd hs he) ⟨d, rfl, ?_⟩
          rw [upd_same, p, et]
          unfold plainRow
          rw [if_neg z, List.map_map]; rfl
end Th

/-! part D6 -/
namespace Th
open PySem PySem.Spec PyProof.Rows L2

theorem int_ix {K : PySem.W.Frag} {S H : Hp} {a : Addr} {row : List Int} {c : Nat} (hS : Same S H) (h : S a = some (.lst (row.map V.int))) (hc : c < row.length) : SqL K H a (row.map V.int) ∧ atI (row.map V.int) (c : Int) = some (.int (row.getD c 0)) := by
  refine ⟨SqL.of (hS _ _ h), atI_nat ?_⟩
  rw [List.getElem?_map, List.getElem?_eq_getElem hc, List.getD_eq_getElem?_getD, List.getElem?_eq_getElem hc]; rfl
theorem zipWith_take {α β γ : Type} (f : α → β → γ) {l : List α} {k : List β} {i : Nat} {x : α} {y : β} (h1 : l[i]? = some x) (h2 : k[i]? = some y) : List.zipWith f (l.take (i + 1)) (k.take (i + 1)) = List.zipWith f (l.take i) (k.take i) ++ [f x y] := by
  obtain ⟨a1, a2⟩ := List.getElem?_eq_some_iff.mp h1
  obtain ⟨b1, b2⟩ := List.getElem?_eq_some_iff.mp h2
  rw [take_get h1, take_get h2]
  rw [List.zipWith_append (by rw [List.length_take, List.length_take]; omega)]; rfl
theorem mulW {x y : Int} {a b : Nat} (hx : x.natAbs < 2 ^ a) (hy : y.natAbs < 2 ^ b) (h : a + b ≤ 900000) : CMulW x y :=
  wide_mul (a := a + 1) (b := b + 1) (Nat.lt_of_lt_of_le hx (Nat.pow_le_pow_right (by decide) (by omega))) (Nat.lt_of_lt_of_le hy (Nat.pow_le_pow_right (by decide) (by omega))) (by omega) (by omega) (by omega)
theorem take_all {α : Type} {l : List α} {n : Nat} (h : n = l.length) : l.take n = l := by rw [h]; exact List.take_length
def sp_cleared_row : Sp := fun vs H Q _ => ∃ S v w row piv, ∃ c a b : Nat, vs = [v, w, .int (c : Int)] ∧ Same S H ∧ lI S v row ∧ lI S w piv ∧ row.length = piv.length ∧ row.length ≤ 1000 ∧ c < row.length ∧ row.getD c 0 ≠ 0 ∧ Bd a row ∧ Bd b piv ∧ a + b + 1 ≤ 9000 ∧
  ∀ S' H' u, Ext No S H S' H' → lI S' u (clearedRow row piv c) → Q u H'
theorem ok_cleared_row {P : Program} {w : World} {K : PySem.W.Frag} {mg : Str → Option Value} {base : Heap} (T : Tx K mg) : FnOk P w K mg base CX0 2 A_cleared_row (fdAt K A_cleared_row) P_cleared_row sp_cleared_row := by
  refine (fn_cleared_row T).ok sc_cleared_row (fun vs H Q E h => ?_) (fun cdv A outer s H vs Q E hr h => ?_)
  · obtain ⟨S, v, w, row, piv, c, a, b, rfl, _⟩ := h; rfl
  · obtain ⟨S, v, w', row, piv, c, ba, bb, rfl, hS, ⟨a, rfl, ha⟩, ⟨b, rfl, hb⟩, hlen, h1000, hc, hne, b1, b2, hab, q⟩ := h
    refine ⟨_, PSs.nox (pss_cons (ps_par (i := 3) (j := 4) (by rfl) sc_cleared_row.nd rfl rfl (by decide) rfl rfl (pa_cons (pe_ix ix_list (pv 0) (pv 2) (fun _ _ => rfl)) (pa_cons (pe_ix ix_list (pv 1) (pv 2) (fun _ _ => rfl)) pa_nil)) (by rfl))
      (pss_cons (ps_set (i := 5) sc_cleared_row.nd rfl (.inl rfl) (pe_callBfun cr_gcd (by rfl) (g_gcd T) (pa_cons (pv 3) (pa_cons (pv 4) pa_nil))))
      (pss_cons (ps_asg (pe_tup (pa_cons (pe_op op_fdivW (pv 4) (pv 5)) (pa_cons (pe_op op_fdivW (pv 3) (pv 5)) pa_nil))) (pg_tup (by rfl) (pgs_cons (pg_name (i := 6) sc_cleared_row.nd rfl (.inr rfl)) (pgs_cons (pg_name (i := 7) sc_cleared_row.nd rfl (.inr rfl)) pgs_nil))))
      (pss_one (ps_ret (pe_call (ok_plain_row T) hr (by rfl) (g_plain_row T) (fn_plain_row T).kp (b_plain_row T) .nil pass0 (pa_cons (pe_lc (own := [("one", 8), ("other", 9)]) (g := gTup K 2 (gCons (gName 8) (gCons (gName 9) (gNil)))) rfl sc_cleared_row.nd (pi_zip (by rfl) (f_zip T) (pa_cons (pv 0) (pa_cons (pv 1) pa_nil))) (blkOk_by (N := N_cleared_row) (sc := defScope st_cleared_row) (by decide +kernel)) (fun _ _ _ _ _ => (pg_tup (by rfl) (pgs_cons (pg_name (i := 8) sc_cleared_row.nd rfl (.inl rfl)) (pgs_cons (pg_name (i := 9) sc_cleared_row.nd rfl (.inl rfl)) pgs_nil)))) (fun _ _ _ _ _ => pts_nil) (fun _ _ _ _ _ => (pe_op op_sub (pe_op op_mulW (pv 6) (pv 8)) (pe_op op_mulW (pv 7) (pv 9))))) pa_nil))))))), ?_⟩
    have hc2 : c < piv.length := by omega
    have g0 : 0 < gI (row.getD c 0) (piv.getD c 0) := gI_pos_l _ hne
    have gb : (gI (row.getD c 0) (piv.getD c 0)).natAbs < 2 ^ ba := Nat.lt_of_le_of_lt (Nat.le_of_dvd (Int.natAbs_pos.mpr hne) (Int.natAbs_dvd_natAbs.mpr (gI_dl _ _))) (b1.at_ c)
    obtain ⟨x1, x2⟩ := int_ix (K := K) hS ha hc
    obtain ⟨y1, y2⟩ := int_ix (K := K) hS hb hc2
    refine ⟨_, rfl, _, rfl, _, _, _, _, rfl, rfl, x1, x2, _, rfl, _, rfl, _, _, _, _, rfl, rfl, y1, y2, _, _, rfl, ?_⟩
    refine ⟨_, rfl, _, rfl, _, _, rfl, ?_⟩
    have w1 : ∀ i, CDivW i (gI (row.getD c 0) (piv.getD c 0)) := fun i => wide_div (i := i) g0 (Nat.lt_of_lt_of_le gb (Nat.pow_le_pow_right (by decide) (show ba ≤ 9000 by omega))) (by decide) (by decide)
    refine ⟨_, rfl, _, rfl, _, _, rfl, rfl, w1 _, _, rfl, _, rfl, _, _, rfl, rfl, w1 _, two_le, fun p hp => ?_⟩
    refine ⟨p, _, rfl, SqT.of upd_same, rfl, _, _, rfl, _, _, rfl, rfl, ?_⟩
    have E1 : Ext No S H S (upd H p (.tup [.int (piv.getD c 0 / gI (row.getD c 0) (piv.getD c 0)), .int (row.getD c 0 / gI (row.getD c 0) (piv.getD c 0))])) := (Ext.refl hS).newM hp
    have ub : (piv.getD c 0 / gI (row.getD c 0) (piv.getD c 0)).natAbs < 2 ^ bb := Nat.lt_of_le_of_lt (ediv_le g0 (gI_dr _ _)) (b2.at_ c)
    have db : (row.getD c 0 / gI (row.getD c 0) (piv.getD c 0)).natAbs < 2 ^ ba := Nat.lt_of_le_of_lt (ediv_le g0 (gI_dl _ _)) (b1.at_ c)
    refine ⟨_, rfl, _, rfl, a, b, _, _, rfl, SqL.of (E1.i _ _ ha), SqL.of (E1.i _ _ hb), lcP (σ := [some (.ref a), some (.ref b), some (.int (c : Int)), some (.int (row.getD c 0)), some (.int (piv.getD c 0)), some (.int (gI (row.getD c 0) (piv.getD c 0))), some (.int (piv.getD c 0 / gI (row.getD c 0) (piv.getD c 0))), some (.int (row.getD c 0 / gI (row.getD c 0) (piv.getD c 0))), none, none]) (walk_zip (xs := row.map V.int) (ys := piv.map V.int) (n := row.length) (by rw [List.length_map, List.length_map]; omega)) (by omega)
      (fun i acc _ => acc = (List.zipWith (fun one other => (piv.getD c 0 / gI (row.getD c 0) (piv.getD c 0)) * one - (row.getD c 0 / gI (row.getD c 0) (piv.getD c 0)) * other) (row.take i) (piv.take i)).map V.int) E1 rfl
      (fun _ _ _ _ _ e _ => ⟨SqL.of (e.i _ _ (e.s _ _ ha)), SqL.of (e.i _ _ (e.s _ _ hb))⟩) (fun i x acc S2 H2 H3 Kt Kf hi e p hy kt kf => ?_) fun d acc S2 H2 hd e hs he _ p => ?_⟩
    · obtain ⟨t, x', y', rfl, hT, rfl, e1, e2⟩ := hy
      subst p
      obtain ⟨n1, f1, rfl⟩ := map_get e1
      obtain ⟨n2, f2, rfl⟩ := map_get e2
      have m1 : n1.natAbs < 2 ^ ba := b1 _ (List.mem_of_getElem? f1)
      have m2 : n2.natAbs < 2 ^ bb := b2 _ (List.mem_of_getElem? f2)
      refine ⟨t, _, rfl, SqT.of upd_same, rfl, _, _, rfl, _, _, rfl, rfl, wipe2 rfl rfl, ?_⟩
      refine ⟨_, rfl, _, rfl, _, _, rfl, rfl, mulW ub m1 (by omega), _, rfl, _, rfl, _, _, rfl, rfl, mulW db m2 (by omega), _, _, rfl, rfl, ?_⟩
      refine kt _ S2 _ ((Ext.refl e.i).newM hT) ?_
      rw [zipWith_take _ f1 f2, List.map_append]; rfl
    · have fx := e.fix hd hs he (o := .lst acc)
      rw [take_all rfl, take_all (show row.length = piv.length from hlen)] at p
      have bm := mix_bd b1 b2 hne
      refine ⟨upd S2 d (.lst acc), .ref d, mixRow row piv c, rfl, fx.i, ⟨d, rfl, by rw [upd_same, p]; rfl⟩, bm.mono hab, by rw [mixRow_len hlen]; omega, fun S' H' u e2 hu => ?_⟩
      exact q S' H' u (fx.trans e2) hu
def sp_cleared_rows : Sp := fun vs H Q _ => ∃ S v w rows piv, ∃ c a b n : Nat, vs = [v, w, .int (c : Int)] ∧ Same S H ∧ lR lI S v rows ∧ lI S w piv ∧ (∀ r ∈ rows, r.length = n ∧ Bd a r) ∧ piv.length = n ∧ n ≤ 1000 ∧ c < n ∧ Bd b piv ∧ a + b + 1 ≤ 9000 ∧ rows.length ≤ 1000 ∧
  ∀ S' H' p vs, Ext No S H S' H' → H p = none → S' p = none → H' p = some (.lst vs) → All2 (lI S') vs (clearedRows rows piv c) → Q (.ref p) H'
theorem lR_len {α : Type} {R : Rp α} {S : Hp} {vs : List V} {xs : List α} (h : All2 (R S) vs xs) : vs.length = xs.length := h.len
theorem ok_cleared_rows {P : Program} {w : World} {K : PySem.W.Frag} {mg : Str → Option Value} {base : Heap} (T : Tx K mg) : FnOk P w K mg base CX0 3 A_cleared_rows (fdAt K A_cleared_rows) P_cleared_rows sp_cleared_rows := by
  refine (fn_cleared_rows T).ok sc_cleared_rows (fun vs H Q E h => ?_) (fun cdv A outer s H vs Q E hr h => ?_)
  · obtain ⟨S, v, w, rows, piv, c, a, b, n, rfl, _⟩ := h; rfl
  · obtain ⟨S, v, w', rows, piv, c, ba, bb, n, rfl, hS, ⟨a, vs, rfl, ha, hv⟩, hw, hr2, hp, hn, hc, b2, hab, hl, q⟩ := h
    refine ⟨_, PSs.nox (pss_one (ps_ret (pe_lc (own := [("row", 3)]) (g := gName 3) rfl sc_cleared_rows.nd (pi_list (pv 0)) (blkOk_by (N := N_cleared_rows) (sc := defScope st_cleared_rows) (by decide +kernel)) (fun _ _ _ _ _ => (pg_name (i := 3) sc_cleared_rows.nd rfl (.inl rfl))) (fun _ _ _ _ _ => pts_nil) (fun _ _ _ _ _ => (pe_ifExp (pt_cmpR op_ne (pe_ix (show IxR _ (rIxL K) from ix_list) (pv 3) (pv 2) (fun _ _ => rfl)) pe_int (nomark _)) (pe_call (ok_cleared_row T) hr (by rfl) (g_cleared_row T) (fn_cleared_row T).kp (b_cleared_row T) .nil pass0 (pa_cons (pv 3) (pa_cons (pv 1) (pa_cons (pv 2) pa_nil)))) (pv 3)))))), ?_⟩
    refine ⟨_, rfl, a, rfl, ⟨_, SqL.of (hS _ _ ha)⟩, lcP (walk_list (xs := vs)) (by rw [hv.len]; omega) (fun i acc S' => All2 (lI S') acc (clearedRows (rows.take i) piv c)) (Ext.refl hS) .nil
      (fun _ _ _ _ _ e _ => SqL.of (e.i _ _ (e.s _ _ ha))) (fun i x acc S2 H2 H3 Kt Kf hi e p ⟨e4, e5⟩ kt kf => ?_) fun d acc S2 H2 hd e hs he _ p => ?_⟩
    · subst e4
      obtain ⟨row, f1, f2⟩ := hv.get e5
      obtain ⟨l1, b1⟩ := hr2 row (List.mem_of_getElem? f1)
      have f3 := lI_m _ _ _ _ e.s f2
      obtain ⟨ra, rfl, hra⟩ := f3
      obtain ⟨x1, x2⟩ := int_ix (K := K) e.i hra (show c < row.length by omega)
      refine ⟨rfl, ?_⟩
      refine ⟨_, rfl, _, rfl, _, _, _, _, rfl, rfl, x1, x2, rfl, _, rfl, ?_⟩
      rw [dV]
      have fin : ∀ S' H4 u, Ext No S2 H3 S' H4 → lI S' u (if row.getD c 0 ≠ 0 then clearedRow row piv c else row) → Kt u H4 := fun S' H4 u e6 h6 => by
        refine kt u S' H4 e6 ?_
        rw [take_get f1]
        unfold clearedRows
        rw [List.map_append]
        exact (p.mono lI_m e6.s).snoc h6
      refine ifN (fun z => ?_) fun z => ?_
      · refine ⟨_, rfl, _, rfl, _, rfl, S2, _, _, row, piv, c, ba, bb, rfl, e.i, ⟨ra, rfl, hra⟩, lI_m _ _ _ _ e.s hw, by omega, by omega, by omega, z, b1, b2, hab, fun S' H' u e6 h6 => fin S' H' u e6 ?_⟩
        rw [if_pos z]; exact h6
      · refine ⟨.ref ra, rfl, ?_⟩
        refine fin S2 H3 _ (Ext.refl e.i) ?_
        rw [if_neg (fun y => y z)]; exact ⟨ra, rfl, hra⟩
    · rw [take_all hv.len] at p
      exact q S2 H2 d acc e hd hs he p
end Th

/-! part D7 -/
namespace Th
open PySem PySem.Spec PyProof.Rows L2

theorem findRow_eq {left : List (List Int)} {c k : Nat} (hk : k < left.length) (h0 : ∀ t, t < k → (left.getD t []).getD c 0 = 0) (h1 : (left.getD k []).getD c 0 ≠ 0) : findRow left c = some k := by
  unfold findRow
  refine List.findIdx?_eq_some_iff_getElem.mpr ⟨hk, ?_, fun j hj => ?_⟩
  · rw [List.getD_eq_getElem?_getD (l := left), List.getElem?_eq_getElem hk] at h1
    exact decide_eq_true h1
  · have z := h0 j hj
    rw [List.getD_eq_getElem?_getD (l := left), List.getElem?_eq_getElem (Nat.lt_trans hj hk)] at z
    intro y
    exact of_decide_eq_true y z
theorem findRow_nil {left : List (List Int)} {c : Nat} (h0 : ∀ t, t < left.length → (left.getD t []).getD c 0 = 0) : findRow left c = none := by
  unfold findRow
  refine List.findIdx?_eq_none_iff.mpr fun r hr => ?_
  obtain ⟨j, hj⟩ := List.mem_iff_getElem?.mp hr
  have z := h0 j (List.getElem?_eq_some_iff.mp hj).1
  rw [List.getD_eq_getElem?_getD (l := left), hj] at z
  exact decide_eq_false fun y => y z
def sp_echelon_pairs : Sp := fun vs H Q _ => ∃ S v rows, ∃ n b w : Nat, vs = [v, .int (w : Int)] ∧ Same S H ∧ lR sI S v rows ∧ (∀ r ∈ rows, r.length = n ∧ Bd b r) ∧ w ≤ n ∧ n ≤ 1000 ∧ rows.length ≤ 1000 ∧ (b + 1) * 2 ^ (min rows.length w) ≤ 9000 ∧
  ∀ S' H' u, Ext No S H S' H' → lR (pR lI rN) S' u (echelonPairs rows w) → Q u H'
def EcI (H0 : Hp) (v : V) (w : Nat) (rows : List (List Int)) (i : Nat) (σ : L2.St) (S H : Hp) : Prop := ∃ (l d k : Addr) (lv dv : List V) (x5 x6 x7 x8 x9 : Option V), σ = [some v, some (.int (w : Int)), some (.ref l), some (.ref d), some (.ref k), x5, x6, x7, x8, x9] ∧ l ≠ d ∧ l ≠ k ∧ d ≠ k ∧
  H0 l = none ∧ H0 d = none ∧ H0 k = none ∧ S l = none ∧ S d = none ∧ S k = none ∧ H l = some (.lst lv) ∧ H d = some (.lst dv) ∧ H k = some (.lst ((echelon rows i).2.2.map fun c : Nat => V.int c)) ∧ All2 (lI S) lv (echelon rows i).1 ∧ All2 (lI S) dv (echelon rows i).2.1
theorem ok_echelon_pairs {P : Program} {w : World} {K : PySem.W.Frag} {mg : Str → Option Value} {base : Heap} (T : Tx K mg) : FnOk P w K mg base CX0 4 A_echelon_pairs (fdAt K A_echelon_pairs) P_echelon_pairs sp_echelon_pairs := by
  refine (fn_echelon_pairs T).ok sc_echelon_pairs (fun vs H Q E h => ?_) (fun cdv A outer s H vs Q E hr h => ?_)
  · obtain ⟨S, v, rows, n, b, w', rfl, _⟩ := h; rfl
  · obtain ⟨S, v, rows, n, b, wd, rfl, hS, ⟨a, vs, rfl, ha, hv⟩, hr2, hwn, hn, hl, hsz, q⟩ := h
    refine ⟨_, PSs.nox (pss_cons (ps_setLc (i := 2) (own := [("row", 8)]) (g := gName 8) rfl sc_echelon_pairs.nd rfl rfl (sw_true rfl rfl rfl (by decide +kernel)) (pi_list (pv 0)) (blkOk_by (N := N_echelon_pairs) (sc := defScope st_echelon_pairs) (by decide +kernel)) (fun _ _ _ _ _ => (pg_name (i := 8) sc_echelon_pairs.nd rfl (.inl rfl))) (fun _ _ _ _ _ => pts_nil) (fun _ _ _ _ _ => (pe_callTy (show CallR _ (.type "list") (rListQ K) from call_list_of) (by rfl) (f_list T) bt_list (pa_cons (pv 8) pa_nil))))
      (pss_cons (ps_set (i := 3) sc_echelon_pairs.nd rfl (.inl rfl) (pe_lst pa_nil))
      (pss_cons (ps_set (i := 4) sc_echelon_pairs.nd rfl (.inl rfl) (pe_lst pa_nil))
      (pss_cons (ps_for PassesOwn.never rfl (pi_range1 (by rfl) (f_range T) (pa_cons (pv 1) pa_nil)) (pg_name (i := 5) sc_echelon_pairs.nd rfl (.inl rfl))
      (pss_cons (ps_set (i := 6) sc_echelon_pairs.nd rfl (.inl rfl) pe_non)
      (pss_cons (ps_for PassesOwn.never rfl (pi_enum (by rfl) (f_enumerate T) (pa_cons (pv 2) pa_nil)) (pg_tup (by rfl) (pgs_cons (pg_name (i := 7) sc_echelon_pairs.nd rfl (.inl rfl)) (pgs_cons (pg_name (i := 8) sc_echelon_pairs.nd rfl (.inl rfl)) pgs_nil)))
      (pss_one (ps_if (pt_cmpR op_ne (pe_ix ix_lt (pv 8) (pv 5) (fun _ _ => rfl)) pe_int (nomark _))
      (pss_cons (ps_set (i := 6) sc_echelon_pairs.nd rfl (.inl rfl) (pv 7))
      (pss_one ps_break))
      pss_nil)))
      (pss_cons (ps_if (pt_cmpR op_isN (pv 6) pe_non (nomark _))
      (pss_one ps_continue)
      pss_nil)
      (pss_cons (ps_set (i := 9) sc_echelon_pairs.nd rfl (.inl rfl) (pe_bm PySem.F.plainAttrs_list PySem.F.slot_list_pop PySem.F.type_list_pop mt_popAt (pv 2) (pa_cons (pv 6) pa_nil)))
      (pss_cons (ps_set (i := 2) sc_echelon_pairs.nd rfl (.inl rfl) (pe_call (ok_cleared_rows T) hr (by rfl) (g_cleared_rows T) (fn_cleared_rows T).kp (b_cleared_rows T) .nil pass0 (pa_cons (pv 2) (pa_cons (pv 9) (pa_cons (pv 5) pa_nil)))))
      (pss_cons (ps_set (i := 3) sc_echelon_pairs.nd rfl (.inl rfl) (pe_call (ok_cleared_rows T) hr (by rfl) (g_cleared_rows T) (fn_cleared_rows T).kp (b_cleared_rows T) .nil pass0 (pa_cons (pv 3) (pa_cons (pv 9) (pa_cons (pv 5) pa_nil)))))
      (pss_cons (ps_expr (pe_bm PySem.F.plainAttrs_list PySem.F.slot_list_append PySem.F.type_list_append mt_append (pv 3) (pa_cons (pv 9) pa_nil)))
      (pss_one (ps_expr (pe_bm PySem.F.plainAttrs_list PySem.F.slot_list_append PySem.F.type_list_append mt_append (pv 4) (pa_cons (pv 5) pa_nil))))))))))))
      (pss_one (ps_ret (pe_listZip rfl (by rfl) (f_list T) (by rfl) (f_zip T) (pa_cons (pv 3) (pa_cons (pv 4) pa_nil))))))))), ?_⟩
    refine ⟨_, rfl, a, rfl, ⟨_, SqL.of (hS _ _ ha)⟩, lcP (walk_list (xs := vs)) (by rw [hv.len]; omega) (fun i acc S' => All2 (lI S') acc (rows.take i)) (Ext.refl hS) .nil
      (fun _ _ _ _ _ e _ => SqL.of (e.i _ _ (e.s _ _ ha))) (fun i x acc S2 H2 H3 Kt Kf hi e p ⟨e4, e5⟩ kt kf => ?_) fun d acc S2 H2 hd e hs he _ p => ?_⟩
    · subst e4
      obtain ⟨row, f1, f2⟩ := hv.get e5
      have f3 := sI_m _ _ _ _ e.s f2
      have fin : ∀ ra, x = .ref ra → S2 ra = some (.lst (row.map V.int)) ∨ S2 ra = some (.tup (row.map V.int)) → ∀ l, H3 l = none → Kt (.ref l) (upd H3 l (.lst (row.map V.int))) := fun ra _ _ l hl => by
        refine kt _ (upd S2 l (.lst (row.map V.int))) _ ((Ext.refl e.i).new hl) ?_
        rw [take_get f1]
        exact (p.mono lI_m (same_upd (none_of_same e.i hl))).snoc ⟨l, rfl, upd_same⟩
      refine ⟨rfl, ?_⟩
      rcases f3 with ⟨ra, rfl, hra⟩ | ⟨ra, rfl, hra⟩
      · exact ⟨_, rfl, ra, _, rfl, .inl (SqL.of (e.i _ _ hra)), fin ra rfl (.inl hra)⟩
      · exact ⟨_, rfl, ra, _, rfl, .inr (SqT.of (e.i _ _ hra)), fin ra rfl (.inr hra)⟩
    · rw [take_all hv.len] at p
      refine ⟨Nat.zero_le _, fun p3 h3 => ⟨Nat.zero_le _, fun p4 h4 => ?_⟩⟩
      have n3 := e.none1 h3
      have e3 := e.newM (o := .lst []) h3
      have n4 := e3.none1 h4
      have e4 := e3.newM (o := .lst []) h4
      have d3 : d ≠ p3 := ne_of_none he h3
      have d4 : d ≠ p4 := ne_of_none ((upd_ne d3).trans he) h4
      have d34 : p3 ≠ p4 := ne_of_none upd_same h4
      refine ⟨_, rfl, (wd : Int), rfl, by omega, by omega, forE (σ := [some (.ref a), some (.int (wd : Int)), some (.ref d), some (.ref p3), some (.ref p4), none, none, none, none, none]) walk0 (EcI H (.ref a) wd rows) e4 ?_ (fun _ _ _ _ _ _ _ => trivial) (fun i x σ S5 H5 H6 hi e5 p5 hy => ?_) fun σ S5 H5 e5 p5 => ?_⟩
      · refine ⟨d, p3, p4, acc, [], none, none, none, none, none, rfl, d3, d4, d34, hd, n3, n4, hs, none_of_same e.i h3, none_of_same e3.i h4, ?_, ?_, ?_, p, .nil⟩
        · rw [upd_ne d4, upd_ne d3]; exact he
        · rw [upd_ne d34, upd_same]
        · rw [upd_same]; rfl
      · obtain ⟨l, dd, kk, lv, dv, x5, x6, x7, x8, x9, rfl, ne1, ne2, ne3, nl, nd, nk, sl, sd, sk, hl5, hd5, hk5, al, ad⟩ := p5
        obtain ⟨rfl, rfl⟩ := hy
        have ok := ech_ok hr2 i
        have hi' : i < wd := by omega
        have lvl := al.len
        have sum := ok.sum
        refine ⟨_, rfl, l, lv, rfl, SqL.of hl5, forE (S0 := S5) (H0 := H6) (m := No) (σ := [some (.ref a), some (.int (wd : Int)), some (.ref l), some (.ref dd), some (.ref kk), some (.int (i : Int)), some .non, x7, x8, x9]) (walk_enum (xs := lv))
          (fun j σ S' H' => S' = S5 ∧ (∃ x7 x8, σ = [some (.ref a), some (.int (wd : Int)), some (.ref l), some (.ref dd), some (.ref kk), some (.int (i : Int)), some .non, x7, x8, x9]) ∧ ∀ t, t < j → ((echelon rows i).1.getD t []).getD i 0 = 0)
          (Ext.refl e5.i) ⟨rfl, ⟨_, _, rfl⟩, fun t ht => by omega⟩ (fun _ _ _ _ _ e6 _ => SqL.of (e6.h l _ (fun z => z) hl5)) (fun j x σ S7 H7 H8 hj e6 p6 hy => ?_) fun σ S7 H7 e6 p6 => ?_⟩
        · obtain ⟨rfl, ⟨y7, y8, rfl⟩, hz⟩ := p6
          obtain ⟨t, x', y', rfl, hT, rfl, g1, g2⟩ := hy
          cases g1
          obtain ⟨row, f1, f2⟩ := al.get g2
          obtain ⟨ra, rfl, hra⟩ := f2
          have jl : j < (echelon rows i).1.length := (List.getElem?_eq_some_iff.mp f1).1
          have jg : (echelon rows i).1.getD j [] = row := by rw [List.getD_eq_getElem?_getD, f1]; rfl
          obtain ⟨rl, rb⟩ := ok.left row (List.mem_of_getElem? f1)
          have e7 : Ext No S7 H6 S7 (upd H7 t (.tup [.int (j : Nat), .ref ra])) := e6.newM hT
          obtain ⟨x1, x2⟩ := int_ix (K := K) e7.i hra (show i < row.length by omega)
          refine ⟨t, _, rfl, SqT.of upd_same, rfl, _, _, rfl, _, _, rfl, rfl, ?_⟩
          refine ⟨_, rfl, _, rfl, .inl ⟨_, _, _, _, rfl, rfl, x1, x2, ?_⟩⟩
          refine ⟨rfl, _, rfl, ?_⟩
          rw [dV]
          refine ifN (fun z => ?_) fun z => ?_
          · refine ⟨_, rfl, ?_⟩
            refine ⟨_, rfl, rfl, _, rfl, iteF ?_⟩
            have e8 := (e5.trans e7).mut (o := .lst (lv.eraseIdx j)) (.inl nl) sl
            have hl7 := e7.h l _ (fun z => z) hl5
            refine ⟨_, rfl, .inl ⟨rfl, _, SqL.of hl7⟩, _, rfl, l, lv, (j : Int), j, _, rfl, rfl, hl7, by omega, by omega, seqIdx hj, g2, ?_⟩
            have e9 := e8.fix nl sl upd_same
            have hra9 : upd S7 l (.lst (lv.eraseIdx j)) ra = some (.lst (row.map V.int)) := by rw [upd_ne (ne_of_none hra sl)]; exact hra
            have al9 : All2 (lI (upd S7 l (.lst (lv.eraseIdx j)))) (lv.eraseIdx j) ((echelon rows i).1.eraseIdx j) := (al.erase j).mono lI_m (same_upd sl)
            have pl : (echelon rows i).2.2.length < min rows.length wd := by have := ok.le; omega
            have bnd : (b + 1) * 2 ^ (echelon rows i).2.2.length - 1 + ((b + 1) * 2 ^ (echelon rows i).2.2.length - 1) + 1 ≤ 9000 := by
              have h1 : (b + 1) * 2 ^ ((echelon rows i).2.2.length + 1) ≤ (b + 1) * 2 ^ (min rows.length wd) := Nat.mul_le_mul_left _ (Nat.pow_le_pow_right (by decide) pl)
              rw [Nat.pow_succ, ← Nat.mul_assoc] at h1
              omega
            have lle : ((echelon rows i).1.eraseIdx j).length ≤ 1000 := Nat.le_trans (List.length_eraseIdx_le ..) (by omega)
            refine ⟨_, rfl, _, rfl, _, rfl, _, _, _, _, row, i, _, _, n, rfl, e9.i, ⟨l, _, rfl, upd_same, al9⟩, ⟨ra, rfl, hra9⟩, fun r hr => ok.left r (List.mem_of_mem_eraseIdx hr), rl, hn, by omega, rb, bnd, lle, fun S10 H10 p10 vs10 e10 np10 sp10 hp10 al10 => ?_⟩
            have s10 : Same S7 S10 := (same_upd sl).trans e10.s
            have nd8 : (upd (upd H7 t (.tup [.int (j : Nat), .ref ra])) l (.lst (lv.eraseIdx j))) dd = some (.lst dv) := by rw [upd_ne ne1.symm]; exact e7.h dd _ (fun z => z) hd5
            have nk8 : (upd (upd H7 t (.tup [.int (j : Nat), .ref ra])) l (.lst (lv.eraseIdx j))) kk = some (.lst ((echelon rows i).2.2.map fun c : Nat => V.int c)) := by rw [upd_ne ne2.symm]; exact e7.h kk _ (fun z => z) hk5
            have sd10 : S10 dd = none := e10.n dd (ne_none nd8) (by rw [upd_ne ne1.symm]; exact sd)
            have sk10 : S10 kk = none := e10.n kk (ne_none nk8) (by rw [upd_ne ne2.symm]; exact sk)
            have hd10 := e10.h dd _ (fun z => z) nd8
            have hk10 := e10.h kk _ (fun z => z) nk8
            have e11 := e9.trans e10
            have np : H p10 = none := e9.none1 np10
            have e12 := e11.fix nd sd10 hd10
            have hra12 : upd S10 dd (.lst dv) ra = some (.lst (row.map V.int)) := same_upd sd10 _ _ (e10.s _ _ hra9)
            have dl : (echelon rows i).2.1.length ≤ 1000 := by have := ok.same; have := ok.le; omega
            have pd : p10 ≠ dd := (ne_of_none nd8 np10).symm
            have pk : p10 ≠ kk := (ne_of_none nk8 np10).symm
            refine ⟨_, rfl, _, rfl, _, rfl, _, _, _, _, row, i, _, _, n, rfl, e12.i, ⟨dd, _, rfl, upd_same, (ad.mono lI_m s10).mono lI_m (same_upd sd10)⟩, ⟨ra, rfl, hra12⟩, ok.done, rl, hn, by omega, rb, bnd, dl, fun S13 H13 p13 vs13 e13 np13 sp13 hp13 al13 => ?_⟩
            have e14 := e12.trans e13
            have sp14 : S13 p10 = none := e13.n p10 (ne_none hp10) (by rw [upd_ne pd]; exact sp10)
            have sk14 : S13 kk = none := e13.n kk (ne_none hk10) (by rw [upd_ne ne3.symm]; exact sk10)
            have hp14 := e13.h p10 _ (fun z => z) hp10
            have hk14 := e13.h kk _ (fun z => z) hk10
            have np14 : H p13 = none := e12.none1 np13
            have pp : p10 ≠ p13 := ne_of_none hp10 np13
            have kp : kk ≠ p13 := ne_of_none hk10 np13
            have l13 := al13.len
            have l13' : vs13.length ≤ 1000 := by
              rw [l13]; unfold clearedRows; rw [List.length_map]; exact dl
            refine ⟨_, rfl, .inl ⟨rfl, _, SqL.of hp13⟩, _, rfl, p13, vs13, .ref ra, rfl, rfl, hp13, szLt (by omega), ?_⟩
            have e15 := e14.mut (o := .lst (vs13 ++ [.ref ra])) (.inl np14) sp13
            have hk15 : upd H13 p13 (.lst (vs13 ++ [.ref ra])) kk = some (.lst ((echelon rows i).2.2.map fun c : Nat => V.int c)) := by rw [upd_ne kp]; exact hk14
            refine ⟨_, rfl, .inl ⟨rfl, _, SqL.of hk15⟩, _, rfl, kk, _, .int (i : Nat), rfl, rfl, hk15, szLt (by rw [List.length_map]; have := ok.le; omega), ?_⟩
            have e16 := e15.mut (o := .lst (((echelon rows i).2.2.map fun c : Nat => V.int c) ++ [.int (i : Nat)])) (.inl nk) sk14
            have fr := findRow_eq jl (fun t ht => hz t ht) (by rw [jg]; exact z)
            have es : echelon rows (i + 1) = (clearedRows ((echelon rows i).1.eraseIdx j) row i, clearedRows (echelon rows i).2.1 row i ++ [row], (echelon rows i).2.2 ++ [i]) := by rw [echelon_succ]; unfold echStep; rw [fr]; dsimp only; rw [jg]
            refine ⟨S13, e16, p10, p13, kk, vs10, vs13 ++ [.ref ra], _, _, _, _, _, rfl, pp, pk, kp.symm, np, np14, nk, sp14, sp13, sk14, ?_, ?_, ?_, ?_, ?_⟩
            · rw [upd_ne pk, upd_ne pp]; exact hp14
            · rw [upd_ne kp.symm, upd_same]
            · rw [upd_same, es, List.map_append]; rfl
            · rw [es]; exact (al10.mono lI_m (same_upd sd10)).mono lI_m e13.s
            · rw [es]; exact al13.snoc ⟨ra, rfl, e13.s _ _ hra12⟩
          · exact ⟨S7, e7, rfl, ⟨_, _, rfl⟩, fun t ht => by
              by_cases q2 : t < j
              · exact hz t q2
              · have : t = j := by omega
                rw [this, jg]; exact z⟩
        · obtain ⟨rfl, ⟨y7, y8, rfl⟩, hz⟩ := p6
          refine ⟨_, rfl, rfl, _, rfl, iteT ?_⟩
          have fn := findRow_nil (c := i) (left := (echelon rows i).1) fun t ht => hz t (by omega)
          have es : echelon rows (i + 1) = echelon rows i := by rw [echelon_succ]; unfold echStep; rw [fn]
          refine ⟨S7, e5.trans e6, l, dd, kk, lv, dv, _, _, _, _, _, rfl, ne1, ne2, ne3, nl, nd, nk, sl, sd, sk, e6.h _ _ (fun z => z) hl5, e6.h _ _ (fun z => z) hd5, ?_, ?_, ?_⟩
          · rw [es]; exact e6.h _ _ (fun z => z) hk5
          · rw [es]; exact al
          · rw [es]; exact ad
      · obtain ⟨l, dd, kk, lv, dv, x5, x6, x7, x8, x9, rfl, ne1, ne2, ne3, nl, nd, nk, sl, sd, sk, hl5, hd5, hk5, al, ad⟩ := p5
        have ok := ech_ok hr2 wd
        refine ⟨_, rfl, _, rfl, dd, kk, dv, _, rfl, SqL.of hd5, SqL.of hk5, ?_, fun H' pp ts sm npp nts pts hpp tl hts => ?_⟩
        · rw [ad.len, List.length_map, ok.same]
        · have e6 : Ext No S H S5 H' := e5.trans ⟨Same.refl _, e5.i.trans sm, fun b o _ z => sm b o z, fun b z => by
            cases qq : H5 b with
            | none => exact absurd qq z
            | some o => rw [sm b o qq]; simp, fun _ _ z => z⟩
          obtain ⟨S6, e7, s7, f7⟩ := e6.all
          refine q S6 H' (.ref pp) e7 ⟨pp, _, rfl, f7 pp _ (e5.none1 npp) hpp, All2.of ?_ fun j x y h1 h2 => ?_⟩
          · unfold echelonPairs
            rw [List.length_map, List.length_zip, tl, ad.len, ok.same, Nat.min_self]
          · rw [List.getElem?_map] at h1
            cases ht : ts[j]? with
            | none => rw [ht] at h1; cases h1
            | some t =>
              rw [ht] at h1
              cases h1
              obtain ⟨u1, u2, g1, g2, g3⟩ := hts j t ht
              obtain ⟨r1, r2, r3⟩ := ad.get g1
              unfold echelonPairs at h2
              obtain ⟨z1, z2⟩ := List.getElem?_zip_eq_some.mp h2
              rw [List.getElem?_map, z2] at g2
              cases g2
              have : r1 = y.1 := Option.some.inj (r2.symm.trans z1)
              subst this
              exact ⟨t, u1, _, rfl, f7 t _ (e5.none1 (nts t (List.mem_of_getElem? ht))) g3, lI_m _ _ _ _ s7 r3, rfl⟩
end Th

/-! part D8 -/
namespace Th
open PySem PySem.Spec PyProof.Rows L2

theorem range_snoc {α : Type} (f : Nat → α) (i : Nat) : (List.range (i + 1)).map f = (List.range i).map f ++ [f i] := by rw [List.range_succ, List.map_append]; rfl
def sp_unit_row : Sp := fun vs H Q _ => ∃ S, ∃ m l : Nat, vs = [.int (m : Int), .int (l : Int)] ∧ Same S H ∧ m ≤ 1000 ∧ ∀ S' H' u, Ext No S H S' H' → tI S' u (unitRow m l) → Q u H'
theorem ok_unit_row {P : Program} {w : World} {K : PySem.W.Frag} {mg : Str → Option Value} {base : Heap} (T : Tx K mg) : FnOk P w K mg base CX0 1 A_unit_row (fdAt K A_unit_row) P_unit_row sp_unit_row := by
  refine (fn_unit_row T).ok sc_unit_row (fun vs H Q E h => ?_) (fun cdv A outer s H vs Q E hr h => ?_)
  · obtain ⟨S, m, l, rfl, _⟩ := h; rfl
  · obtain ⟨S, m, l, rfl, hS, hm, q⟩ := h
    refine ⟨_, PSs.nox (pss_one (ps_ret (pe_callTy call_tuple_of (by rfl) (f_tuple T) bt_tuple (pa_cons (pe_lc (own := [("at", 2)]) (g := gName 2) rfl sc_unit_row.nd (pi_range1 (by rfl) (f_range T) (pa_cons (pv 0) pa_nil)) (blkOk_by (N := N_unit_row) (sc := defScope st_unit_row) (by decide +kernel)) (fun _ _ _ _ _ => (pg_name (i := 2) sc_unit_row.nd rfl (.inl rfl))) (fun _ _ _ _ _ => pts_nil) (fun _ _ _ _ _ => (pe_ifExp (pt_cmpR op_eq (pv 2) (pv 1) (nomark _)) pe_int pe_int))) pa_nil)))), ?_⟩
    refine ⟨_, rfl, (m : Int), rfl, by omega, by omega, lcP (σ := [some (.int (m : Int)), some (.int (l : Int)), none]) walk0 (by omega) (fun i acc _ => acc = ((List.range i).map fun i => if i = l then (1 : Int) else 0).map V.int) (Ext.refl hS) rfl (fun _ _ _ _ _ _ _ => trivial) (fun i x acc S2 H2 H3 Kt Kf hi e p hy kt kf => ?_) fun d acc S2 H2 hd e hs he _ p => ?_⟩
    · obtain ⟨rfl, rfl⟩ := hy
      subst p
      have fin : ∀ n : Int, n = (if i = l then (1 : Int) else 0) → Kt (.int n) H3 := fun n hn => kt _ S2 _ (Ext.refl e.i) (by rw [range_snoc, List.map_append, hn]; rfl)
      refine ⟨rfl, _, rfl, _, rfl, rfl, _, rfl, ?_⟩
      rw [dV]
      exact ifD (fun z => fin 1 (by rw [if_pos (by omega)])) fun z => fin 0 (by rw [if_neg (by omega)])
    · exact ⟨d, acc, rfl, .inl ⟨SqL.of he, fun t ht => q _ _ _ (e.new ht) ⟨t, rfl, by rw [upd_same, p]; rfl⟩⟩⟩
def sp_few_answers : Sp := fun vs H Q _ => ∃ S v xs, vs = [v] ∧ Same S H ∧ tR tI S v xs ∧ xs.length ≤ 12 ∧ Q .non H
theorem ok_few_answers {P : Program} {w : World} {K : PySem.W.Frag} {mg : Str → Option Value} {base : Heap} (T : Tx K mg) : FnOk P w K mg base CX0 1 A_few_answers (fdAt K A_few_answers) P_few_answers sp_few_answers := by
  refine (fn_few_answers T).ok sc_few_answers (fun vs H Q E h => ?_) (fun cdv A outer s H vs Q E hr h => ?_)
  · obtain ⟨S, v, xs, rfl, _⟩ := h; rfl
  · obtain ⟨S, v, xs, rfl, hS, ⟨a, vs, rfl, ha, hv⟩, hl, q⟩ := h
    refine ⟨_, PSs.nox (pss_one (ps_if (pt_cmpR op_gt (pe_callB call_len_seq (by rfl) (f_len T) bt_len (pa_cons (pv 0) pa_nil)) (pe_glob (v := .int 12) (by rfl) (c_MOST_ANSWERS T).choose_spec ⟨_, rfl⟩) (nomark _))
      (pss_one ps_never)
      pss_nil)), ?_⟩
    have := hv.len
    refine ⟨_, rfl, a, vs, rfl, .inr (SqT.of (hS _ _ ha)), _, _, rfl, rfl, _, rfl, ifD (fun z => by omega) fun _ => q⟩
def sp_bordered_rows : Sp := fun vs H Q _ => ∃ S v rows, ∃ n : Nat, vs = [v] ∧ Same S H ∧ lR tI S v rows ∧ (∀ r ∈ rows, r.length = n) ∧ n ≤ 500 ∧ rows.length ≤ 400 ∧ ∀ S' H' u, Ext No S H S' H' → lR lI S' u (borderedRows rows) → Q u H'
theorem ok_bordered_rows {P : Program} {w : World} {K : PySem.W.Frag} {mg : Str → Option Value} {base : Heap} (T : Tx K mg) : FnOk P w K mg base CX0 1 A_bordered_rows (fdAt K A_bordered_rows) P_bordered_rows sp_bordered_rows := by
  refine (fn_bordered_rows T).ok sc_bordered_rows (fun vs H Q E h => ?_) (fun cdv A outer s H vs Q E hr h => ?_)
  · obtain ⟨S, v, rows, n, rfl, _⟩ := h; rfl
  · obtain ⟨S, v, rows, n, rfl, hS, ⟨a, vs, rfl, ha, hv⟩, hn, hn5, hl, q⟩ := h
    refine ⟨_, PSs.nox (pss_cons (ps_set (i := 1) sc_bordered_rows.nd rfl (.inl rfl) (pe_callB call_len_seq (by rfl) (f_len T) bt_len (pa_cons (pv 0) pa_nil)))
      (pss_cons (ps_set (i := 2) sc_bordered_rows.nd rfl (.inl rfl) (pe_lst pa_nil))
      (pss_cons (ps_for PassesOwn.never rfl (pi_enum (by rfl) (f_enumerate T) (pa_cons (pv 0) pa_nil)) (pg_tup (by rfl) (pgs_cons (pg_name (i := 3) sc_bordered_rows.nd rfl (.inl rfl)) (pgs_cons (pg_name (i := 4) sc_bordered_rows.nd rfl (.inl rfl)) pgs_nil)))
      (pss_cons (ps_set (i := 5) sc_bordered_rows.nd rfl (.inl rfl) (pe_op op_rep (pe_lst (pa_cons pe_int pa_nil)) (pe_op op_add (pv 1) pe_int)))
      (pss_cons (ps_asg pe_int (pg_sub (pv 5) (pv 3) set_list))
      (pss_one (ps_expr (pe_bm PySem.F.plainAttrs_list PySem.F.slot_list_append PySem.F.type_list_append mt_append (pv 2) (pa_cons (pe_op op_cat (pe_callTy call_list_of (by rfl) (f_list T) bt_list (pa_cons (pv 4) pa_nil)) (pv 5)) pa_nil)))))))
      (pss_one (ps_ret (pv 2)))))), ?_⟩
    have vl := hv.len
    refine ⟨_, rfl, a, vs, rfl, .inl (SqL.of (hS _ _ ha)), Nat.zero_le _, fun p3 h3 => ?_⟩
    have e3 := (Ext.refl (m := No) hS).newM (o := .lst []) h3
    refine ⟨_, rfl, a, vs, rfl, SqL.of (e3.i _ _ ha), forE (σ := [some (.ref a), some (.int (vs.length : Int)), some (.ref p3), none, none, none]) (walk_enum (xs := vs))
      (fun i σ S' H' => ∃ x3 x4 x5 acc, σ = [some (.ref a), some (.int (vs.length : Int)), some (.ref p3), x3, x4, x5] ∧ S' p3 = none ∧ H' p3 = some (.lst acc) ∧ All2 (lI S') acc ((List.range i).map fun i => rows.getD i [] ++ (List.replicate (rows.length + 1) 0).set i 1))
      e3 ⟨_, _, _, [], rfl, none_of_same hS h3, upd_same, .nil⟩ (fun _ _ _ _ _ e _ => SqL.of (e.i _ _ (e.s _ _ ha))) (fun i x σ S5 H5 H6 hi e5 p5 hy => ?_) fun σ S5 H5 e5 p5 => ?_⟩
    · obtain ⟨x3, x4, x5, acc, rfl, s3, hp3, al⟩ := p5
      obtain ⟨t, x', y', rfl, hT, rfl, g1, g2⟩ := hy
      cases g1
      obtain ⟨row, f1, f2⟩ := hv.get g2
      have e6 := (Ext.refl (m := No) e5.i).newM (o := .tup [.int (i : Nat), y']) hT
      have al6 := al.len
      rw [List.length_map, List.length_range] at al6
      obtain ⟨ra, rfl, hra⟩ := tI_m _ _ _ _ e5.s f2
      refine ⟨t, _, rfl, SqT.of upd_same, rfl, _, _, rfl, _, _, rfl, rfl, ?_⟩
      refine ⟨by decide, fun p7 h7 => ⟨_, rfl, _, _, rfl, rfl, p7, _, _, rfl, rfl, upd_same, by omega, by omega, ?_, fun p8 h8 => ?_⟩⟩
      · rw [show ((vs.length : Int) + 1).toNat = vs.length + 1 by omega]
        have := szLt (n := vs.length + 1) (by omega)
        show 1 * (vs.length + 1) ≤ _
        omega
      · rw [show ((vs.length : Int) + 1).toNat = vs.length + 1 by omega, flat1]
        have e7 := e6.newM (o := .lst [.int 0]) h7
        have e8 := e7.newM (o := .lst (List.replicate (vs.length + 1) (.int 0))) h8
        refine ⟨_, rfl, _, rfl, p8, _, (i : Int), i, rfl, rfl, upd_same, ixN_nat (by rw [List.length_replicate]; omega), ?_⟩
        have e9 := e8.mut (o := .lst ((List.replicate (vs.length + 1) (.int 0)).set i (.int 1))) (.inl (e7.none1 h8)) (none_of_same e7.i h8)
        have hp9 := e9.h p3 _ (fun z => z) hp3
        have h89 := upd_same (H := upd (upd (upd H5 t (.tup [.int (i : Nat), .ref ra])) p7 (.lst [.int 0])) p8 (.lst (List.replicate (vs.length + 1) (.int 0)))) (a := p8) (o := .lst ((List.replicate (vs.length + 1) (.int 0)).set i (.int 1)))
        refine ⟨_, rfl, .inl ⟨rfl, acc, SqL.of hp9⟩, _, rfl, ra, _, rfl, .inr (SqT.of (e9.i _ _ hra)), fun p10 h10 => ⟨_, rfl, p10, p8, _, _, rfl, rfl, upd_same, (upd_ne (ne_of_none h89 h10)).trans h89, ?_, fun p11 h11 => ?_⟩⟩
        · rw [List.length_map, List.length_set, List.length_replicate]
          have := hn row (List.mem_of_getElem? f1)
          exact Nat.le_of_lt (szLt (by omega))
        · have e10 := e9.newM (o := .lst (row.map V.int)) h10
          have e11 := e10.new (o := .lst (row.map V.int ++ (List.replicate (vs.length + 1) (.int 0)).set i (.int 1))) h11
          have s11 : upd S5 p11 (.lst (row.map V.int ++ (List.replicate (vs.length + 1) (.int 0)).set i (.int 1))) p3 = none := e11.n p3 (ne_none hp3) s3
          have hp11 := e11.h p3 _ (fun z => z) hp3
          refine ⟨p3, acc, _, rfl, rfl, hp11, szLt (by omega), ?_⟩
          refine ⟨_, (e5.trans e11).mut (.inl h3) s11, _, _, _, _, rfl, s11, upd_same, ?_⟩
          rw [range_snoc]
          refine (al.mono lI_m e11.s).snoc ⟨p11, rfl, ?_⟩
          rw [upd_same, List.getD_eq_getElem?_getD, f1, List.map_append, List.map_set, List.map_replicate, vl]; rfl
    · obtain ⟨x3, x4, x5, acc, rfl, s3, hp3, al⟩ := p5
      refine ⟨_, rfl, q _ _ _ (e5.fix h3 s3 hp3) ⟨p3, acc, rfl, upd_same, ?_⟩⟩
      rw [vl] at al
      exact al.mono lI_m (same_upd s3)
end Th

/-! part D9 -/
namespace Th
open PySem PySem.Spec PyProof.Rows L2

abbrev Pairs := List (List Int × Nat)
def pairsR : Rp Pairs := lR (pR lI rN)
theorem pair_at {S : Hp} {vs : List V} {xs : Pairs} {i : Nat} {v : V} (h : All2 (pR lI rN S) vs xs) (e : vs[i]? = some v) :
    ∃ t ra x, v = .ref t ∧ xs[i]? = some x ∧ S t = some (.tup [.ref ra, .int (x.2 : Nat)]) ∧ S ra = some (.lst (x.1.map V.int)) := by
  obtain ⟨x, f1, t, v1, v2, rfl, ht, ⟨ra, rfl, hra⟩, hv2⟩ := h.get e
  cases hv2
  exact ⟨t, ra, x, rfl, f1, ht, hra⟩
def sp_free_row : Sp := fun vs H Q _ => ∃ S v pairs, ∃ c n e : Nat, vs = [v, .int (c : Int), .int (n : Int)] ∧ Same S H ∧ pairsR S v pairs ∧ (∀ p ∈ pairs, p.1.length = n ∧ Bd e p.1 ∧ p.2 < n ∧ p.1.getD p.2 0 ≠ 0) ∧ c < n ∧ n ≤ 1000 ∧ pairs.length ≤ 1000 ∧ e * (pairs.length + 1) + 1 ≤ 8999 ∧
  ∀ S' H' u, Ext No S H S' H' → lI S' u (freeRow pairs c n) → Q u H'
theorem ok_free_row {P : Program} {w : World} {K : PySem.W.Frag} {mg : Str → Option Value} {base : Heap} (T : Tx K mg) : FnOk P w K mg base CX0 2 A_free_row (fdAt K A_free_row) P_free_row sp_free_row := by
  refine (fn_free_row T).ok sc_free_row (fun vs H Q E h => ?_) (fun cdv A outer s H vs Q E hr h => ?_)
  · obtain ⟨S, v, pairs, c, n, e, rfl, _⟩ := h; rfl
  · obtain ⟨S, v, pairs, c, n, e, rfl, hS, ⟨a, vs, rfl, ha, hv⟩, hp, hc, hn, hpl, hsz, q⟩ := h
    refine ⟨_, PSs.nox (pss_cons (ps_set (i := 3) sc_free_row.nd rfl (.inl rfl) pe_int)
      (pss_cons (ps_for PassesOwn.never rfl (pi_list (pv 0)) (pg_tup (by rfl) (pgs_cons (pg_name (i := 4) sc_free_row.nd rfl (.inl rfl)) (pgs_cons (pg_name (i := 5) sc_free_row.nd rfl (.inl rfl)) pgs_nil)))
      (pss_one (ps_set (i := 3) sc_free_row.nd rfl (.inl rfl) (pe_callBfun cr_lcm (by rfl) (g_lcm T) (pa_cons (pv 3) (pa_cons (pe_ix ix_list (pv 4) (pv 5) (fun _ _ => rfl)) pa_nil))))))
      (pss_cons (ps_set (i := 6) sc_free_row.nd rfl (.inl rfl) (pe_op op_rep (pe_lst (pa_cons pe_int pa_nil)) (pv 2)))
      (pss_cons (ps_asg (pv 3) (pg_sub (pv 6) (pv 1) set_list))
      (pss_cons (ps_for PassesOwn.never rfl (pi_list (pv 0)) (pg_tup (by rfl) (pgs_cons (pg_name (i := 4) sc_free_row.nd rfl (.inl rfl)) (pgs_cons (pg_name (i := 5) sc_free_row.nd rfl (.inl rfl)) pgs_nil)))
      (pss_one (ps_asg (pe_op op_mulW (pe_un un_neg (pe_ix ix_list (pv 4) (pv 1) (fun _ _ => rfl))) (pe_op op_fdivN (pv 3) (pe_ix ix_list (pv 4) (pv 5) (fun _ _ => rfl)))) (pg_sub (pv 6) (pv 5) set_list))))
      (pss_one (ps_ret (pe_call (ok_plain_row T) hr (by rfl) (g_plain_row T) (fn_plain_row T).kp (b_plain_row T) .nil pass0 (pa_cons (pv 6) pa_nil))))))))), ?_⟩
    have vl := hv.len
    have ele : e ≤ 8998 := by
      have : e * (pairs.length + 1) = e * pairs.length + e := by rw [Nat.mul_succ]
      omega
    have bd : ∀ k, k ≤ pairs.length → (scaleOf (pairs.take k)).natAbs < 2 ^ (1 + k * e) := scale_bd fun p h => (hp p h).2.1
    have ke : ∀ k, k ≤ pairs.length → 1 + k * e ≤ 8999 := fun k hk => by
      have h1 : k * e ≤ pairs.length * e := Nat.mul_le_mul_right _ hk
      have h2 : e * (pairs.length + 1) = pairs.length * e + e := by rw [Nat.mul_succ, Nat.mul_comm]
      omega
    refine ⟨_, rfl, a, rfl, ⟨_, SqL.of (hS _ _ ha)⟩, forE (σ := [some (.ref a), some (.int (c : Int)), some (.int (n : Int)), some (.int 1), none, none, none]) (walk_list (xs := vs))
      (fun i σ S' H' => ∃ x4 x5, σ = [some (.ref a), some (.int (c : Int)), some (.int (n : Int)), some (.int (scaleOf (pairs.take i))), x4, x5, none]) (Ext.refl (m := No) hS) ⟨_, _, rfl⟩
      (fun _ _ _ _ _ e _ => SqL.of (e.i _ _ (e.s _ _ ha))) (fun i x σ S5 H5 H6 hi e5 p5 hy => ?_) fun σ S5 H5 e5 p5 => ?_⟩
    · obtain ⟨x4, x5, rfl⟩ := p5
      obtain ⟨rfl, hx⟩ := hy
      obtain ⟨t, ra, pr, rfl, f1, ht, hra⟩ := pair_at hv hx
      obtain ⟨g1, g2, g3, g4⟩ := hp pr (List.mem_of_getElem? f1)
      have il : i < pairs.length := (List.getElem?_eq_some_iff.mp f1).1
      obtain ⟨x1, x2⟩ := int_ix (K := K) (e5.s.trans e5.i) hra (show pr.2 < pr.1.length by omega)
      refine ⟨t, _, rfl, SqT.of (e5.i _ _ (e5.s _ _ ht)), rfl, _, _, rfl, _, _, rfl, rfl, ?_⟩
      refine ⟨_, rfl, _, rfl, _, rfl, _, _, _, _, rfl, rfl, x1, x2, _, _, rfl, ?_, ?_, ?_⟩
      · exact Nat.lt_of_lt_of_le (bd i (by omega)) (Nat.pow_le_pow_right (by decide) (by have := ke i (by omega); omega))
      · exact Nat.lt_of_lt_of_le (g2.at_ _) (Nat.pow_le_pow_right (by decide) (by omega))
      · refine ⟨S5, e5, some (.ref ra), some (.int (pr.2 : Nat)), ?_⟩
        rw [take_get f1, scale_snoc]; rfl
    · obtain ⟨x4, x5, rfl⟩ := p5
      rw [take_all vl] 
      refine ⟨by decide, fun p7 h7 => ⟨_, rfl, p7, _, _, rfl, rfl, upd_same, by omega, by omega, ?_, fun p8 h8 => ?_⟩⟩
      · rw [Int.toNat_natCast]
        have := szLt (n := n) (by omega)
        show 1 * n ≤ _
        omega
      · rw [Int.toNat_natCast, flat1]
        have e7 := e5.newM (o := .lst [.int 0]) h7
        have e8 := e7.newM (o := .lst (List.replicate n (.int 0))) h8
        refine ⟨_, rfl, _, rfl, _, rfl, p8, _, (c : Int), c, rfl, rfl, upd_same, ixN_nat (by rw [List.length_replicate]; omega), ?_⟩
        have e9 := e8.mut (o := .lst ((List.replicate n (.int 0)).set c (.int (scaleOf pairs)))) (.inl (e7.none1 h8)) (none_of_same e7.i h8)
        have n8 : H p8 = none := e7.none1 h8
        have sc := bd pairs.length (Nat.le_refl _)
        rw [List.take_length] at sc
        have ke' := ke pairs.length (Nat.le_refl _)
        refine ⟨_, rfl, a, rfl, ⟨_, SqL.of (e9.i _ _ (e9.s _ _ ha))⟩, forE (σ := [some (.ref a), some (.int (c : Int)), some (.int (n : Int)), some (.int (scaleOf pairs)), x4, x5, some (.ref p8)]) (walk_list (xs := vs))
          (fun i σ S' H' => ∃ x4 x5, σ = [some (.ref a), some (.int (c : Int)), some (.int (n : Int)), some (.int (scaleOf pairs)), x4, x5, some (.ref p8)] ∧ S' p8 = none ∧ H' p8 = some (.lst (((pairs.take i).foldl (numStep (scaleOf pairs) c) ((List.replicate n 0).set c (scaleOf pairs))).map V.int)))
          e9 ⟨_, _, rfl, none_of_same e7.i h8, by rw [upd_same, List.take_zero, List.foldl_nil, List.map_set, List.map_replicate]⟩
          (fun _ _ _ _ _ e _ => SqL.of (e.i _ _ (e.s _ _ ha))) (fun i x σ S5 H5 H6 hi e5 p5 hy => ?_) fun σ S5 H5 e5 p5 => ?_⟩
        · obtain ⟨x4, x5, rfl, s8, hp8⟩ := p5
          obtain ⟨rfl, hx⟩ := hy
          obtain ⟨t, ra, pr, rfl, f1, ht, hra⟩ := pair_at hv hx
          obtain ⟨g1, g2, g3, g4⟩ := hp pr (List.mem_of_getElem? f1)
          have il : i < pairs.length := (List.getElem?_eq_some_iff.mp f1).1
          obtain ⟨x1, x2⟩ := int_ix (K := K) (e5.s.trans e5.i) hra (show pr.2 < pr.1.length by omega)
          obtain ⟨y1, y2⟩ := int_ix (K := K) (e5.s.trans e5.i) hra (show c < pr.1.length by omega)
          refine ⟨t, _, rfl, SqT.of (e5.i _ _ (e5.s _ _ ht)), rfl, _, _, rfl, _, _, rfl, rfl, ?_⟩
          refine ⟨_, rfl, _, rfl, _, _, _, _, rfl, rfl, y1, y2, ?_⟩
          have fq : ((scaleOf pairs).fdiv (pr.1.getD pr.2 0)).natAbs < 2 ^ (1 + pairs.length * e) := Nat.lt_of_le_of_lt (fdiv_le g4 (lead_dvd f1)) sc
          have mb : (-(pr.1.getD c 0)).natAbs < 2 ^ e := by rw [Int.natAbs_neg]; exact g2.at_ c
          have len1 : (((pairs.take i).foldl (numStep (scaleOf pairs) c) ((List.replicate n 0).set c (scaleOf pairs))).map V.int).length = n := by
            rw [List.length_map, nums_len, List.length_set, List.length_replicate]
          refine ⟨_, rfl, _, rfl, _, rfl, _, rfl, _, _, _, _, rfl, rfl, x1, x2, _, _, rfl, rfl, divN g4 (g2.at_ _) (by omega), _, _, rfl, rfl, mulW mb fq (by omega), ?_⟩
          refine ⟨_, rfl, _, rfl, p8, _, (pr.2 : Nat), pr.2, rfl, rfl, hp8, ixN_nat (by rw [len1]; exact g3), ?_⟩
          refine ⟨S5, e5.mut (.inl n8) s8, some (.ref ra), some (.int (pr.2 : Nat)), rfl, s8, ?_⟩
          rw [upd_same, take_get f1, List.foldl_append, ← List.map_set]; rfl
        · obtain ⟨x4, x5, rfl, s8, hp8⟩ := p5
          rw [take_all vl] at hp8
          have fx := e5.fix n8 s8 hp8
          have nb := nums_bd (sc := scaleOf pairs) (c := c) (e := e) (x := 1 + pairs.length * e) sc (pairs := pairs) (fun p hp' => ⟨(hp p hp').2.1, (hp p hp').2.2.2, by
            obtain ⟨k, hk⟩ := List.mem_iff_getElem?.mp hp'
            exact lead_dvd hk⟩) (ns := (List.replicate n 0).set c (scaleOf pairs)) ((Bd.zeros _ _).set c (Nat.lt_of_lt_of_le sc (Nat.pow_le_pow_right (by decide) (by omega))))
          have e2 : e + (1 + pairs.length * e) = e * (pairs.length + 1) + 1 := by rw [Nat.mul_succ, Nat.mul_comm e]; omega
          refine ⟨_, rfl, _, _, freeNums pairs c n, rfl, fx.i, ⟨p8, rfl, by rw [upd_same]; rfl⟩, nb.mono (by omega), ?_, fun S' H' u e10 hu => q S' H' u (fx.trans e10) hu⟩
          unfold freeNums
          rw [nums_len, List.length_set, List.length_replicate]; exact hn
end Th

/-! part DA -/
namespace Th
open PySem PySem.Spec PyProof.Rows L2

theorem lI_s {S : Hp} {v : V} {x : List Int} (h : lI S v x) : sI S v x := .inl h
theorem tI_s {S : Hp} {v : V} {x : List Int} (h : tI S v x) : sI S v x := .inr h
def sp_reduced_rows : Sp := fun vs H Q _ => ∃ S v rows, ∃ n b : Nat, vs = [v] ∧ Same S H ∧ lR lI S v rows ∧ (∀ r ∈ rows, r.length = n ∧ Bd b r) ∧ n ≤ 1000 ∧ rows.length ≤ 1000 ∧ (b + 1) * 2 ^ (min rows.length n) ≤ 9000 ∧
  ∀ S' H' u, Ext No S H S' H' → tR tI S' u (reducedRows rows) → Q u H'
theorem ifC {k : Bool} {ta : TE} {σ : L2.St} {H : Hp} {Q : VK} {x : V} (w0 : Nat) (main : Q (.int (w0 : Nat)) H) (h1 : k = true → ∀ Q : VK, Q (.int (w0 : Nat)) H → ta σ H Q) (h2 : k = false → x = .int (w0 : Nat)) : if k = true then ta σ H Q else tC x σ H Q := by
  cases k with
  | true => exact iteT (h1 rfl Q main)
  | false => rw [h2 rfl]; exact iteF main
theorem ok_reduced_rows {P : Program} {w : World} {K : PySem.W.Frag} {mg : Str → Option Value} {base : Heap} (T : Tx K mg) : FnOk P w K mg base CX0 5 A_reduced_rows (fdAt K A_reduced_rows) P_reduced_rows sp_reduced_rows := by
  refine (fn_reduced_rows T).ok sc_reduced_rows (fun vs H Q E h => ?_) (fun cdv A outer s H vs Q E hr h => ?_)
  · obtain ⟨S, v, rows, n, b, rfl, _⟩ := h; rfl
  · obtain ⟨S, v, rows, n, b, rfl, hS, ⟨a, vs, rfl, ha, hv⟩, hr2, hn, hl, hsz, q⟩ := h
    refine ⟨_, PSs.nox (pss_cons (ps_set (i := 1) sc_reduced_rows.nd rfl (.inl rfl) (pe_ifExp (pt_truK (pv 0) (by intro _; rfl)) (pe_callB call_len_seq (by rfl) (f_len T) bt_len (pa_cons (pe_ix ix_list (pv 0) pe_int (fun _ _ => rfl)) pa_nil)) pe_int))
      (pss_cons (ps_set (i := 2) sc_reduced_rows.nd rfl (.inl rfl) (pe_lst pa_nil))
      (pss_cons (ps_for PassesOwn.never rfl (pi_list (pe_call (ok_echelon_pairs T) hr (by rfl) (g_echelon_pairs T) (fn_echelon_pairs T).kp (b_echelon_pairs T) .nil pass0 (pa_cons (pv 0) (pa_cons (pv 1) pa_nil)))) (pg_tup (by rfl) (pgs_cons (pg_name (i := 3) sc_reduced_rows.nd rfl (.inl rfl)) (pgs_cons (pg_name (i := 4) sc_reduced_rows.nd rfl (.inl rfl)) pgs_nil)))
      (pss_cons (ps_set (i := 5) sc_reduced_rows.nd rfl (.inl rfl) (pe_call (ok_plain_row T) (hr.mono (by decide)) (by rfl) (g_plain_row T) (fn_plain_row T).kp (b_plain_row T) .nil pass0 (pa_cons (pv 3) pa_nil)))
      (pss_cons (ps_if (pt_cmpR op_lt (pe_ix ix_list (pv 5) (pv 4) (fun _ _ => rfl)) pe_int (nomark _))
      (pss_one (ps_setLc (i := 5) (own := [("number", 6)]) (g := gName 6) rfl sc_reduced_rows.nd rfl rfl (sw_true rfl rfl rfl (by decide +kernel)) (pi_list (pv 5)) (blkOk_by (N := N_reduced_rows) (sc := defScope st_reduced_rows) (by decide +kernel)) (fun _ _ _ _ _ => (pg_name (i := 6) sc_reduced_rows.nd rfl (.inl rfl))) (fun _ _ _ _ _ => pts_nil) (fun _ _ _ _ _ => (pe_un un_neg (pv 6)))))
      pss_nil)
      (pss_one (ps_expr (pe_bm PySem.F.plainAttrs_list PySem.F.slot_list_append PySem.F.type_list_append mt_append (pv 2) (pa_cons (pe_callTy call_tuple_of (by rfl) (f_tuple T) bt_tuple (pa_cons (pv 5) pa_nil)) pa_nil)))))))
      (pss_one (ps_ret (pe_callTy call_tuple_of (by rfl) (f_tuple T) bt_tuple (pa_cons (pv 2) pa_nil))))))), ?_⟩
    have vl := hv.len
    have wle : widthOf rows ≤ n := by
      cases rows with
      | nil => exact Nat.zero_le _
      | cons r l => exact Nat.le_of_eq (hr2 r (List.mem_cons_self ..)).1
    refine ⟨_, rfl, !vs.isEmpty, .inl ⟨vs, SqL.of (hS _ _ ha), rfl⟩, ?_⟩
    refine ifC (widthOf rows) ?_ (fun hk Q hq => ?_) (fun hk => ?_)
    · refine ⟨Nat.zero_le _, fun p3 h3 => ?_⟩
      have e3 := (Ext.refl (m := No) hS).newM (o := .lst []) h3
      refine ⟨_, rfl, _, rfl, S, _, rows, n, b, widthOf rows, rfl, e3.i, ⟨a, vs, rfl, ha, hv.mp fun _ _ h => lI_s h⟩, hr2, wle, hn, hl, ?_, fun S4 H4 u e4 hu => ?_⟩
      · exact Nat.le_trans (Nat.mul_le_mul_left _ (Nat.pow_le_pow_right (by decide) (by omega))) hsz
      · obtain ⟨pa, ps, rfl, hpa, hps⟩ := hu
        have e5 := e3.trans e4
        have s3 : S4 p3 = none := e4.n p3 (ne_none upd_same) (none_of_same hS h3)
        have hp3 := e4.h p3 _ (fun z => z) upd_same
        have po := pairs_ok hr2 (widthOf rows)
        have pl := hps.len
        refine ⟨pa, rfl, ⟨_, SqL.of (e4.i _ _ hpa)⟩, forE (σ := [some (.ref a), some (.int (widthOf rows : Nat)), some (.ref p3), none, none, none, none]) (walk_list (xs := ps))
          (fun i σ S' H' => ∃ x3 x4 x5 x6 acc, σ = [some (.ref a), some (.int (widthOf rows : Nat)), some (.ref p3), x3, x4, x5, x6] ∧ Same S4 S' ∧ S' p3 = none ∧ H' p3 = some (.lst acc) ∧ All2 (tI S') acc (((echelonPairs rows (widthOf rows)).take i).map fun p => signRow p.1 p.2))
          e5 ⟨_, _, _, _, [], rfl, Same.refl _, s3, hp3, .nil⟩ (fun _ _ _ _ _ e p => by obtain ⟨_, _, _, _, _, _, k, _⟩ := p; exact SqL.of (e.i _ _ (k _ _ hpa))) (fun i x σ S5 H5 H6 hi e6 p5 hy => ?_) fun σ S5 H5 e6 p5 => ?_⟩
        · obtain ⟨x3, x4, x5, x6, acc, rfl, sm, s8, hp8, al⟩ := p5
          obtain ⟨rfl, hx⟩ := hy
          obtain ⟨t, ra, pr, rfl, f1, ht, hra⟩ := pair_at hps hx
          obtain ⟨g1, g2, g3⟩ := po.row pr (List.mem_of_getElem? f1)
          have pb : (b + 1) * 2 ^ (echelonPairs rows (widthOf rows)).length ≤ (b + 1) * 2 ^ (min rows.length n) := Nat.mul_le_mul_left _ (Nat.pow_le_pow_right (by decide) (by have := po.len; omega))
          have ail := al.len
          have hra5 := sm _ _ hra
          rw [List.length_map, List.length_take] at ail
          have p1000 : (echelonPairs rows (widthOf rows)).length ≤ 1000 := by have := po.len; omega
          refine ⟨t, _, rfl, SqT.of (e6.i _ _ (sm _ _ ht)), rfl, _, _, rfl, _, _, rfl, rfl, ?_⟩
          refine ⟨_, rfl, S5, _, pr.1, rfl, e6.i, ⟨ra, rfl, hra5⟩, g2.mono (by omega), by omega, fun S7 H7 u e7 hu => ?_⟩
          obtain ⟨ua, rfl, hua⟩ := hu
          have plen : (plainRow pr.1).length = n := (plainRow_len _).trans g1
          obtain ⟨x1, x2⟩ := int_ix (K := K) e7.i hua (show pr.2 < (plainRow pr.1).length by omega)
          have e8 := e6.trans e7
          have s7 : S7 p3 = none := e7.n p3 (ne_none hp8) s8
          have hp7 := e7.h p3 _ (fun z => z) hp8
          have al7 := al.mono tI_m e7.s
          have fin : ∀ (S9 H9 : Hp) (t9 : Addr) x3 x4 x5 x6, Ext No S7 H7 S9 H9 → S9 t9 = some (.tup ((signRow pr.1 pr.2).map V.int)) → ∃ S' , Ext No S H S' (upd H9 p3 (.lst (acc ++ [.ref t9]))) ∧ ∃ y3 y4 y5 y6 acc', [some (.ref a), some (.int (widthOf rows : Nat)), some (.ref p3), x3, x4, x5, x6] = [some (V.ref a), some (.int (widthOf rows : Nat)), some (.ref p3), y3, y4, y5, y6] ∧ Same S4 S' ∧ S' p3 = none ∧ upd H9 p3 (.lst (acc ++ [.ref t9])) p3 = some (.lst acc') ∧ All2 (tI S') acc' (((echelonPairs rows (widthOf rows)).take (i + 1)).map fun p => signRow p.1 p.2) := fun S9 H9 t9 x3 x4 x5 x6 e9 ht9 => by
            have s9 := e9.n p3 (ne_none hp7) s7
            refine ⟨S9, (e8.trans e9).mut (.inl (Ext.none1 (Ext.refl (m := No) hS) h3)) s9, x3, x4, x5, x6, _, rfl, (sm.trans e7.s).trans e9.s, s9, upd_same, ?_⟩
            rw [take_get f1, List.map_append]
            exact (al7.mono tI_m e9.s).snoc ⟨t9, rfl, ht9⟩
          refine ⟨_, rfl, _, rfl, _, _, _, _, rfl, rfl, x1, x2, _, _, rfl, rfl, _, rfl, ifD (fun z => ?_) fun z => ?_⟩
          · have pml : ((plainRow pr.1).map V.int).length ≤ 1000000 := by rw [List.length_map, plen]; omega
            refine ⟨_, rfl, ua, rfl, ⟨_, SqL.of (e7.i _ _ hua)⟩, lcP (S0 := S7) (H0 := H7) (σ := [some (.ref a), some (.int (widthOf rows : Nat)), some (.ref p3), some (.ref ra), some (.int (pr.2 : Nat)), some (.ref ua), x6]) (walk_list (xs := (plainRow pr.1).map V.int)) pml
              (fun i acc _ => acc = ((plainRow pr.1).take i).map fun n => V.int (-n)) (Ext.refl e7.i) rfl (fun _ _ _ _ _ e _ => SqL.of (e.i _ _ (e.s _ _ hua))) (fun i x acc S2 H2 H3 Kt Kf hi e p hy kt kf => ?_) fun d acc9 S2 H2 hd e hs he _ p => ?_⟩
            · obtain ⟨rfl, hx⟩ := hy
              subst p
              obtain ⟨n1, f2, rfl⟩ := map_get hx
              refine ⟨rfl, _, rfl, _, rfl, ?_⟩
              exact kt _ S2 _ (Ext.refl e.i) (by rw [take_get f2, List.map_append]; rfl)
            · rw [take_all (by rw [List.length_map])] at p
              have hp2 := e.h p3 _ (fun z => z) hp7
              refine ⟨_, rfl, .inl ⟨rfl, _, SqL.of hp2⟩, _, rfl, d, _, rfl, .inl ⟨SqL.of he, fun t9 ht9 => ⟨p3, acc, _, rfl, rfl, ?_, szLt (by omega), ?_⟩⟩⟩
              · exact (upd_ne (ne_of_none hp2 ht9)).trans hp2
              · have := fin _ _ t9 (some (.ref ra)) (some (.int (pr.2 : Nat))) (some (.ref d)) x6 (e.new (o := .tup acc9) ht9) (by rw [upd_same, p]; unfold signRow; rw [if_pos z, List.map_map]; rfl)
                exact this
          · refine ⟨_, rfl, .inl ⟨rfl, _, SqL.of hp7⟩, _, rfl, ua, _, rfl, .inl ⟨SqL.of (e7.i _ _ hua), fun t9 ht9 => ⟨p3, acc, _, rfl, rfl, ?_, szLt (by omega), ?_⟩⟩⟩
            · exact (upd_ne (ne_of_none hp7 ht9)).trans hp7
            · have := fin _ _ t9 (some (.ref ra)) (some (.int (pr.2 : Nat))) (some (.ref ua)) x6 ((Ext.refl e7.i).new (o := .tup ((plainRow pr.1).map V.int)) ht9) (by rw [upd_same]; unfold signRow; rw [if_neg z])
              exact this
        · obtain ⟨x3, x4, x5, x6, acc, rfl, sm, s8, hp8, al⟩ := p5
          rw [take_all pl] at al
          refine ⟨_, rfl, p3, acc, rfl, .inl ⟨SqL.of hp8, fun t ht => q _ _ _ (e6.new ht) ⟨t, acc, rfl, upd_same, al.mono tI_m (same_upd (none_of_same e6.i ht))⟩⟩⟩
    · cases rows with
      | nil => cases hv; cases hk
      | cons r l =>
        cases hv with
        | cons r1 t =>
          obtain ⟨ra, rfl, hra⟩ := r1
          exact ⟨_, rfl, _, _, _, _, rfl, rfl, SqL.of (hS _ _ ha), atI_nat (j := 0) rfl, ra, _, rfl, .inl (SqL.of (hS _ _ hra)), by rw [List.length_map]; exact hq⟩
    · cases hv with
      | nil => rfl
      | cons r1 t => cases hk
end Th

/-! part DB -/
namespace Th
open PySem PySem.Spec PyProof.Rows L2

def sp_Weights_init : Sp := fun vs H Q _ => ∃ x r dx, vs = [.ref x, r] ∧ H x = some (.ins C_Weights dx []) ∧ Q .non (upd H x (.ins C_Weights dx [("row", r)]))
theorem ok_Weights_init {P : Program} {w : World} {K : PySem.W.Frag} {mg : Str → Option Value} {base : Heap} (T : Tx K mg) : FnOk P w K mg base CX0 1 A_Weights_init (fdAt K A_Weights_init) P_Weights_init sp_Weights_init := by
  refine (fn_Weights_init T).ok sc_Weights_init (fun vs H Q E h => ?_) (fun cdv A outer s H vs Q E hr h => ?_)
  · obtain ⟨x, r, dx, rfl, _⟩ := h; rfl
  · obtain ⟨x, r, dx, rfl, hx, q⟩ := h
    refine ⟨_, PSs.nox (pss_one (ps_fld (pv 0) (pv 1) rfl)), ?_⟩
    exact ⟨_, rfl, _, rfl, x, C_Weights, dx, [], rfl, hx, T.kW, T.nW "row" (by decide), by decide, q⟩
def sp_Lost_init : Sp := fun vs H Q _ => ∃ x r m dx, vs = [.ref x, r, m] ∧ H x = some (.ins C_Lost dx []) ∧ Q .non (upd (upd H x (.ins C_Lost dx [("answers", r)])) x (.ins C_Lost dx [("answers", r), ("numbers", m)]))
theorem ok_Lost_init {P : Program} {w : World} {K : PySem.W.Frag} {mg : Str → Option Value} {base : Heap} (T : Tx K mg) : FnOk P w K mg base CX0 1 A_Lost_init (fdAt K A_Lost_init) P_Lost_init sp_Lost_init := by
  refine (fn_Lost_init T).ok sc_Lost_init (fun vs H Q E h => ?_) (fun cdv A outer s H vs Q E hr h => ?_)
  · obtain ⟨x, r, m, dx, rfl, _⟩ := h; rfl
  · obtain ⟨x, r, m, dx, rfl, hx, q⟩ := h
    refine ⟨_, PSs.nox (pss_cons (ps_fld (pv 0) (pv 1) rfl)
      (pss_one (ps_fld (pv 0) (pv 2) rfl))), ?_⟩
    exact ⟨_, rfl, _, rfl, x, C_Lost, dx, [], rfl, hx, T.kL, T.nL "answers" (by decide), by decide, _, rfl, _, rfl, x, C_Lost, dx, _, rfl, upd_same, T.kL, T.nL "numbers" (by decide), (by show (1 : Nat) < 1000; decide), q⟩
theorem cut_lo {xs : List Int} {k : Nat} (h : k ≤ xs.length) : cutV (xs.map V.int) none (some (k : Int)) = (xs.take k).map V.int := by
  unfold cutV
  rw [HT.sIx_none, HT.sIx_nat, List.length_map, List.drop_zero, List.map_take, Nat.min_eq_left h, Nat.sub_zero]
theorem cut_mid {xs : List Int} {j k : Nat} (hj : j ≤ xs.length) (h : k ≤ xs.length) : cutV (xs.map V.int) (some (j : Int)) (some (k : Int)) = ((xs.drop j).take (k - j)).map V.int := by
  unfold cutV
  rw [HT.sIx_nat, HT.sIx_nat, List.length_map, List.map_take, List.map_drop, Nat.min_eq_left h, Nat.min_eq_left hj]
def sp_weights_in : Sp := fun vs H Q _ => ∃ S v w pairs row, ∃ m e : Nat, vs = [v, .int (m : Int), w] ∧ Same S H ∧ pairsR S v pairs ∧ tI S w row ∧ (∀ p ∈ pairs, p.1.length = row.length + m + 1 ∧ Bd e p.1 ∧ p.2 < row.length ∧ p.1.getD p.2 0 ≠ 0 ∧ p.1.getD (row.length + m) 0 = 0) ∧
  row.length + m ≤ 900 ∧ pairs.length ≤ 1000 ∧ Bd 1 row ∧ 1 + (pairs.length + 1) * (e + 1) ≤ 9000 ∧
  ∀ S' H' u, Ext No S H S' H' → (if noneIn pairs m row = true then u = .non else ∃ a, u = .ref a) → Q u H'
theorem ok_weights_in {P : Program} {w : World} {K : PySem.W.Frag} {mg : Str → Option Value} {base : Heap} (T : Tx K mg) : FnOk P w K mg base CX0 3 A_weights_in (fdAt K A_weights_in) P_weights_in sp_weights_in := by
  refine (fn_weights_in T).ok sc_weights_in (fun vs H Q E h => ?_) (fun cdv A outer s H vs Q E hr h => ?_)
  · obtain ⟨S, v, w, pairs, row, m, e, rfl, _⟩ := h; rfl
  · obtain ⟨S, v, w', pairs, row, m, eb, rfl, hS, ⟨a, vs, rfl, ha, hv⟩, ⟨ra, rfl, hra⟩, hp, hlen, hpl, hrow, hsz, q⟩ := h
    refine ⟨_, PSs.nox (pss_cons (ps_set (i := 3) sc_weights_in.nd rfl (.inl rfl) (pe_callB call_len_seq (by rfl) (f_len T) bt_len (pa_cons (pv 2) pa_nil)))
      (pss_cons (ps_set (i := 4) sc_weights_in.nd rfl (.inl rfl) (pe_op op_cat (pe_op op_cat (pe_callTy call_list_of (by rfl) (f_list T) bt_list (pa_cons (pv 2) pa_nil)) (pe_op op_rep (pe_lst (pa_cons pe_int pa_nil)) (pv 1))) (pe_lst (pa_cons pe_int pa_nil))))
      (pss_cons (ps_for PassesOwn.never rfl (pi_list (pv 0)) (pg_tup (by rfl) (pgs_cons (pg_name (i := 5) sc_weights_in.nd rfl (.inl rfl)) (pgs_cons (pg_name (i := 6) sc_weights_in.nd rfl (.inl rfl)) pgs_nil)))
      (pss_one (ps_if (pt_cmpR op_ne (pe_ix ix_list (pv 4) (pv 6) (fun _ _ => rfl)) pe_int (nomark _))
      (pss_one (ps_set (i := 4) sc_weights_in.nd rfl (.inl rfl) (pe_call (ok_cleared_row T) hr (by rfl) (g_cleared_row T) (fn_cleared_row T).kp (b_cleared_row T) .nil pass0 (pa_cons (pv 4) (pa_cons (pv 5) (pa_cons (pv 6) pa_nil))))))
      pss_nil)))
      (pss_cons (ps_if (pt_cmpR op_lt (pe_bm PySem.F.plainAttrs_list PySem.F.slot_list_count PySem.F.type_list_count mt_lcount (pe_slice sl_list (pv 4) po_none (po_some (pv 3))) (pa_cons pe_int pa_nil)) (pv 3) (nomark _))
      (pss_one (ps_ret pe_non))
      pss_nil)
      (pss_cons (ps_set (i := 7) sc_weights_in.nd rfl (.inr rfl) (pe_ix ix_list (pv 4) (pe_op op_add (pv 3) (pv 1)) (fun _ _ => rfl)))
      (pss_one (ps_ret (pe_make (mk_Weights T) (ok_Weights_init T) hr (by rfl) (g_Weights T) (b_Weights_init T) .nil pass0 (pa_cons (pe_callTy call_tuple_of (by rfl) (f_tuple T) bt_tuple (pa_cons (pe_lc (own := [("number", 8)]) (g := gName 8) rfl sc_weights_in.nd (pi_list (pe_slice sl_list (pv 4) (po_some (pv 3)) (po_some (pe_op op_add (pv 3) (pv 1))))) (blkOk_by (N := N_weights_in) (sc := defScope st_weights_in) (by decide +kernel)) (fun _ _ _ _ _ => (pg_name (i := 8) sc_weights_in.nd rfl (.inl rfl))) (fun _ _ _ _ _ => pts_nil) (fun _ _ _ _ _ => (pe_call (ok_make_ratio T) hr (by rfl) (g_make_ratio T) (fn_make_ratio T).kp (b0_make_ratio T) .nil pass0 (pa_cons (pe_un un_neg (pv 8)) (pa_cons (pv 7) pa_nil))))) pa_nil)) pa_nil))))))))), ?_⟩
    have vl := hv.len
    refine ⟨_, rfl, ra, _, rfl, .inr (SqT.of (hS _ _ hra)), ?_⟩
    rw [List.length_map]
    refine ⟨_, rfl, ra, _, rfl, .inr (SqT.of (hS _ _ hra)), fun p1 h1 => ⟨by decide, fun p2 h2 => ⟨_, rfl, p2, _, _, rfl, rfl, upd_same, by omega, by omega, ?_, fun p3 h3 => ?_⟩⟩⟩
    · rw [Int.toNat_natCast]
      have := szLt (n := m) (by omega)
      show 1 * m ≤ _
      omega
    · rw [Int.toNat_natCast, flat1]
      have e1 := (Ext.refl (m := No) hS).newM (o := .lst (row.map V.int)) h1
      have e2 := e1.newM (o := .lst [.int 0]) h2
      have e3 := e2.newM (o := .lst (List.replicate m (.int 0))) h3
      have k1 := (same_upd (o := .lst [.int 0]) h2) _ _ (upd_same (H := H) (a := p1) (o := .lst (row.map V.int)))
      have k2 := (same_upd (o := .lst (List.replicate m (.int 0))) h3) _ _ k1
      refine ⟨p1, p3, _, _, rfl, rfl, k2, upd_same, ?_, fun p4 h4 => ?_⟩
      · rw [List.length_map, List.length_replicate]; exact Nat.le_of_lt (szLt (by omega))
      · have e4 := e3.newM (o := .lst (row.map V.int ++ List.replicate m (.int 0))) h4
        refine ⟨by decide, fun p5 h5 => ⟨p4, p5, _, _, rfl, rfl, (same_upd h5) _ _ upd_same, upd_same, ?_, fun p6 h6 => ?_⟩⟩
        · rw [List.length_append, List.length_map, List.length_replicate]
          exact Nat.le_of_lt (szLt (by show row.length + m + 1 ≤ _; omega))
        have e5 := e4.newM (o := .lst [.int 1]) h5
        have tg : ((row.map V.int ++ List.replicate m (.int 0)) ++ [.int 1]) = (startOf m row).map V.int := by
          unfold startOf
          rw [List.map_append, List.map_append, List.map_replicate]; rfl
        have e6 := e5.new (o := .lst ((row.map V.int ++ List.replicate m (.int 0)) ++ [.int 1])) h6
        rw [tg] at e6 ⊢
        have sl : (startOf m row).length = row.length + m + 1 := by unfold startOf; rw [List.length_append, List.length_append, List.length_replicate]; rfl
        have sb : Bd 1 (startOf m row) := (hrow.app (Bd.zeros 1 m)).app (Bd.cons (by decide) Bd.nil)
        have tok := targetOf_ok (n := row.length + m + 1) (e := eb) (pairs := pairs) (fun p h => ⟨(hp p h).1, (hp p h).2.1⟩) sl sb
        refine ⟨_, rfl, a, rfl, ⟨_, SqL.of (e6.i _ _ (e6.s _ _ ha))⟩, forE (σ := [some (.ref a), some (.int (m : Int)), some (.ref ra), some (.int (row.length : Nat)), some (.ref p6), none, none, none, none]) (walk_list (xs := vs))
          (fun i σ S' H' => ∃ t x5 x6, σ = [some (.ref a), some (.int (m : Int)), some (.ref ra), some (.int (row.length : Nat)), some (.ref t), x5, x6, none, none] ∧ S' t = some (.lst ((targetOf (pairs.take i) (startOf m row)).map V.int)))
          e6 ⟨p6, _, _, rfl, by rw [upd_same]; rfl⟩ (fun _ _ _ _ _ e _ => SqL.of (e.i _ _ (e.s _ _ ha))) (fun i x σ S5 H5 H6 hi e7 p7 hy => ?_) fun σ S5 H5 e7 p7 => ?_⟩
        · obtain ⟨t, x5, x6, rfl, ht⟩ := p7
          obtain ⟨rfl, hx⟩ := hy
          obtain ⟨pt, la, pr, rfl, f1, hpt, hla⟩ := pair_at hv hx
          obtain ⟨g1, g2, g3, g4, g5⟩ := hp pr (List.mem_of_getElem? f1)
          have il : i < pairs.length := (List.getElem?_eq_some_iff.mp f1).1
          obtain ⟨t1, t2⟩ := tok i (by omega)
          obtain ⟨x1, x2⟩ := int_ix (K := K) e7.i ht (show pr.2 < (targetOf (pairs.take i) (startOf m row)).length by omega)
          refine ⟨pt, _, rfl, SqT.of (e7.i _ _ (e7.s _ _ hpt)), rfl, _, _, rfl, _, _, rfl, rfl, ?_⟩
          refine ⟨_, rfl, _, rfl, _, _, _, _, rfl, rfl, x1, x2, rfl, _, rfl, ?_⟩
          rw [dV]
          have ts := targetOf_snoc (pairs.take i) pr (startOf m row)
          rw [← take_get f1] at ts
          refine ifN (fun z => ?_) fun z => ?_
          · have ke : 1 + i * (eb + 1) + eb + 1 ≤ 9000 := by
              have h1 : (i + 1) * (eb + 1) ≤ (pairs.length + 1) * (eb + 1) := Nat.mul_le_mul_right _ (by omega)
              rw [Nat.succ_mul] at h1
              omega
            refine ⟨_, rfl, _, rfl, _, rfl, S5, _, _, _, pr.1, pr.2, _, eb, rfl, e7.i, ⟨t, rfl, ht⟩, ⟨la, rfl, e7.s _ _ hla⟩, by omega, by omega, by omega, z, t2, g2, ke, fun S8 H8 u e8 hu => ?_⟩
            obtain ⟨t8, rfl, ht8⟩ := hu
            refine ⟨S8, e7.trans e8, t8, some (.ref la), some (.int (pr.2 : Nat)), rfl, ?_⟩
            rw [ts, if_pos z]; exact ht8
          · refine ⟨S5, e7, t, some (.ref la), some (.int (pr.2 : Nat)), rfl, ?_⟩
            rw [ts, if_neg (fun y => y z)]; exact ht
        · obtain ⟨t, x5, x6, rfl, ht⟩ := p7
          rw [take_all vl] at ht
          obtain ⟨t1, t2⟩ := tok pairs.length (Nat.le_refl _)
          rw [List.take_length] at t1 t2
          have last := target_last (n := row.length + m + 1) (L := row.length + m) (pairs := pairs) (fun p h => ⟨(hp p h).1, (hp p h).2.2.2.1, (hp p h).2.2.2.2⟩) sl (by
            unfold startOf
            rw [List.getD_eq_getElem?_getD, List.getElem?_append_right (by rw [List.length_append, List.length_replicate]; exact Nat.le_refl _), List.length_append, List.length_replicate, Nat.sub_self]
            decide)
          have nn : noneIn pairs m row = decide (((targetOf pairs (startOf m row)).take row.length).count 0 < row.length) := rfl
          generalize targetOf pairs (startOf m row) = tgt at ht t1 t2 last nn ⊢
          refine ⟨_, rfl, _, rfl, (row.length : Nat), rfl, t, _, rfl, SqL.of (e7.i _ _ ht), fun p9 h9 => ?_⟩
          rw [cut_lo (by omega)]
          have e9 := (Ext.refl (m := No) e7.i).newM (o := .lst ((tgt.take row.length).map V.int)) h9
          refine ⟨.inl ⟨rfl, _, SqL.of upd_same⟩, p9, _, 0, rfl, rfl, SqL.of upd_same, _, rfl, _, _, rfl, rfl, _, rfl, ifD (fun z => ?_) fun z => ?_⟩
          · refine q _ _ _ (e7.trans e9) ?_
            rw [if_pos (by rw [nn]; exact decide_eq_true (by omega))]
          · have nf : ¬ (noneIn pairs m row = true) := by rw [nn]; intro y; have := of_decide_eq_true y; omega
            obtain ⟨y1, y2⟩ := int_ix (K := K) e9.i ht (show row.length + m < tgt.length by omega)
            rw [Int.natCast_add] at y2
            refine ⟨_, rfl, _, rfl, _, rfl, _, _, rfl, rfl, _, _, _, _, rfl, rfl, y1, y2, ?_⟩
            refine ⟨_, rfl, _, rfl, (row.length : Nat), rfl, _, rfl, _, rfl, _, _, rfl, rfl, ((row.length : Int) + (m : Int)), rfl, t, _, rfl, SqL.of (e9.i _ _ ht), fun p10 h10 => ?_⟩
            have e10 := e9.new (o := .lst (((tgt.drop row.length).take (row.length + m - row.length)).map V.int)) h10
            rw [show ((row.length : Int) + (m : Int)) = ((row.length + m : Nat) : Int) from (Int.natCast_add _ _).symm, cut_mid (by omega) (by omega)]
            refine ⟨p10, rfl, ⟨_, SqL.of upd_same⟩, lcP (σ := [some (.ref a), some (.int (m : Int)), some (.ref ra), some (.int (row.length : Nat)), some (.ref t), x5, x6, some (.int (tgt.getD (row.length + m) 0)), none]) (walk_list (xs := ((tgt.drop row.length).take (row.length + m - row.length)).map V.int)) ?_ (fun _ _ _ => True) (Ext.refl e10.i) trivial
              (fun _ _ _ _ _ e _ => SqL.of (e.i _ _ (e.s _ _ upd_same))) (fun i x acc S2 H2 H3 Kt Kf hi e p hy kt kf => ?_) fun d acc9 S2 H2 hd e hs he _ p => ?_⟩
            · rw [List.length_map, List.length_take]; omega
            · obtain ⟨rfl, hx⟩ := hy
              obtain ⟨n1, f2, rfl⟩ := map_get hx
              refine ⟨rfl, _, rfl, _, rfl, _, rfl, S2, -n1, _, rfl, e.i, last, ?_, fun S' H' v e2 hv => kt v S' H' e2 trivial⟩
              have kk : 1 + pairs.length * (eb + 1) ≤ 9000 := by rw [Nat.succ_mul] at hsz; omega
              exact Nat.lt_of_lt_of_le (t2.at_ _) (Nat.pow_le_pow_right (by decide) kk)
            · refine ⟨d, acc9, rfl, .inl ⟨SqL.of he, fun t9 ht9 x dx hx hdx hne => ?_⟩⟩
              have E3 := (((e7.trans e10).trans e).newM (o := .tup acc9) ht9)
              have E4 := E3.newM (o := .own x) hdx
              have hx' : upd (upd H2 t9 (.tup acc9)) dx (.own x) x = none := by rw [upd_ne hne.symm]; exact hx
              have E5 := E4.newM (o := .ins C_Weights dx []) hx'
              refine ⟨x, .ref t9, dx, rfl, upd_same, rfl, ?_⟩
              have E6 := E5.mut (o := .ins C_Weights dx [("row", .ref t9)]) (.inl (E4.none1 hx')) (none_of_same E4.i hx')
              refine q _ _ _ E6 ?_
              rw [if_neg nf]; exact ⟨x, rfl⟩
end Th

/-! part DC -/
namespace Th
open PySem PySem.Spec PyProof.Rows L2

def sp_weights_for : Sp := fun vs H Q _ => ∃ S v w rows row, ∃ b : Nat, vs = [v, w] ∧ Same S H ∧ lR tI S v rows ∧ tI S w row ∧ (∀ r ∈ rows, r.length = row.length ∧ Bd b r) ∧ 1 ≤ b ∧ row.length ≤ 400 ∧ rows.length ≤ 400 ∧ Bd 1 row ∧
  1 + (min rows.length row.length + 1) * ((b + 1) * 2 ^ (min rows.length row.length)) ≤ 9000 ∧
  ∀ S' H' u, Ext No S H S' H' → (if noneFor rows row = true then u = .non else ∃ a, u = .ref a) → Q u H'
theorem border_len (rows : List (List Int)) : (borderedRows rows).length = rows.length := by unfold borderedRows; rw [List.length_map, List.length_range]
theorem ok_weights_for {P : Program} {w : World} {K : PySem.W.Frag} {mg : Str → Option Value} {base : Heap} (T : Tx K mg) : FnOk P w K mg base CX0 5 A_weights_for (fdAt K A_weights_for) P_weights_for sp_weights_for := by
  refine (fn_weights_for T).ok sc_weights_for (fun vs H Q E h => ?_) (fun cdv A outer s H vs Q E hr h => ?_)
  · obtain ⟨S, v, w, rows, row, b, rfl, _⟩ := h; rfl
  · obtain ⟨S, v, w', rows, row, b, rfl, hS, ⟨a, vs, rfl, ha, hv⟩, ⟨ra, rfl, hra⟩, hr2, hb, hn, hm, hrow, hsz, q⟩ := h
    refine ⟨_, PSs.nox (pss_one (ps_ret (pe_call (ok_weights_in T) (hr.mono (by decide)) (by rfl) (g_weights_in T) (fn_weights_in T).kp (b_weights_in T) .nil pass0 (pa_cons (pe_call (ok_echelon_pairs T) hr (by rfl) (g_echelon_pairs T) (fn_echelon_pairs T).kp (b_echelon_pairs T) .nil pass0 (pa_cons (pe_call (ok_bordered_rows T) (hr.mono (by decide)) (by rfl) (g_bordered_rows T) (fn_bordered_rows T).kp (b_bordered_rows T) .nil pass0 (pa_cons (pv 0) pa_nil)) (pa_cons (pe_callB call_len_seq (by rfl) (f_len T) bt_len (pa_cons (pv 1) pa_nil)) pa_nil))) (pa_cons (pe_callB call_len_seq (by rfl) (f_len T) bt_len (pa_cons (pv 0) pa_nil)) (pa_cons (pv 1) pa_nil)))))), ?_⟩
    have vl := hv.len
    refine ⟨_, rfl, S, _, rows, row.length, rfl, hS, ⟨a, vs, rfl, ha, hv⟩, fun r hr => (hr2 r hr).1, by omega, by omega, fun S1 H1 u1 e1 hu1 => ?_⟩
    obtain ⟨b1, bs, rfl, hb1, hbs⟩ := hu1
    have bo := bordered_ok hr2 hb
    have bo' : ∀ r ∈ borderedRows rows, r.length = row.length + rows.length + 1 ∧ Bd b r := fun r hr => ⟨(bo r hr).1, (bo r hr).2.1⟩
    have po := pairs_ok bo' row.length
    have bl := border_len rows
    have mle : min (borderedRows rows).length row.length = min rows.length row.length := by rw [bl]
    have pw : (b + 1) * 2 ^ (min rows.length row.length) ≤ 9000 := by
      have h1 : 1 * ((b + 1) * 2 ^ (min rows.length row.length)) ≤ (min rows.length row.length + 1) * ((b + 1) * 2 ^ (min rows.length row.length)) := Nat.mul_le_mul_right _ (by omega)
      rw [Nat.one_mul] at h1
      omega
    refine ⟨_, rfl, ra, _, rfl, .inr (SqT.of (e1.i _ _ (e1.s _ _ hra))), ?_⟩
    rw [List.length_map]
    refine ⟨S1, _, borderedRows rows, _, b, row.length, rfl, e1.i, ⟨b1, bs, rfl, hb1, hbs.mp fun _ _ h => lI_s h⟩, bo', by omega, by omega, by omega, by rw [mle]; exact pw, fun S2 H2 u2 e2 hu2 => ?_⟩
    have e12 := e1.trans e2
    refine ⟨_, rfl, a, vs, rfl, .inl (SqL.of (e12.i _ _ (e12.s _ _ ha))), _, rfl, S2, u2, _, _, row, rows.length, (b + 1) * 2 ^ (echelonPairs (borderedRows rows) row.length).length - 1, ?_, e12.i.trans (Same.refl _), hu2, ⟨ra, rfl, e12.s _ _ hra⟩, fun p hp => ?_, by omega, ?_, hrow, ?_, fun S' H' u e3 hu => q S' H' u (e12.trans e3) hu⟩
    · rw [vl]; rfl
    · obtain ⟨g1, g2, g3⟩ := po.row p hp
      refine ⟨g1, g2, g3, po.red.1 p hp, ?_⟩
      exact pairs_zero bo' (fun r hr => (bo r hr).2.2) _ p hp
    · have := po.len; omega
    · have pl : (echelonPairs (borderedRows rows) row.length).length ≤ min rows.length row.length := by rw [← mle]; exact po.len
      have h1 : (b + 1) * 2 ^ (echelonPairs (borderedRows rows) row.length).length ≤ (b + 1) * 2 ^ (min rows.length row.length) := Nat.mul_le_mul_left _ (Nat.pow_le_pow_right (by decide) pl)
      have pos : 0 < (b + 1) * 2 ^ (echelonPairs (borderedRows rows) row.length).length := Nat.mul_pos (by omega) (Nat.two_pow_pos _)
      rw [Nat.sub_add_cancel pos]
      have h2 := Nat.mul_le_mul (Nat.succ_le_succ pl) h1
      have h3 : (min rows.length row.length).succ = min rows.length row.length + 1 := rfl
      rw [h3] at h2
      have h4 : (echelonPairs (borderedRows rows) row.length).length.succ = (echelonPairs (borderedRows rows) row.length).length + 1 := rfl
      rw [h4] at h2
      omega
def HbSz (b n m : Nat) : Prop := (b + 1) * 2 ^ (min m n) ≤ 9000 ∧ ∀ k, k ≤ min m n → (((b + 1) * 2 ^ k - 1) * (k + 1) + 2) * 2 ^ (n - k) ≤ 8999
def sp_hidden_basis : Sp := fun vs H Q _ => ∃ S v rows, ∃ n b : Nat, vs = [v, .int (n : Int)] ∧ Same S H ∧ lR tI S v rows ∧ (∀ r ∈ rows, r.length = n ∧ Bd b r) ∧ n ≤ 400 ∧ rows.length ≤ 400 ∧ HbSz b n rows.length ∧
  ∀ S' H' u, Ext No S H S' H' → tR tI S' u (hiddenBasis rows n) → Q u H'
theorem inV_nat {c : Nat} {l : List Nat} : inV (.int (c : Int)) (l.map fun c : Nat => V.int c) = decide (c ∈ l) := by
  unfold inV
  rw [List.any_map]
  by_cases h : c ∈ l
  · rw [decide_eq_true h]
    refine List.any_eq_true.mpr ⟨c, h, ?_⟩
    show ((c : Int) == (c : Int)) = true
    exact beq_self_eq_true _
  · rw [decide_eq_false h]
    refine List.any_eq_false.mpr fun x hx => ?_
    show ¬ (((x : Nat) : Int) == (c : Int)) = true
    intro z
    have : (x : Int) = c := eq_of_beq z
    have : x = c := by omega
    subst this; exact h hx
theorem flat_nats (l : List Nat) : (l.map fun c : Nat => V.int c).all flatV = true := by
  refine List.all_eq_true.mpr fun x hx => ?_
  obtain ⟨_, _, rfl⟩ := List.mem_map.mp hx
  rfl
theorem ok_hidden_basis {P : Program} {w : World} {K : PySem.W.Frag} {mg : Str → Option Value} {base : Heap} (T : Tx K mg) : FnOk P w K mg base CX0 6 A_hidden_basis (fdAt K A_hidden_basis) P_hidden_basis sp_hidden_basis := by
  refine (fn_hidden_basis T).ok sc_hidden_basis (fun vs H Q E h => ?_) (fun cdv A outer s H vs Q E hr h => ?_)
  · obtain ⟨S, v, rows, n, b, rfl, _⟩ := h; rfl
  · obtain ⟨S, v, rows, n, b, rfl, hS, ⟨a, vs, rfl, ha, hv⟩, hr2, hn, hm, ⟨hs1, hs2⟩, q⟩ := h
    refine ⟨_, PSs.nox (pss_cons (ps_set (i := 2) sc_hidden_basis.nd rfl (.inr rfl) (pe_call (ok_echelon_pairs T) (hr.mono (by decide)) (by rfl) (g_echelon_pairs T) (fn_echelon_pairs T).kp (b_echelon_pairs T) .nil pass0 (pa_cons (pv 0) (pa_cons (pv 1) pa_nil))))
      (pss_cons (ps_set (i := 3) sc_hidden_basis.nd rfl (.inr rfl) (pe_lc (own := [("row", 4), ("lead", 5)]) (g := gTup K 2 (gCons (gName 4) (gCons (gName 5) (gNil)))) rfl sc_hidden_basis.nd (pi_list (pv 2)) (blkOk_by (N := N_hidden_basis) (sc := defScope st_hidden_basis) (by decide +kernel)) (fun _ _ _ _ _ => (pg_tup (by rfl) (pgs_cons (pg_name (i := 4) sc_hidden_basis.nd rfl (.inl rfl)) (pgs_cons (pg_name (i := 5) sc_hidden_basis.nd rfl (.inl rfl)) pgs_nil)))) (fun _ _ _ _ _ => pts_nil) (fun _ _ _ _ _ => (pv 5))))
      (pss_one (ps_ret (pe_call (ok_reduced_rows T) hr (by rfl) (g_reduced_rows T) (fn_reduced_rows T).kp (b_reduced_rows T) .nil pass0 (pa_cons (pe_lc (own := [("column", 6)]) (g := gName 6) rfl sc_hidden_basis.nd (pi_range1 (by rfl) (f_range T) (pa_cons (pv 1) pa_nil)) (blkOk_by (N := N_hidden_basis) (sc := defScope st_hidden_basis) (by decide +kernel)) (fun _ _ _ _ _ => (pg_name (i := 6) sc_hidden_basis.nd rfl (.inl rfl))) (fun _ _ _ _ _ => (pts_one (pt_cmpR (show OpR _ (compareOp .NotIn) (rIn K true) from op_notIn_seq) (pv 6) (pv 3) (by rfl)))) (fun _ _ _ _ _ => (pe_call (ok_free_row T) (hr.mono (by decide)) (by rfl) (g_free_row T) (fn_free_row T).kp (b_free_row T) .nil pass0 (pa_cons (pv 2) (pa_cons (pv 6) (pa_cons (pv 1) pa_nil)))))) pa_nil)))))), ?_⟩
    have vl := hv.len
    refine ⟨_, rfl, _, rfl, S, _, rows, n, b, n, rfl, hS, ⟨a, vs, rfl, ha, hv.mp fun _ _ h => tI_s h⟩, hr2, Nat.le_refl _, by omega, by omega, hs1, fun S1 H1 u1 e1 hu1 => ?_⟩
    obtain ⟨p1, ps, rfl, hp1, hps⟩ := hu1
    have po := pairs_ok hr2 n
    have pl := hps.len
    have pln : (echelonPairs rows n).length ≤ n := by have := po.len; omega
    refine ⟨_, rfl, p1, rfl, ⟨_, SqL.of (e1.i _ _ hp1)⟩, lcP (S0 := S1) (H0 := H1) (σ := [some (.ref a), some (.int (n : Int)), some (.ref p1), none, none, none, none]) (walk_list (xs := ps)) (by omega)
      (fun i acc _ => acc = (((echelonPairs rows n).take i).map Prod.snd).map fun c : Nat => V.int c) (Ext.refl e1.i) rfl (fun _ _ _ _ _ e _ => SqL.of (e.i _ _ (e.s _ _ hp1))) (fun i x acc S2 H2 H3 Kt Kf hi e p hy kt kf => ?_) fun d acc S2 H2 hd e hs he _ p => ?_⟩
    · obtain ⟨rfl, hx⟩ := hy
      subst p
      obtain ⟨t, la, pr, rfl, f1, ht, hla⟩ := pair_at hps hx
      refine ⟨t, _, rfl, SqT.of (e.i _ _ (e.s _ _ ht)), rfl, _, _, rfl, _, _, rfl, rfl, wipe2 rfl rfl, _, rfl, ?_⟩
      exact kt _ S2 _ (Ext.refl e.i) (by rw [take_get f1, List.map_append, List.map_append]; rfl)
    · rw [take_all pl] at p
      have e2 := e.fix hd hs he (o := .lst acc)
      have e12 := e1.trans e2
      have hd2 : upd S2 d (.lst acc) d = some (.lst acc) := upd_same
      generalize upd S2 d (.lst acc) = S3 at e2 e12 hd2
      subst p
      refine ⟨_, rfl, (n : Int), rfl, by omega, by omega, lcP (S0 := S3) (H0 := H2) (σ := [some (.ref a), some (.int (n : Int)), some (.ref p1), some (.ref d), none, none, none]) walk0 (by omega)
        (fun i acc S' => All2 (lI S') acc (((List.range i).filter fun c => decide (c ∉ (echelonPairs rows n).map Prod.snd)).map fun c => freeRow (echelonPairs rows n) c n)) (Ext.refl e2.i) .nil (fun _ _ _ _ _ _ _ => trivial)
        (fun i x acc S4 H4 H5 Kt Kf hi e4 p4 hy kt kf => ?_) fun d5 acc5 S5 H5 hd5 e5 hs5 he5 _ p5 => ?_⟩
      · obtain ⟨rfl, rfl⟩ := hy
        refine ⟨rfl, _, rfl, _, rfl, d, _, rfl, .inl (SqL.of (e4.i _ _ (e4.s _ _ hd2))), rfl, flat_nats _, ?_⟩
        refine ⟨_, rfl, ?_⟩
        rw [inV_nat]
        have fl : ((List.range (i + 1)).filter fun c => decide (c ∉ (echelonPairs rows n).map Prod.snd)) = ((List.range i).filter fun c => decide (c ∉ (echelonPairs rows n).map Prod.snd)) ++ (if decide (i ∉ (echelonPairs rows n).map Prod.snd) = true then [i] else []) := by
          rw [List.range_succ, List.filter_append, List.filter_cons, List.filter_nil]
        have k14 : Same S1 S4 := e2.s.trans e4.s
        have kl := po.len
        refine ifN (fun z => ?_) fun z => ?_
        · have sz := hs2 (echelonPairs rows n).length kl
          have szl : ((b + 1) * 2 ^ (echelonPairs rows n).length - 1) * ((echelonPairs rows n).length + 1) + 2 ≤ 8999 := by
            have h1 : (((b + 1) * 2 ^ (echelonPairs rows n).length - 1) * ((echelonPairs rows n).length + 1) + 2) * 1 ≤ (((b + 1) * 2 ^ (echelonPairs rows n).length - 1) * ((echelonPairs rows n).length + 1) + 2) * 2 ^ (n - (echelonPairs rows n).length) := Nat.mul_le_mul_left _ (Nat.two_pow_pos _)
            omega
          refine ⟨_, rfl, _, rfl, _, rfl, S4, _, echelonPairs rows n, i, n, _, rfl, e4.i, ⟨p1, ps, rfl, k14 _ _ hp1, hps.mono (pR_m lI_m rN_m) k14⟩, fun p hp => ⟨(po.row p hp).1, (po.row p hp).2.1, (po.row p hp).2.2, po.red.1 p hp⟩, hi, by omega, by omega, by omega, fun S' H' u e6 hu => kt u S' H' e6 ?_⟩
          rw [fl, if_pos (decide_eq_true z), List.map_append]
          exact (p4.mono lI_m e6.s).snoc hu
        · refine kf S4 _ (Ext.refl e4.i) ?_
          rw [fl, if_neg (by rw [decide_eq_false (fun y => y z)]; decide), List.append_nil]
          exact p4
      · have fx := e5.fix hd5 hs5 he5
        have E6 := e12.trans fx
        have fc := free_count po.red fun p hp => (po.row p hp).2.2
        have kl := po.len
        have sz := hs2 (echelonPairs rows n).length kl
        generalize hF : ((List.range n).filter fun c => decide (c ∉ (echelonPairs rows n).map Prod.snd)) = F at p5 fc
        have hq : hiddenBasis rows n = reducedRows (F.map fun c => freeRow (echelonPairs rows n) c n) := by unfold hiddenBasis; rw [hF]
        have fr : ∀ r ∈ F.map (fun c => freeRow (echelonPairs rows n) c n), r.length = n ∧ Bd (((b + 1) * 2 ^ (echelonPairs rows n).length - 1) * ((echelonPairs rows n).length + 1) + 1) r := fun r hr => by
          obtain ⟨c, hc, rfl⟩ := List.mem_map.mp hr
          exact freeRow_ok po c
        refine ⟨_, _, F.map fun c => freeRow (echelonPairs rows n) c n, n, _, rfl, fx.i, ⟨d5, acc5, rfl, upd_same, p5.mono lI_m (same_upd hs5)⟩, fr, by omega, by rw [List.length_map]; omega, ?_, fun S' H' u e7 hu => q S' H' u (E6.trans e7) (by rw [hq]; exact hu)⟩
        rw [List.length_map]
        refine Nat.le_trans (Nat.mul_le_mul_left _ (Nat.pow_le_pow_right (by decide) (show min F.length n ≤ n - (echelonPairs rows n).length by omega))) ?_
        exact Nat.le_trans sz (by decide)
end Th

/-! part DD -/
namespace Th
open PySem PySem.Spec PyProof.Rows L2

def tN : Rp (List Nat) := fun S v ns => ∃ a, v = .ref a ∧ S a = some (.tup (ns.map fun n : Nat => V.int n))
theorem tN_m : MonoR tN := fun _ _ _ _ k ⟨a, e, h⟩ => ⟨a, e, k _ _ h⟩
def natL : Rp (List Nat) := fun S v ns => ∃ a, v = .ref a ∧ S a = some (.lst (ns.map fun n : Nat => V.int n))
def sp_lots_of : Sp := fun vs H Q _ => ∃ S v, ∃ n k : Nat, vs = [v, .int (k : Int)] ∧ Same S H ∧ natL S v (List.range n) ∧ n ≤ 12 ∧ k ≤ 12 ∧ ∀ S' H' u, Ext No S H S' H' → lR tN S' u (lotsOf (List.range n) k) → Q u H'
theorem lotStep_app (things : List Nat) (l k : List (List Nat)) : lotStep things (l ++ k) = lotStep things l ++ lotStep things k := by unfold lotStep; exact List.flatMap_append
def oneStep (things lot : List Nat) : List (List Nat) := (things.filter fun t => decide (lot = [] ∨ lot.getLastD 0 < t)).map fun t => lot ++ [t]
theorem lotStep_one (things lot : List Nat) : lotStep things [lot] = oneStep things lot := by unfold lotStep oneStep; rw [List.flatMap_cons, List.flatMap_nil, List.append_nil]
theorem oneStep_len (things lot : List Nat) : (oneStep things lot).length ≤ things.length := by unfold oneStep; rw [List.length_map]; exact List.length_filter_le _ _
theorem lotStep_len (things : List Nat) : ∀ l : List (List Nat), (lotStep things l).length ≤ l.length * things.length
  | [] => Nat.zero_le _
  | x :: l => by
    have h1 := lotStep_len things l
    have h2 := oneStep_len things x
    have e : lotStep things (x :: l) = oneStep things x ++ lotStep things l := by rw [← lotStep_one, ← lotStep_app]; rfl
    rw [e, List.length_append, List.length_cons, Nat.succ_mul]; omega
theorem lots_len (things : List Nat) : ∀ (k : Nat), ∀ lot ∈ lotsOf things k, lot.length = k
  | 0, lot, h => by rw [List.mem_singleton.mp h]; rfl
  | k + 1, lot, h => by
    obtain ⟨l, hl, h2⟩ := List.mem_flatMap.mp h
    obtain ⟨t, _, rfl⟩ := List.mem_map.mp h2
    rw [List.length_append, lots_len things k l hl]; rfl
theorem nat_get {l : List Nat} {i : Nat} {v : V} (h : (l.map fun n : Nat => V.int n)[i]? = some v) : ∃ n : Nat, l[i]? = some n ∧ v = .int (n : Int) := by
  rw [List.getElem?_map] at h
  cases e : l[i]? with
  | none => rw [e] at h; cases h
  | some n => rw [e] at h; cases h; exact ⟨n, rfl, rfl⟩
theorem oneStep_snoc {things : List Nat} {lot : List Nat} {j t : Nat} (h : things[j]? = some t) : oneStep (things.take (j + 1)) lot = oneStep (things.take j) lot ++ (if lot = [] ∨ lot.getLastD 0 < t then [lot ++ [t]] else []) := by
  unfold oneStep
  rw [take_get h, List.filter_append, List.map_append, List.filter_cons, List.filter_nil]
  by_cases c : lot = [] ∨ lot.getLastD 0 < t
  · rw [if_pos c, if_pos (decide_eq_true c)]; rfl
  · rw [if_neg c, if_neg (by rw [decide_eq_false c]; decide)]; rfl
theorem last_ix {lot : List Nat} (h : lot ≠ []) : atI (lot.map fun n : Nat => V.int n) (-1) = some (.int ((lot.getLastD 0 : Nat) : Int)) := by
  obtain ⟨l, x, rfl⟩ : ∃ l x, lot = l ++ [x] := ⟨_, _, (List.dropLast_concat_getLast h).symm⟩
  unfold atI ixN
  rw [if_neg (by decide), if_pos (by rw [List.length_map, List.length_append, List.length_singleton]; omega)]
  have e : ((-1 : Int) + (((l ++ [x]).map fun n : Nat => V.int n).length : Int)).toNat = l.length := by rw [List.length_map, List.length_append, List.length_singleton]; omega
  rw [e, Option.bind_some, List.getElem?_map, List.getElem?_append_right (Nat.le_refl _), Nat.sub_self, List.getLastD_concat]; rfl
theorem ok_lots_of {P : Program} {w : World} {K : PySem.W.Frag} {mg : Str → Option Value} {base : Heap} (T : Tx K mg) : FnOk P w K mg base CX0 1 A_lots_of (fdAt K A_lots_of) P_lots_of sp_lots_of := by
  refine (fn_lots_of T).ok sc_lots_of (fun vs H Q E h => ?_) (fun cdv A outer s H vs Q E hr h => ?_)
  · obtain ⟨S, v, n, k, rfl, _⟩ := h; rfl
  · obtain ⟨S, v, n, k, rfl, hS, ⟨a, rfl, ha⟩, hn, hk, q⟩ := h
    refine ⟨_, PSs.nox (pss_cons (ps_set (i := 2) sc_lots_of.nd rfl (.inl rfl) (pe_lst (pa_cons (pe_tup pa_nil) pa_nil)))
      (pss_cons (ps_for PassesOwn.never rfl (pi_range1 (by rfl) (f_range T) (pa_cons (pv 1) pa_nil)) (pg_name (i := 3) sc_lots_of.nd rfl (.inl rfl))
      (pss_one (ps_setLc2 (i := 2) (own := [("lot", 4), ("thing", 5)]) (vs1 := [5]) (g := gName 4) (g1 := gName 5) rfl sc_lots_of.nd rfl rfl (sw_true rfl rfl rfl (by decide +kernel)) (pi_list (pv 2)) (blkOk_by (N := N_lots_of) (sc := defScope st_lots_of) (by decide +kernel)) (by decide) (fun _ _ _ _ _ => (pg_name (i := 4) sc_lots_of.nd rfl (.inl rfl))) (fun _ _ _ _ _ => pts_nil) (fun _ _ _ _ _ => (show PI _ _ _ (iList K _) from pi_list (pv 0))) (fun _ _ _ _ _ => (pg_name (i := 5) sc_lots_of.nd rfl (.inl rfl))) (fun _ _ _ _ _ => (pts_one (PW.pt (pw_or (pt_not (show PT _ _ (tTru K _) from pt_truK (pv 4) (by intro _; rfl))) (pw_or1 (pt_cmpR op_gt (pv 5) (pe_ix (show IxR _ (rIxT K) from ix_tup) (pv 4) (pe_un un_neg pe_int) (fun _ _ => rfl)) (nomark _))))))) (fun _ _ _ _ _ => (pe_op (show OpR _ (binaryOp .Add) (rCatA K) from op_catA) (pv 4) (pe_tup (pa_cons (pv 5) pa_nil)))))))
      (pss_one (ps_ret (pv 2))))), ?_⟩
    refine ⟨Nat.zero_le _, fun p1 h1 => ⟨(by show (1 : Nat) ≤ sizeLine; decide), fun p2 h2 => ?_⟩⟩
    have e1 := (Ext.refl (m := No) hS).new (o := .tup []) h1
    have e2 := e1.new (o := .lst [.ref p1]) h2
    have z1 := ne_of_none (upd_same (H := H) (a := p1) (o := .tup [])) h2
    refine ⟨_, rfl, (k : Int), rfl, by omega, by omega, forE (σ := [some (.ref a), some (.int (k : Int)), some (.ref p2), none, none, none]) walk0
      (fun i σ S' H' => ∃ l vs x3 x4 x5, σ = [some (.ref a), some (.int (k : Int)), some (.ref l), x3, x4, x5] ∧ S' l = some (.lst vs) ∧ All2 (tN S') vs (lotsOf (List.range n) i))
      e2 ⟨p2, _, _, _, _, rfl, upd_same, .cons ⟨p1, rfl, by rw [upd_ne z1, upd_same]; rfl⟩ .nil⟩ (fun _ _ _ _ _ _ _ => trivial) (fun i0 x σ S5 H5 H6 hi0 e5 p5 hy => ?_) fun σ S5 H5 e5 p5 => ?_⟩
    · obtain ⟨l, vs, x3, x4, x5, rfl, hl, al⟩ := p5
      obtain ⟨rfl, rfl⟩ := hy
      have vlen : vs.length ≤ 924 := by rw [al.len]; exact lots_count hn (by omega)
      generalize hlots : lotsOf (List.range n) i0 = lots at al
      have lotsL := al.len
      refine ⟨_, rfl, l, rfl, ⟨_, SqL.of (e5.i _ _ hl)⟩, lc2P (S0 := S5) (H0 := H6) (σ := [some (.ref a), some (.int (k : Int)), some (.ref l), some (.int (i0 : Int)), x4, x5]) (walk_list (xs := vs)) (fun i acc S' => All2 (tN S') acc (lotStep (List.range n) (lots.take i))) (Ext.refl e5.i) .nil
        (fun _ _ _ _ _ e _ => SqL.of (e.i _ _ (e.s _ _ hl))) (fun i x acc S2 H2 H3 D Nx hi e p hy hd0 hsd hld kn => ?_) fun d acc S2 H2 hd e hs he p => ?_⟩
      · obtain ⟨rfl, hx⟩ := hy
        obtain ⟨lot, f1, la, rfl, hla⟩ := al.get hx
        refine ⟨rfl, _, rfl, a, rfl, ⟨_, SqL.of (e.i _ _ (e.s _ _ (e5.s _ _ ha)))⟩, inP (walk_list (xs := (List.range n).map fun n : Nat => V.int n)) (fun j acc S' => All2 (tN S') acc (lotStep (List.range n) (lots.take i) ++ oneStep ((List.range n).take j) lot)) ?_ e hd0 hsd hld ?_ ?_ (fun j y acc S4 H4 H5 Kt Kf hj e4 p4 hy4 kt kf => ?_) fun acc S4 H4 e4 s4 l4 p4 => ?_⟩
        · intro j acc S' p'
          rw [p'.len, List.length_append]
          have g1 := lotStep_len (List.range n) (lots.take i)
          have g2 := oneStep_len ((List.range n).take j) lot
          rw [List.length_take, List.length_range] at *
          have g3 : min i lots.length * n ≤ 924 * 12 := Nat.mul_le_mul (by omega) hn
          omega
        · exact (by rw [List.take_zero]; unfold oneStep; rw [List.filter_nil, List.map_nil, List.append_nil]; exact p)
        · exact fun _ _ _ _ _ e _ => SqL.of (e.i _ _ (e.s _ _ (e5.s _ _ ha)))
        · obtain ⟨rfl, hx4⟩ := hy4
          obtain ⟨t, f4, rfl⟩ := nat_get hx4
          have hla4 := e4.i _ _ (e4.s _ _ hla)
          have tail : (lot = [] ∨ lot.getLastD 0 < t) → tOp (rCatA K) (tVar 4) (tTup (tCons (tVar 5) tNil)) [some (V.ref a), some (.int (k : Int)), some (.ref l), some (.int (i0 : Int)), some (.ref la), some (.int (t : Int))] H5 Kt := fun hc => by
            have os : lotStep (List.range n) (lots.take i) ++ oneStep ((List.range n).take (j + 1)) lot = (lotStep (List.range n) (lots.take i) ++ oneStep ((List.range n).take j) lot) ++ [lot ++ [t]] := by rw [oneStep_snoc f4, if_pos hc, List.append_assoc]
            refine ⟨_, rfl, _, rfl, (by show (1 : Nat) ≤ sizeLine; decide), fun p6 h6 => ?_⟩
            have e6 := (Ext.refl (m := No) e4.i).new (o := .tup [.int (t : Int)]) h6
            have z6 := ne_of_none hla4 h6
            refine ⟨la, p6, _, _, rfl, rfl, SqT.of ((upd_ne z6).trans hla4), SqT.of upd_same, ?_, fun hn' => ?_, fun _ z => (by cases z), fun _ _ p7 h7 => ?_⟩
            · have := lots_len (List.range n) i0 lot (by rw [hlots]; exact List.mem_of_getElem? f1)
              rw [List.length_map, this]
              exact Nat.le_of_lt (szLt (by show i0 + 1 ≤ _; omega))
            · have l0 : lot = [] := List.map_eq_nil_iff.mp hn'
              refine kt _ _ _ e6 ?_
              rw [os]
              refine ((p4.mono tN_m e6.s).snoc ⟨p6, rfl, ?_⟩)
              rw [upd_same, l0]; rfl
            · refine kt _ _ _ (e6.new (o := .tup (lot.map (fun n : Nat => V.int n) ++ [.int (t : Int)])) h7) ?_
              rw [os]
              refine ((p4.mono tN_m ((e6.new h7).s)).snoc ⟨p7, rfl, ?_⟩)
              rw [upd_same, List.map_append]; rfl
          have skip : ¬ (lot = [] ∨ lot.getLastD 0 < t) → Kf H5 := fun hc => by
            refine kf S4 _ (Ext.refl e4.i) ?_
            rw [oneStep_snoc (lot := lot) f4, if_neg hc, List.append_nil]; exact p4
          refine ⟨rfl, _, rfl, !(lot.map fun n : Nat => V.int n).isEmpty, .inr (.inl ⟨_, SqT.of hla4, rfl⟩), ?_⟩
          by_cases hl0 : lot = []
          · subst hl0
            exact iteT (iteT (tail (.inl rfl)))
          · have ne : (lot.map fun n : Nat => V.int n).isEmpty = false := by
              cases lot with
              | nil => exact absurd rfl hl0
              | cons _ _ => rfl
            rw [ne]
            refine iteF ⟨_, rfl, _, rfl, _, rfl, _, _, _, _, rfl, rfl, SqT.of hla4, last_ix hl0, _, _, rfl, rfl, _, rfl, ifD (fun z => tail (.inr (by omega))) fun z => skip fun y => y.elim hl0 fun y => z (by omega)⟩
        · refine kn acc S4 H4 e4 s4 l4 ?_
          rw [take_get f1, lotStep_app, lotStep_one]
          rw [take_all (show ((List.range n).map fun n : Nat => V.int n).length = (List.range n).length from List.length_map ..)] at p4
          exact p4
      · rw [take_all (show vs.length = lots.length from lotsL)] at p
        have fx := e.fix hd hs he
        refine ⟨_, e5.trans fx, d, acc, _, _, _, rfl, upd_same, (by
          show All2 _ _ (lotStep (List.range n) (lotsOf (List.range n) i0))
          rw [hlots]; exact p.mono tN_m (same_upd hs))⟩
    · obtain ⟨l, vs, x3, x4, x5, rfl, hl, al⟩ := p5
      exact ⟨_, rfl, q _ _ _ e5 ⟨l, vs, rfl, hl, al⟩⟩
end Th

/-! part DE -/
namespace Th
open PySem PySem.Spec PyProof.Rows L2

theorem allLots_split (n m : Nat) : ∀ i, i ≤ m → ∃ rest, allLots n m = (List.range (i + 1)).flatMap (lotsOf (List.range n)) ++ rest := by
  induction m with
  | zero => intro i hi; have : i = 0 := by omega
            subst this; exact ⟨[], by rw [List.append_nil]; rfl⟩
  | succ m ih =>
    intro i hi
    by_cases h : i = m + 1
    · subst h; exact ⟨[], by rw [List.append_nil]; rfl⟩
    · obtain ⟨rest, e⟩ := ih i (by omega)
      refine ⟨rest ++ lotsOf (List.range n) (m + 1), ?_⟩
      have : allLots n (m + 1) = allLots n m ++ lotsOf (List.range n) (m + 1) := by
        unfold allLots
        rw [List.range_succ, List.flatMap_append, List.flatMap_cons, List.flatMap_nil, List.append_nil]
      rw [this, e, List.append_assoc]
theorem range_flat {f : Nat → List (List Nat)} (i : Nat) : (List.range (i + 1)).flatMap f = (List.range i).flatMap f ++ f i := by
  rw [List.range_succ, List.flatMap_append, List.flatMap_cons, List.flatMap_nil, List.append_nil]
theorem first_some {rows : List (List Int)} {unit : List Int} {n m i j : Nat} {lot : List Nat} (hi : i ≤ m) (hj : (lotsOf (List.range n) i)[j]? = some lot)
    (h0 : ∀ x ∈ (List.range i).flatMap (lotsOf (List.range n)) ++ (lotsOf (List.range n) i).take j, noneFor (keptRows rows x) unit = false) (h1 : noneFor (keptRows rows lot) unit = true) : firstIn rows unit (allLots n m) = some lot := by
  obtain ⟨rest, e⟩ := allLots_split n m i hi
  unfold firstIn
  have sp : lotsOf (List.range n) i = (lotsOf (List.range n) i).take j ++ lot :: (lotsOf (List.range n) i).drop (j + 1) := by
    obtain ⟨hl, he⟩ := List.getElem?_eq_some_iff.mp hj
    rw [← he, List.getElem_cons_drop, List.take_append_drop]
  have e2 : allLots n m = ((List.range i).flatMap (lotsOf (List.range n)) ++ (lotsOf (List.range n) i).take j) ++ lot :: ((lotsOf (List.range n) i).drop (j + 1) ++ rest) := by
    rw [e, range_flat]
    conv => lhs; rw [sp]
    simp only [List.append_assoc, List.cons_append]
  rw [e2]
  exact List.find?_eq_some_iff_append.mpr ⟨h1, _, _, rfl, fun a ha => by rw [h0 a ha]; rfl⟩
def sp_first_loss : Sp := fun vs H Q _ => ∃ S v rows, ∃ n l m b : Nat, vs = [v, .int (n : Int), .int (l : Int), .int (m : Int)] ∧ Same S H ∧ tR tI S v rows ∧ (∀ r ∈ rows, r.length = n ∧ Bd b r) ∧ 1 ≤ b ∧ n ≤ 400 ∧ rows.length ≤ 12 ∧
  1 + (min rows.length n + 1) * ((b + 1) * 2 ^ (min rows.length n)) ≤ 9000 ∧ ∀ S' H' u, Ext No S H S' H' → optR tN S' u (firstLoss rows n l m) → Q u H'
theorem unit_ok (n l : Nat) : (unitRow n l).length = n ∧ Bd 1 (unitRow n l) := by
  refine ⟨by unfold unitRow; rw [List.length_map, List.length_range], fun y hy => ?_⟩
  obtain ⟨i, _, rfl⟩ := List.mem_map.mp hy
  split <;> decide
theorem kept_ok {rows : List (List Int)} {p : List Int → Prop} (h : ∀ r ∈ rows, p r) (lot : List Nat) : (∀ r ∈ keptRows rows lot, p r) ∧ (keptRows rows lot).length ≤ rows.length := by
  refine ⟨fun r hr => ?_, ?_⟩
  · obtain ⟨i, hi, rfl⟩ := List.mem_map.mp hr
    exact h _ (getD_mem (List.mem_range.mp (List.mem_filter.mp hi).1))
  · unfold keptRows
    rw [List.length_map]
    exact Nat.le_trans (List.length_filter_le ..) (by rw [List.length_range]; exact Nat.le_refl _)
theorem ok_first_loss {P : Program} {w : World} {K : PySem.W.Frag} {mg : Str → Option Value} {base : Heap} (T : Tx K mg) : FnOk P w K mg base CX0 6 A_first_loss (fdAt K A_first_loss) P_first_loss sp_first_loss := by
  refine (fn_first_loss T).ok sc_first_loss (fun vs H Q E h => ?_) (fun cdv A outer s H vs Q E hr h => ?_)
  · obtain ⟨S, v, rows, n, l, m, b, rfl, _⟩ := h; rfl
  · obtain ⟨S, v, rows, n, l, m, b, rfl, hS, ⟨a, vs, rfl, ha, hv⟩, hr2, hb, hn, hrl, hsz, q⟩ := h
    refine ⟨_, PSs.nox (pss_cons (ps_set (i := 4) sc_first_loss.nd rfl (.inl rfl) (pe_call (ok_unit_row T) (hr.mono (by decide)) (by rfl) (g_unit_row T) (fn_unit_row T).kp (b_unit_row T) .nil pass0 (pa_cons (pv 1) (pa_cons (pv 2) pa_nil))))
      (pss_cons (ps_for PassesOwn.never rfl (pi_range1 (by rfl) (f_range T) (pa_cons (pe_op op_add (pe_callB (call_min2 rfl) (by rfl) (f_min T) bt_min (pa_cons (pv 3) (pa_cons (pe_callB call_len_seq (by rfl) (f_len T) bt_len (pa_cons (pv 0) pa_nil)) pa_nil))) pe_int) pa_nil)) (pg_name (i := 5) sc_first_loss.nd rfl (.inl rfl))
      (pss_one (ps_for PassesOwn.never rfl (pi_list (pe_call (ok_lots_of T) (hr.mono (by decide)) (by rfl) (g_lots_of T) (fn_lots_of T).kp (b_lots_of T) .nil pass0 (pa_cons (pe_listRg rfl (by rfl) (f_list T) (prg_1 (by rfl) (f_range T) (pe_callB call_len_seq (by rfl) (f_len T) bt_len (pa_cons (pv 0) pa_nil)))) (pa_cons (pv 5) pa_nil)))) (pg_name (i := 6) sc_first_loss.nd rfl (.inr rfl))
      (pss_cons (ps_setLc (i := 7) (own := [("answer", 8), ("row", 9)]) (g := gTup K 2 (gCons (gName 8) (gCons (gName 9) (gNil)))) rfl sc_first_loss.nd rfl rfl (sw_true rfl rfl rfl (by decide +kernel)) (pi_enumA (by rfl) (f_enumerate T) (pa_cons (pv 0) pa_nil)) (blkOk_by (N := N_first_loss) (sc := defScope st_first_loss) (by decide +kernel)) (fun _ _ _ _ _ => (pg_tup (by rfl) (pgs_cons (pg_name (i := 8) sc_first_loss.nd rfl (.inl rfl)) (pgs_cons (pg_name (i := 9) sc_first_loss.nd rfl (.inl rfl)) pgs_nil)))) (fun _ _ _ _ _ => (pts_one (pt_cmpR (show OpR _ (compareOp .NotIn) (rIn K true) from op_notIn_seq) (pv 8) (pv 6) (by rfl)))) (fun _ _ _ _ _ => (pv 9)))
      (pss_one (ps_if (pt_cmpR op_isN (pe_call (ok_weights_for T) hr (by rfl) (g_weights_for T) (fn_weights_for T).kp (b_weights_for T) .nil pass0 (pa_cons (pv 7) (pa_cons (pv 4) pa_nil))) pe_non (nomark _))
      (pss_one (ps_ret (pv 6)))
      pss_nil))))))
      (pss_one (ps_ret pe_non)))), ?_⟩
    have vl := hv.len
    refine ⟨_, rfl, _, rfl, S, n, l, rfl, hS, by omega, fun S1 H1 u1 e1 hu1 => ?_⟩
    obtain ⟨ua, rfl, hua⟩ := hu1
    obtain ⟨ul, ub⟩ := unit_ok n l
    have fl : firstLoss rows n l m = firstIn rows (unitRow n l) (allLots rows.length (min m rows.length)) := rfl
    generalize unitRow n l = unit at hua ul ub fl
    have mj : (if ((vs.length : Nat) : Int) < (m : Int) then ((vs.length : Nat) : Int) else (m : Int)) + 1 = ((min m rows.length + 1 : Nat) : Int) := by
      rw [vl]; split <;> omega
    refine ⟨_, rfl, _, rfl, a, vs, rfl, .inr (SqT.of (e1.i _ _ (e1.s _ _ ha))), _, _, rfl, _, _, rfl, rfl, ((min m rows.length + 1 : Nat) : Int), congrArg (fun z => [V.int z]) mj, by omega, by omega, forE (S0 := S) (H0 := H) (σ := [some (.ref a), some (.int (n : Int)), some (.int (l : Int)), some (.int (m : Int)), some (.ref ua), none, none, none, none, none]) walk0
      (fun i σ S' H' => ∃ x5 x6 x7 x8 x9, σ = [some (.ref a), some (.int (n : Int)), some (.int (l : Int)), some (.int (m : Int)), some (.ref ua), x5, x6, x7, x8, x9] ∧ Same S1 S' ∧ ∀ x ∈ (List.range i).flatMap (lotsOf (List.range rows.length)), noneFor (keptRows rows x) unit = false)
      e1 ⟨_, _, _, _, _, rfl, Same.refl _, fun x hx => by cases hx⟩ (fun _ _ _ _ _ _ _ => trivial) (fun i x σ S5 H5 H6 hi e5 p5 hy => ?_) fun σ S5 H5 e5 p5 => ?_⟩
    · obtain ⟨x5, x6, x7, x8, x9, rfl, sm, hz⟩ := p5
      obtain ⟨rfl, rfl⟩ := hy
      refine ⟨_, rfl, a, vs, rfl, .inr (SqT.of (e5.i _ _ (e5.s _ _ ha))), _, rfl, RgOk.of_le (by omega) (by omega) (by omega) (by omega), fun p1 h1 => ?_⟩
      rw [vl, rgV0]
      have e6 := (Ext.refl (m := No) e5.i).new (o := .lst ((List.range rows.length).map fun i : Nat => V.int i)) h1
      refine ⟨_, rfl, _, _, rows.length, i, rfl, e6.i, ⟨p1, rfl, upd_same⟩, hrl, by omega, fun S7 H7 u7 e7 hu7 => ?_⟩
      obtain ⟨la, ls, rfl, hla, hls⟩ := hu7
      have e67 := e6.trans e7
      have lsl := hls.len
      refine ⟨la, rfl, ⟨_, SqL.of (e7.i _ _ hla)⟩, forE (m := No) (S0 := S7) (H0 := H7) (σ := [some (.ref a), some (.int (n : Int)), some (.int (l : Int)), some (.int (m : Int)), some (.ref ua), some (.int (i : Int)), x6, x7, x8, x9]) (walk_list (xs := ls))
        (fun j σ S' H' => ∃ x6 x7 x8 x9, σ = [some (.ref a), some (.int (n : Int)), some (.int (l : Int)), some (.int (m : Int)), some (.ref ua), some (.int (i : Int)), x6, x7, x8, x9] ∧ ∀ x ∈ (List.range i).flatMap (lotsOf (List.range rows.length)) ++ (lotsOf (List.range rows.length) i).take j, noneFor (keptRows rows x) unit = false)
        (Ext.refl e7.i) ⟨_, _, _, _, rfl, fun x hx => by rw [List.take_zero, List.append_nil] at hx; exact hz x hx⟩ (fun _ _ _ _ _ e _ => SqL.of (e.i _ _ (e.s _ _ hla))) (fun j x σ S8 H8 H9 hj e8 p8 hy8 => ?_) fun σ S8 H8 e8 p8 => ?_⟩
      · obtain ⟨y6, y7, y8, y9, rfl, hz8⟩ := p8
        obtain ⟨rfl, hx8⟩ := hy8
        obtain ⟨lot, f8, lt, rfl, hlt⟩ := hls.get hx8
        have k8 : Same S S8 := (e5.s.trans e67.s).trans e8.s
        have hlt8 := e8.s _ _ hlt
        have fin : ∀ S9 H9' (y8 y9 : Option V) (kp : Addr), Ext No S8 H9 S9 H9' → noneFor (keptRows rows lot) unit = false → ∃ S', Ext No S7 H7 S' H9' ∧ ∃ z6 z7 z8 z9, [some (V.ref a), some (.int (n : Int)), some (.int (l : Int)), some (.int (m : Int)), some (.ref ua), some (.int (i : Int)), some (.ref lt), some (.ref kp), y8, y9] = [some (V.ref a), some (.int (n : Int)), some (.int (l : Int)), some (.int (m : Int)), some (.ref ua), some (.int (i : Int)), z6, z7, z8, z9] ∧ ∀ x ∈ (List.range i).flatMap (lotsOf (List.range rows.length)) ++ (lotsOf (List.range rows.length) i).take (j + 1), noneFor (keptRows rows x) unit = false := fun S9 H9' y8 y9 kp e9 hf => by
          refine ⟨S9, e8.trans e9, _, _, _, _, rfl, fun x hx => ?_⟩
          rw [take_get f8, ← List.append_assoc] at hx
          rcases List.mem_append.mp hx with hx | hx
          · exact hz8 x hx
          · rw [List.mem_singleton.mp hx]; exact hf
        refine ⟨_, rfl, a, vs, rfl, .inr ⟨SqT.of (e8.i _ _ (k8 _ _ ha)), lcP (S0 := S8) (H0 := H9) (σ := [some (.ref a), some (.int (n : Int)), some (.int (l : Int)), some (.int (m : Int)), some (.ref ua), some (.int (i : Int)), some (.ref lt), y7, y8, y9]) (walk_enumT (xs := vs)) (by omega)
          (fun j acc S' => All2 (tI S') acc (((List.range j).filter fun i => decide (i ∉ lot)).map fun i => rows.getD i [])) (Ext.refl e8.i) .nil (fun _ _ _ _ _ e _ => SqT.of (e.i _ _ (e.s _ _ (k8 _ _ ha)))) (fun j x acc S2 H2 H3 Kt Kf hj2 e p hy kt kf => ?_) fun d acc S2 H2 hd e hs he _ p => ?_⟩⟩
        · obtain ⟨t, x', y', rfl, hT, rfl, g1, g2⟩ := hy
          cases g1
          obtain ⟨row, f2, f3⟩ := hv.get g2
          have e2 := (Ext.refl (m := No) e.i).newM (o := .tup [.int (j : Nat), y']) hT
          refine ⟨t, _, rfl, SqT.of upd_same, rfl, _, _, rfl, _, _, rfl, rfl, wipe2 rfl rfl, _, rfl, _, rfl, lt, _, rfl, .inr (SqT.of (e2.i _ _ (e.s _ _ hlt8))), rfl, flat_nats _, _, rfl, ?_⟩
          rw [inV_nat]
          have fl : ((List.range (j + 1)).filter fun c => decide (c ∉ lot)) = ((List.range j).filter fun c => decide (c ∉ lot)) ++ (if decide (j ∉ lot) = true then [j] else []) := by
            rw [List.range_succ, List.filter_append, List.filter_cons, List.filter_nil]
          refine ifN (fun z => ?_) fun z => ?_
          · refine ⟨_, rfl, kt _ S2 _ e2 ?_⟩
            rw [fl, if_pos (decide_eq_true z), List.map_append]
            refine p.snoc ?_
            show tI S2 y' (rows.getD j [])
            rw [List.getD_eq_getElem?_getD, f2]
            exact tI_m _ _ _ _ (k8.trans e.s) f3
          · refine kf S2 _ e2 ?_
            rw [fl, if_neg (by rw [decide_eq_false (fun y => y z)]; decide), List.append_nil]
            exact p
        · have fx := e.fix hd hs he
          have p' : All2 (tI (upd S2 d (.lst acc))) acc (keptRows rows lot) := by
            rw [vl] at p; exact p.mono tI_m (same_upd hs)
          have hd2 : upd S2 d (.lst acc) d = some (.lst acc) := upd_same
          generalize upd S2 d (.lst acc) = S3 at fx p' hd2
          obtain ⟨ko, kl⟩ := kept_ok (rows := rows) (p := fun r => r.length = n ∧ Bd b r) hr2 lot
          have szk : 1 + (min (keptRows rows lot).length n + 1) * ((b + 1) * 2 ^ (min (keptRows rows lot).length n)) ≤ 9000 := by
            have c1 : min (keptRows rows lot).length n ≤ min rows.length n := by omega
            have c2 : (b + 1) * 2 ^ (min (keptRows rows lot).length n) ≤ (b + 1) * 2 ^ (min rows.length n) := Nat.mul_le_mul_left _ (Nat.pow_le_pow_right (by decide) c1)
            have c3 := Nat.mul_le_mul (Nat.succ_le_succ c1) c2
            have c4 : (min (keptRows rows lot).length n).succ = min (keptRows rows lot).length n + 1 := rfl
            have c5 : (min rows.length n).succ = min rows.length n + 1 := rfl
            rw [c4, c5] at c3
            omega
          refine ⟨_, rfl, _, rfl, S3, _, _, keptRows rows lot, unit, b, rfl, fx.i, ⟨d, acc, rfl, hd2, p'⟩, ⟨ua, rfl, fx.s _ _ (e8.s _ _ (e67.s _ _ (sm _ _ hua)))⟩, fun r hr => by rw [ul]; exact ko r hr, hb, by omega, by omega, ub, by rw [ul]; exact szk, fun S6 H6' u6 e6 hu6 => ?_⟩
          by_cases hnn : noneFor (keptRows rows lot) unit = true
          · rw [if_pos hnn] at hu6
            subst hu6
            refine ⟨rfl, _, rfl, iteT ⟨_, rfl, q S6 _ _ ((((e5.trans e67).trans e8).trans fx).trans e6) ?_⟩⟩
            rw [fl, first_some (by omega) f8 hz8 hnn]
            exact ⟨lt, rfl, e6.s _ _ (fx.s _ _ hlt8)⟩
          · rw [if_neg hnn] at hu6
            obtain ⟨wa, rfl⟩ := hu6
            refine ⟨rfl, _, rfl, iteF ?_⟩
            exact fin S6 _ _ _ d (fx.trans e6) (by cases h : noneFor (keptRows rows lot) unit with | true => exact absurd h hnn | false => rfl)
      · obtain ⟨y6, y7, y8, y9, rfl, hz8⟩ := p8
        rw [lsl, List.take_length, ← range_flat] at hz8
        exact ⟨S8, (e5.trans e67).trans e8, _, _, _, _, _, rfl, (sm.trans e67.s).trans e8.s, hz8⟩
    · obtain ⟨x5, x6, x7, x8, x9, rfl, sm, hz⟩ := p5
      refine q S5 _ _ e5 ?_
      have : firstIn rows unit (allLots rows.length (min m rows.length)) = none := by
        unfold firstIn
        refine List.find?_eq_none.mpr fun x hx => ?_
        rw [hz x hx]; decide
      rw [fl, this]; rfl
end Th

/-! part DF -/
namespace Th
open PySem PySem.Spec PyProof.Rows L2

abbrev Cell := Nat × Nat
def plC (c : Cell) : List Int := [(c.1 : Int), (c.2 : Int)]
theorem sI_ty {S H : Hp} {v : V} {x : List Int} (hS : Same S H) (h : sI S v x) : tyN H v = some "list" ∨ tyN H v = some "tuple" := by
  rcases h with ⟨a, rfl, ha⟩ | ⟨a, rfl, ha⟩
  · left; show tyO (H a) = _; rw [hS _ _ ha]; rfl
  · right; show tyO (H a) = _; rw [hS _ _ ha]; rfl
theorem sR_ty {α : Type} {R : Rp α} {S H : Hp} {v : V} {x : List α} (hS : Same S H) (h : sR R S v x) : tyN H v = some "list" ∨ tyN H v = some "tuple" := by
  rcases h with ⟨a, vs, rfl, ha, _⟩ | ⟨a, vs, rfl, ha, _⟩
  · left; show tyO (H a) = _; rw [hS _ _ ha]; rfl
  · right; show tyO (H a) = _; rw [hS _ _ ha]; rfl
theorem isSeq_t {H : Hp} {v : V} (h : tyN H v = some "list" ∨ tyN H v = some "tuple") : ∃ t, tyN H v = some t ∧ (t == "list" || t == "tuple") = true := by
  rcases h with h | h
  · exact ⟨_, h, rfl⟩
  · exact ⟨_, h, rfl⟩
theorem sI_ix {K : PySem.W.Frag} {S H : Hp} {v : V} {x : List Int} (hS : Same S H) (h : sI S v x) : ∃ a, v = .ref a ∧ (SqL K H a (x.map V.int) ∨ SqT K H a (x.map V.int)) := by
  rcases h with ⟨a, rfl, ha⟩ | ⟨a, rfl, ha⟩
  · exact ⟨a, rfl, .inl (SqL.of (hS _ _ ha))⟩
  · exact ⟨a, rfl, .inr (SqT.of (hS _ _ ha))⟩
theorem wh_t {n lo hi : Int} (h1 : lo ≤ n) (h2 : n ≤ hi) : wh (some lo) (some hi) (.int n) = true := by
  show (decide (lo ≤ n) && decide (n ≤ hi)) = true
  rw [decide_eq_true h1, decide_eq_true h2]; rfl
/-- tuple(x) of a list | tuple of ints -/
theorem tup_sI {K : PySem.W.Frag} {S H : Hp} {v : V} {x : List Int} {Q : VK} {σ : L2.St} {i : Nat} (hi : σ[i]? = some (some v)) (hS : Same S H) (h : sI S v x) (hQ : ∀ S' H' t, Ext No S H S' H' → S' t = some (.tup (x.map V.int)) → Q (.ref t) H') :
    tCB (rTupleQ K) (tCons (tVar i) tNil) σ H Q := by
  refine ⟨v, hi, ?_⟩
  rcases h with ⟨a, rfl, ha⟩ | ⟨a, rfl, ha⟩
  · exact ⟨a, _, rfl, .inl ⟨SqL.of (hS _ _ ha), fun l hl => hQ _ _ l ((Ext.refl hS).new hl) upd_same⟩⟩
  · exact ⟨a, _, rfl, .inr ⟨SqT.of (hS _ _ ha), hQ S H a (Ext.refl hS) ha⟩⟩
theorem tTest_run {te : TE} {σ : L2.St} {H : Hp} {Q : Bool → Hp → Prop} (h : te σ H fun x H' => ∃ k, x = .bl k ∧ Q k H') : tTest te σ H Q := h
theorem tOp_run {r : R2} {ta tb : TE} {σ : L2.St} {H : Hp} {Q : VK} (h : ta σ H fun x H1 => tb σ H1 fun y H2 => r x y H2 Q) : tOp r ta tb σ H Q := h
theorem tCons_run {ta : TE} {tr : TA} {σ : L2.St} {H : Hp} {Q : List V → Hp → Prop} (h : ta σ H fun x H1 => tr σ H1 fun xs H2 => Q (x :: xs) H2) : tCons ta tr σ H Q := h
theorem tRet_run {te : TE} {D : Ends} {σ : L2.St} {H : Hp} (h : te σ H D.rt) : tRet te D σ H := h
theorem and_no {u : TT} {σ : L2.St} {H : Hp} {Kb : Bool → Hp → Prop} {c : Bool} (P : Hp → Prop) (h0 : P H) (hu : c = true → ∀ Kb : Bool → Hp → Prop, (∀ H', P H' → Kb false H') → u σ H Kb) (fin : ∀ H', P H' → Kb false H') : if c = true then u σ H Kb else Kb false H := by
  cases c with
  | true => exact iteT (hu rfl Kb fin)
  | false => exact iteF (fin H h0)
def sp_is_couple : Sp := fun vs H Q _ => ∃ S v, ∃ h w : Nat, ∃ c : Cell, vs = [v, .int (h : Int), .int (w : Int)] ∧ Same S H ∧ sI S v (plC c) ∧ c.1 < h ∧ c.2 < w ∧ ∀ H', Ext No S H S H' → Q (.bl true) H'
theorem ixLT {K : PySem.W.Frag} {H : Hp} {a : Addr} {xs : List V} {i : Int} {x : V} {Q : VK} (h : SqL K H a xs ∨ SqT K H a xs) (hx : atI xs i = some x) (q : Q x H) : rIxLT K (.ref a) (.int i) H Q := by
  rcases h with h | h
  · exact .inl ⟨_, _, _, _, rfl, rfl, h, hx, q⟩
  · exact .inr ⟨_, _, _, _, rfl, rfl, h, hx, q⟩
theorem ok_is_couple {P : Program} {w : World} {K : PySem.W.Frag} {mg : Str → Option Value} {base : Heap} (T : Tx K mg) : FnOk P w K mg base CX0 2 A_is_couple (fdAt K A_is_couple) P_is_couple sp_is_couple := by
  refine (fn_is_couple T).ok sc_is_couple (fun vs H Q E h => ?_) (fun cdv A outer s H vs Q E hr h => ?_)
  · obtain ⟨S, v, h, w', c, rfl, _⟩ := h; rfl
  · obtain ⟨S, v, h, w', c, rfl, hS, hv, h1, h2, q⟩ := h
    refine ⟨_, PSs.nox (pss_cons (ps_if (PW.pt (pw_or (pt_not (pt_val (pe_call (ok_is_sequence T) hr (by rfl) (g_is_sequence T) (fn_is_sequence T).kp (b_is_sequence T) .nil pass0 (pa_cons (pv 0) pa_nil)))) (pw_or1 (pt_cmpR op_ne (pe_callB call_len_seq (by rfl) (f_len T) bt_len (pa_cons (pv 0) pa_nil)) pe_int (nomark _)))))
      (pss_one (ps_ret pe_bl))
      pss_nil)
      (pss_one (ps_ret (pe_and (pe_call (ok_is_whole T) hr (by rfl) (g_is_whole T) (fn_is_whole T).kp (b0_is_whole T) .nil pass0 (pa_cons (pe_ix ix_lt (pv 0) pe_int (fun _ _ => rfl)) (pa_cons pe_int (pa_cons (pe_op op_sub (pv 1) pe_int) pa_nil)))) (pe_one (pe_call (ok_is_whole T) hr (by rfl) (g_is_whole T) (fn_is_whole T).kp (b0_is_whole T) .nil pass0 (pa_cons (pe_ix ix_lt (pv 0) pe_int (fun _ _ => rfl)) (pa_cons pe_int (pa_cons (pe_op op_sub (pv 2) pe_int) pa_nil))))))))), ?_⟩
    obtain ⟨t, ht, hb⟩ := isSeq_t (sI_ty hS hv)
    refine ⟨_, rfl, S, _, t, rfl, hS, ht, fun H1 e1 => ?_⟩
    rw [hb]
    obtain ⟨a, rfl, hq⟩ := sI_ix (K := K) e1.i hv
    have ln : ((plC c).map V.int).length = 2 := rfl
    refine ⟨_, rfl, iteF ⟨_, rfl, a, _, rfl, hq, rfl, _, rfl, ?_⟩⟩
    refine iteF ⟨_, rfl, ixLT hq (atI_nat (j := 0) rfl) ?_⟩
    refine ⟨_, rfl, _, _, rfl, rfl, .int _, "int", some 0, some _, rfl, rfl, ?_⟩
    rw [wh_t (by omega) (by omega)]
    refine ⟨_, rfl, iteT ⟨_, rfl, ixLT hq (atI_nat (j := 1) rfl) ⟨_, rfl, _, _, rfl, rfl, .int _, "int", some 0, some _, rfl, rfl, ?_⟩⟩⟩
    rw [wh_t (by omega) (by omega)]
    exact q _ e1
/-- strictly rising cells -/
def CellsOk (h w : Nat) (cells : List Cell) : Prop := (∀ c ∈ cells, c.1 < h ∧ c.2 < w) ∧ ∀ (i : Nat) (c d : Cell), cells[i]? = some c → cells[i + 1]? = some d → c.1 < d.1 ∨ (c.1 = d.1 ∧ c.2 < d.2)
def sp_checked_cells : Sp := fun vs H Q _ => ∃ S v, ∃ h w : Nat, ∃ cells : List Cell, vs = [.int (h : Int), .int (w : Int), v] ∧ Same S H ∧ sR sI S v (cells.map plC) ∧ CellsOk h w cells ∧ cells.length ≤ 1000 ∧ ∀ S' H' u, Ext No S H S' H' → tR tI S' u (cells.map plC) → Q u H'
theorem lex_no {c d : Cell} (h : c.1 < d.1 ∨ (c.1 = d.1 ∧ c.2 < d.2)) : Ob.lexAt (fun j => decide ((plC d).getD j 0 = (plC c).getD j 0)) (fun j => decide ((plC d).getD j 0 ≤ (plC c).getD j 0)) (decide ((plC d).length ≤ (plC c).length)) 0 (min (plC d).length (plC c).length) = false := by
  show Ob.lexAt _ _ _ 0 2 = false
  rw [Ob.lexAt_succ]
  show (if decide ((d.1 : Int) = (c.1 : Int)) = true then _ else decide ((d.1 : Int) ≤ (c.1 : Int))) = false
  rcases h with h | ⟨h1, h2⟩
  · rw [if_neg (by intro z; have := of_decide_eq_true z; omega)]
    exact decide_eq_false (by omega)
  · rw [if_pos (decide_eq_true (by omega)), Ob.lexAt_succ]
    show (if decide ((d.2 : Int) = (c.2 : Int)) = true then _ else decide ((d.2 : Int) ≤ (c.2 : Int))) = false
    rw [if_neg (by intro z; have := of_decide_eq_true z; omega)]
    exact decide_eq_false (by omega)
theorem ok_checked_cells {P : Program} {w : World} {K : PySem.W.Frag} {mg : Str → Option Value} {base : Heap} (T : Tx K mg) : FnOk P w K mg base CX0 3 A_checked_cells (fdAt K A_checked_cells) P_checked_cells sp_checked_cells := by
  refine (fn_checked_cells T).ok sc_checked_cells (fun vs H Q E h => ?_) (fun cdv A outer s H vs Q E hr h => ?_)
  · obtain ⟨S, v, h, w', cells, rfl, _⟩ := h; rfl
  · obtain ⟨S, v, h, w', cells, rfl, hS, hv, ⟨c1, c2⟩, hl, q⟩ := h
    refine ⟨_, PSs.nox (pss_cons (ps_if (pt_not (pt_val (pe_call (ok_is_sequence T) (hr.mono (by decide)) (by rfl) (g_is_sequence T) (fn_is_sequence T).kp (b_is_sequence T) .nil pass0 (pa_cons (pv 2) pa_nil))))
      (pss_one ps_never)
      pss_nil)
      (pss_cons (ps_set (i := 3) sc_checked_cells.nd rfl (.inl rfl) (pe_lst pa_nil))
      (pss_cons (ps_for PassesOwn.never rfl (pi_enumW (by rfl) (f_enumerate T) (pa_cons (pv 2) pa_nil)) (pg_tup (by rfl) (pgs_cons (pg_name (i := 4) sc_checked_cells.nd rfl (.inl rfl)) (pgs_cons (pg_name (i := 5) sc_checked_cells.nd rfl (.inl rfl)) pgs_nil)))
      (pss_cons (ps_if (pt_not (pt_val (pe_call (ok_is_couple T) hr (by rfl) (g_is_couple T) (fn_is_couple T).kp (b_is_couple T) .nil pass0 (pa_cons (pv 5) (pa_cons (pv 0) (pa_cons (pv 1) pa_nil))))))
      (pss_one ps_never)
      pss_nil)
      (pss_cons (ps_if (PW.pt (pw_and (pt_truK (pv 3) (by intro _; rfl)) (pw_and1 (pt_cmpR (op_leT hr.units0) (pe_callTy call_tuple_of (by rfl) (f_tuple T) bt_tuple (pa_cons (pv 5) pa_nil)) (pe_ix ix_list (pv 3) (pe_un un_neg pe_int) (fun _ _ => rfl)) (nomark _)))))
      (pss_one ps_never)
      pss_nil)
      (pss_one (ps_expr (pe_bm PySem.F.plainAttrs_list PySem.F.slot_list_append PySem.F.type_list_append mt_append (pv 3) (pa_cons (pe_callTy call_tuple_of (by rfl) (f_tuple T) bt_tuple (pa_cons (pv 5) pa_nil)) pa_nil)))))))
      (pss_one (ps_ret (pe_callTy call_tuple_of (by rfl) (f_tuple T) bt_tuple (pa_cons (pv 3) pa_nil))))))), ?_⟩
    obtain ⟨t, ht, hb⟩ := isSeq_t (sR_ty hS hv)
    refine ⟨_, rfl, S, _, t, rfl, hS, ht, fun H1 e1 => ?_⟩
    rw [hb]
    refine ⟨_, rfl, iteF ⟨Nat.zero_le _, fun p2 h2 => ?_⟩⟩
    have e2 := e1.newM (o := .lst []) h2
    have s2 := none_of_same e1.i h2
    have n2 := e1.none1 h2
    obtain ⟨a, vs, rfl, hq, al⟩ : ∃ a vs, v = .ref a ∧ (S a = some (.lst vs) ∨ S a = some (.tup vs)) ∧ All2 (sI S) vs (cells.map plC) := by
      rcases hv with ⟨a, vs, rfl, ha, al⟩ | ⟨a, vs, rfl, ha, al⟩
      · exact ⟨a, vs, rfl, .inl ha, al⟩
      · exact ⟨a, vs, rfl, .inr ha, al⟩
    have vl := al.len
    rw [List.length_map] at vl
    have hq' : ∃ o : HO, (o = .lst vs ∨ o = .tup vs) ∧ S a = some o := by
      rcases hq with z | z
      · exact ⟨_, .inl rfl, z⟩
      · exact ⟨_, .inr rfl, z⟩
    obtain ⟨o, eo, ho⟩ := hq'
    refine ⟨_, rfl, a, vs, o, rfl, eo, e2.i _ _ ho, fun J G wk hG => forE (S0 := S) (H0 := H) (m := No) (σ := [some (.int (h : Int)), some (.int (w' : Int)), some (.ref a), some (.ref p2), none, none]) wk
      (fun i σ S' H' => ∃ x4 x5 acc, σ = [some (.int (h : Int)), some (.int (w' : Int)), some (.ref a), some (.ref p2), x4, x5] ∧ S' p2 = none ∧ H' p2 = some (.lst acc) ∧ All2 (tI S') acc ((cells.take i).map plC))
      e2 ⟨_, _, [], rfl, s2, upd_same, .nil⟩ (fun _ _ _ _ _ e _ => hG _ (e.i _ _ (e.s _ _ ho))) (fun i x σ S5 H5 H6 hi e5 p5 hy => ?_) fun σ S5 H5 e5 p5 => ?_⟩
    · obtain ⟨x4, x5, acc, rfl, s5, hp5, ac⟩ := p5
      obtain ⟨t, x', y', rfl, hT, rfl, g1, g2⟩ := hy
      cases g1
      obtain ⟨cl, f1, f2⟩ := al.get g2
      rw [List.getElem?_map] at f1
      cases hc : cells[i]? with
      | none => rw [hc] at f1; cases f1
      | some c =>
        rw [hc] at f1
        cases f1
        have e6 := (Ext.refl (m := No) e5.i).newM (o := .tup [.int (i : Nat), y']) hT
        have f3 := sI_m _ _ _ _ e5.s f2
        obtain ⟨cb1, cb2⟩ := c1 c (List.mem_of_getElem? hc)
        refine ⟨t, _, rfl, SqT.of upd_same, rfl, _, _, rfl, _, _, rfl, rfl, ?_⟩
        refine ⟨_, rfl, _, rfl, _, rfl, S5, _, h, w', c, rfl, e6.i, f3, cb1, cb2, fun H7 e7 => ⟨_, rfl, iteF ?_⟩⟩
        have e67 := e6.trans e7
        have hp7 := e67.h _ _ (fun z => z) hp5
        have acl := ac.len
        rw [List.length_map, List.length_take] at acl
        have ail : acc.length ≤ 1000 := by omega
        refine ⟨_, rfl, !acc.isEmpty, .inl ⟨acc, SqL.of hp7, rfl⟩, ?_⟩
        refine and_no (P := fun H8 => ∃ S8, Ext No S5 H5 S8 H8) ⟨S5, e67⟩ (fun hk Kb hK => ?_) (fun H8 ⟨S8, e8⟩ => ?_)
        · refine tTest_run (tOp_run (tup_sI ?_ e67.i f3 fun S9 H9 t9 e9 ht9 => ?_))
          · rfl
          have e79 := e67.trans e9
          -- the last one told
          cases i with
          | zero =>
            rw [List.take_zero] at ac
            cases ac
            cases hk
          | succ i =>
            cases hd : cells[i]? with
            | none => rw [List.getElem?_eq_none_iff] at hd; have := (List.getElem?_eq_some_iff.mp hc).1; omega
            | some d =>
              rw [take_get hd, List.map_append] at ac
              have al2 : acc ≠ [] := fun z => by rw [z] at hk; cases hk
              obtain ⟨av, al, rfl⟩ : ∃ av al, acc = av ++ [al] := ⟨_, _, (List.dropLast_concat_getLast al2).symm⟩
              have avl : av.length = i := by rw [List.length_append, List.length_singleton] at acl; omega
              obtain ⟨r1, r2, r3⟩ := ac.get (i := i) (a := al) (by rw [← avl, List.getElem?_append_right (Nat.le_refl _), Nat.sub_self]; rfl)
              rw [List.getElem?_append_right (by rw [List.length_map, List.length_take]; omega), List.length_map, List.length_take] at r2
              rw [show i - min i cells.length = 0 by have := (List.getElem?_eq_some_iff.mp hd).1; omega] at r2
              cases r2
              obtain ⟨da, rfl, hda⟩ := r3
              have lix : atI (av ++ [V.ref da]) (-1) = some (.ref da) := by
                unfold atI ixN
                rw [if_neg (by decide), if_pos (by rw [List.length_append, List.length_singleton]; omega)]
                have e : ((-1 : Int) + ((av ++ [V.ref da]).length : Int)).toNat = av.length := by rw [List.length_append, List.length_singleton]; omega
                rw [e, Option.bind_some, List.getElem?_append_right (Nat.le_refl _), Nat.sub_self]; rfl
              refine ⟨_, rfl, _, rfl, _, _, _, _, rfl, rfl, SqL.of (e79.h _ _ (fun z => z) hp5), lix, ?_⟩
              refine ⟨t9, da, plC c, plC d, rfl, rfl, SqT.of (e9.i _ _ ht9 |> fun z => z), SqT.of (e79.i _ _ (e79.s _ _ hda)), ?_⟩
              rw [lex_no (c2 i d c hd hc)]
              exact ⟨_, rfl, hK _ ⟨S9, e79⟩⟩
        · have hp8 := e8.h _ _ (fun z => z) hp5
          refine iteF ⟨_, rfl, .inl ⟨rfl, _, SqL.of hp8⟩, tCons_run (tup_sI ?_ e8.i (sI_m _ _ _ _ e8.s f3) fun S9 H9 t9 e9 ht9 => ?_)⟩
          · rfl
          have e89 := e8.trans e9
          refine ⟨p2, acc, .ref t9, rfl, rfl, e89.h _ _ (fun z => z) hp5, szLt (by omega), ?_⟩
          have s9 := e89.n p2 (ne_none hp5) s5
          refine ⟨S9, (e5.trans e89).mut (.inl n2) s9, _, _, _, rfl, s9, upd_same, ?_⟩
          rw [take_get hc, List.map_append]
          exact (ac.mono tI_m e89.s).snoc ⟨t9, rfl, ht9⟩
    · obtain ⟨x4, x5, acc, rfl, s5, hp5, ac⟩ := p5
      rw [take_all vl] at ac
      refine ⟨_, rfl, p2, acc, rfl, .inl ⟨SqL.of hp5, fun t9 ht9 => q _ _ _ (e5.new ht9) ⟨t9, acc, rfl, upd_same, ac.mono tI_m (same_upd (none_of_same e5.i ht9))⟩⟩⟩
end Th

/-! part DG -/
namespace Th
open PySem PySem.Spec PyProof.Rows L2

def toI (l : List Nat) : List Int := l.map fun n : Nat => (n : Int)
theorem toV (l : List Nat) : (toI l).map V.int = l.map fun n : Nat => V.int n := by unfold toI; rw [List.map_map]; rfl
theorem tN_I {S : Hp} {v : V} {l : List Nat} : tI S v (toI l) ↔ tN S v l := by unfold tI tN; rw [toV]
def freshN (l : List Nat) : Nat := l.foldl (fun m x => max m (x + 1)) 0
theorem fresh_snoc (l : List Nat) (x : Nat) : freshN (l ++ [x]) = max (freshN l) (x + 1) := by unfold freshN; rw [List.foldl_append]; rfl
def LettersOk (l : List Nat) : Prop := ∀ (i x : Nat), l[i]? = some x → x ≤ freshN (l.take i)
def sp_checked_letters : Sp := fun vs H Q _ => ∃ S v, ∃ m : Nat, ∃ ls : List Nat, vs = [.int (m : Int), v] ∧ Same S H ∧ ((v = .non ∧ ls = List.range m) ∨ sI S v (toI ls)) ∧ ls.length = m ∧ m ≤ 1000 ∧ LettersOk ls ∧ ∀ S' H' u, Ext No S H S' H' → tN S' u ls → Q u H'
theorem ok_checked_letters {P : Program} {w : World} {K : PySem.W.Frag} {mg : Str → Option Value} {base : Heap} (T : Tx K mg) : FnOk P w K mg base CX0 2 A_checked_letters (fdAt K A_checked_letters) P_checked_letters sp_checked_letters := by
  refine (fn_checked_letters T).ok sc_checked_letters (fun vs H Q E h => ?_) (fun cdv A outer s H vs Q E hr h => ?_)
  · obtain ⟨S, v, m, ls, rfl, _⟩ := h; rfl
  · obtain ⟨S, v, m, ls, rfl, hS, hv, hlm, hm, hok, q⟩ := h
    refine ⟨_, PSs.nox (pss_cons (ps_if (pt_cmpR op_isN (pv 1) pe_non (nomark _))
      (pss_one (ps_ret (pe_tupRg rfl (by rfl) (f_tuple T) (prg_1 (by rfl) (f_range T) (pv 0)))))
      pss_nil)
      (pss_cons (ps_if (PW.pt (pw_or (pt_not (pt_val (pe_call (ok_is_sequence T) hr (by rfl) (g_is_sequence T) (fn_is_sequence T).kp (b_is_sequence T) .nil pass0 (pa_cons (pv 1) pa_nil)))) (pw_or1 (pt_cmpR op_ne (pe_callB call_len_seq (by rfl) (f_len T) bt_len (pa_cons (pv 1) pa_nil)) (pv 0) (nomark _)))))
      (pss_one ps_never)
      pss_nil)
      (pss_cons (ps_set (i := 2) sc_checked_letters.nd rfl (.inl rfl) pe_int)
      (pss_cons (ps_for PassesOwn.never rfl (pi_enumW (by rfl) (f_enumerate T) (pa_cons (pv 1) pa_nil)) (pg_tup (by rfl) (pgs_cons (pg_name (i := 3) sc_checked_letters.nd rfl (.inl rfl)) (pgs_cons (pg_name (i := 4) sc_checked_letters.nd rfl (.inl rfl)) pgs_nil)))
      (pss_cons (ps_if (pt_not (pt_val (pe_call (ok_is_whole T) hr (by rfl) (g_is_whole T) (fn_is_whole T).kp (b0_is_whole T) .nil pass0 (pa_cons (pv 4) (pa_cons pe_int (pa_cons (pv 2) pa_nil))))))
      (pss_one ps_never)
      pss_nil)
      (pss_one (ps_set (i := 2) sc_checked_letters.nd rfl (.inl rfl) (pe_callB (call_max2 rfl) (by rfl) (f_max T) bt_max (pa_cons (pv 2) (pa_cons (pe_op op_add (pv 4) pe_int) pa_nil)))))))
      (pss_one (ps_ret (pe_callTy call_tuple_of (by rfl) (f_tuple T) bt_tuple (pa_cons (pv 1) pa_nil)))))))), ?_⟩
    rcases hv with ⟨rfl, rfl⟩ | hv
    · refine ⟨_, rfl, rfl, _, rfl, iteT ⟨_, rfl, _, rfl, RgOk.of_le (by omega) (by omega) (by omega) (by omega), fun p1 h1 => ?_⟩⟩
      rw [rgV0]
      exact q _ _ _ ((Ext.refl hS).new h1) ⟨p1, rfl, upd_same⟩
    · obtain ⟨t, ht, hb⟩ := isSeq_t (sI_ty hS hv)
      have vne : decide (v = V.non) = false := by
        rcases hv with ⟨a, rfl, _⟩ | ⟨a, rfl, _⟩ <;> rfl
      refine ⟨_, rfl, rfl, _, rfl, ?_⟩
      rw [vne]
      refine iteF ⟨_, rfl, S, _, t, rfl, hS, ht, fun H1 e1 => ?_⟩
      rw [hb]
      obtain ⟨a, rfl, hq⟩ := sI_ix (K := K) e1.i hv
      have ln : ((toI ls).map V.int).length = m := by unfold toI; rw [List.length_map, List.length_map, hlm]
      refine ⟨_, rfl, iteF ⟨_, rfl, a, _, rfl, hq, _, rfl, rfl, _, rfl, ?_⟩⟩
      rw [ln, dV, decide_eq_true rfl]
      refine iteF ?_
      obtain ⟨o, eo, ho⟩ : ∃ o : HO, (o = .lst ((toI ls).map V.int) ∨ o = .tup ((toI ls).map V.int)) ∧ S a = some o := by
        rcases hv with ⟨_, z, h1⟩ | ⟨_, z, h1⟩
        · cases z; exact ⟨_, .inl rfl, h1⟩
        · cases z; exact ⟨_, .inr rfl, h1⟩
      refine ⟨_, rfl, a, _, o, rfl, eo, e1.i _ _ ho, fun J G wk hG => forE (S0 := S) (H0 := H) (m := No) (σ := [some (.int (m : Int)), some (.ref a), some (.int ((0 : Nat) : Int)), none, none]) wk
        (fun i σ S' H' => ∃ x3 x4, σ = [some (.int (m : Int)), some (.ref a), some (.int (freshN (ls.take i) : Nat)), x3, x4]) e1 ⟨_, _, rfl⟩ (fun _ _ _ _ _ e _ => hG _ (e.i _ _ (e.s _ _ ho))) (fun i x σ S5 H5 H6 hi e5 p5 hy => ?_) fun σ S5 H5 e5 p5 => ?_⟩
      · obtain ⟨x3, x4, rfl⟩ := p5
        obtain ⟨tt, x', y', rfl, hT, rfl, g1, g2⟩ := hy
        cases g1
        rw [toV] at g2
        obtain ⟨k, f1, rfl⟩ := nat_get g2
        have e6 := (Ext.refl (m := No) e5.i).newM (o := .tup [.int (i : Nat), .int (k : Int)]) hT
        refine ⟨tt, _, rfl, SqT.of upd_same, rfl, _, _, rfl, _, _, rfl, rfl, ?_⟩
        have le := hok i k f1
        refine ⟨_, rfl, _, rfl, .int _, "int", some 0, some _, rfl, rfl, ?_⟩
        rw [wh_t (by omega) (by omega)]
        refine ⟨_, rfl, iteF ⟨_, rfl, _, rfl, _, _, rfl, rfl, _, _, rfl, S5, e5.trans e6, some (.int (i : Nat)), some (.int (k : Int)), ?_⟩⟩
        rw [take_get f1, fresh_snoc]
        rw [show (if (k : Int) + 1 > (freshN (ls.take i) : Int) then (k : Int) + 1 else (freshN (ls.take i) : Int)) = ((max (freshN (ls.take i)) (k + 1) : Nat) : Int) by split <;> omega]
        rfl
      · obtain ⟨x3, x4, rfl⟩ := p5
        refine tRet_run (tup_sI ?_ e5.i (sI_m _ _ _ _ e5.s hv) fun S9 H9 t9 e9 ht9 => ?_)
        · rfl
        · exact q _ _ _ (e5.trans e9) (tN_I.mp ⟨t9, rfl, ht9⟩)
/-! ### the mould -/
def manyN (ls : List Nat) : Nat := freshN ls
structure MouldR (S : Hp) (v : V) (h w : Nat) (cells : List Cell) (ls : List Nat) : Prop where
  ob : ∃ a dx cv lv, v = .ref a ∧ S a = some (.ins C_Mould dx [("height", .int (h : Int)), ("width", .int (w : Int)), ("cells", cv), ("letters", lv)]) ∧ tR tI S cv (cells.map plC) ∧ tN S lv ls
theorem MouldR.mono {S S' : Hp} {v : V} {h w : Nat} {cells : List Cell} {ls : List Nat} (k : Same S S') (m : MouldR S v h w cells ls) : MouldR S' v h w cells ls := by
  obtain ⟨a, dx, cv, lv, e, h1, h2, h3⟩ := m.ob
  exact ⟨a, dx, cv, lv, e, k _ _ h1, tR_m tI_m _ _ _ _ k h2, tN_m _ _ _ _ k h3⟩
def sp_Mould_letters_many : Sp := fun vs H Q _ => ∃ S v h w cells ls, vs = [v] ∧ Same S H ∧ MouldR S v h w cells ls ∧ Q (.int (manyN ls : Nat)) H
theorem fresh_le (l : List Nat) : ∀ x ∈ l, x + 1 ≤ freshN l := by
  have key : ∀ (l : List Nat) (c : Nat), c ≤ l.foldl (fun m x => max m (x + 1)) c ∧ ∀ x ∈ l, x + 1 ≤ l.foldl (fun m x => max m (x + 1)) c := by
    intro l
    induction l with
    | nil => intro c; exact ⟨Nat.le_refl _, fun x hx => by cases hx⟩
    | cons y l ih =>
      intro c
      obtain ⟨h1, h2⟩ := ih (max c (y + 1))
      refine ⟨Nat.le_trans (Nat.le_max_left _ _) h1, fun x hx => ?_⟩
      rcases List.mem_cons.mp hx with e | e
      · rw [e]; exact Nat.le_trans (Nat.le_max_right _ _) h1
      · exact h2 x e
  exact (key l 0).2
theorem fresh_at (l : List Nat) (hne : l ≠ []) : ∃ x ∈ l, freshN l = x + 1 := by
  have key : ∀ (l : List Nat) (c : Nat), l.foldl (fun m x => max m (x + 1)) c = c ∨ ∃ x ∈ l, l.foldl (fun m x => max m (x + 1)) c = x + 1 := by
    intro l
    induction l with
    | nil => intro c; exact .inl rfl
    | cons y l ih =>
      intro c
      rcases ih (max c (y + 1)) with h | ⟨x, hx, h⟩
      · rw [List.foldl_cons, h]
        by_cases z : y + 1 ≤ c
        · exact .inl (Nat.max_eq_left z)
        · exact .inr ⟨y, List.mem_cons_self .., Nat.max_eq_right (by omega)⟩
      · exact .inr ⟨x, List.mem_cons_of_mem _ hx, h⟩
  rcases key l 0 with h | h
  · cases l with
    | nil => exact absurd rfl hne
    | cons y l =>
      have := fresh_le (y :: l) y (List.mem_cons_self ..)
      unfold freshN at this
      omega
  · exact h
theorem ok_Mould_letters_many {P : Program} {w : World} {K : PySem.W.Frag} {mg : Str → Option Value} {base : Heap} (T : Tx K mg) : FnOk P w K mg base CX0 1 A_Mould_letters_many (fdAt K A_Mould_letters_many) P_Mould_letters_many sp_Mould_letters_many := by
  refine (fn_Mould_letters_many T).ok sc_Mould_letters_many (fun vs H Q E h => ?_) (fun cdv A outer s H vs Q E hr h => ?_)
  · obtain ⟨S, v, h, w', cells, ls, rfl, _⟩ := h; rfl
  · obtain ⟨S, v, h, w', cells, ls, rfl, hS, ⟨a, dx, cv, lv, rfl, ha, hcv, ⟨la, rfl, hla⟩⟩, q⟩ := h
    refine ⟨_, PSs.nox (pss_one (ps_ret (pe_ifExp (pt_truK (pe_fld (pv 0) rfl) (by intro _; rfl)) (pe_op op_add (pe_callB (cr_maxT rfl) (by rfl) (f_max T) bt_max (pa_cons (pe_fld (pv 0) rfl) pa_nil)) pe_int) pe_int))), ?_⟩
    refine ⟨_, rfl, a, C_Mould, dx, _, _, rfl, hS _ _ ha, T.kM, T.nM "letters" (by decide), rfl, _, .inr (.inl ⟨_, SqT.of (hS _ _ hla), rfl⟩), ?_⟩
    cases ls with
    | nil => exact iteF q
    | cons x l =>
      refine iteT ⟨_, rfl, a, C_Mould, dx, _, _, rfl, hS _ _ ha, T.kM, T.nM "letters" (by decide), rfl, la, toI (x :: l), rfl, SqT.of (by rw [toV]; exact hS _ _ hla), by show 0 < _ + 1; omega, fun m m1 m2 => ⟨_, _, rfl, rfl, ?_⟩⟩
      obtain ⟨k, hk, e⟩ := fresh_at (x :: l) (by intro z; cases z)
      obtain ⟨k1, hk1, e1⟩ := List.mem_map.mp m1
      have g1 := m2 (k : Int) (List.mem_map.mpr ⟨k, hk, rfl⟩)
      have g2 := fresh_le (x :: l) k1 hk1
      have : m + 1 = ((manyN (x :: l) : Nat) : Int) := by unfold manyN; omega
      show Q (.int (m + 1)) H
      rw [this]; exact q
def sp_check_letter : Sp := fun vs H Q _ => ∃ S v h w cells ls, ∃ l : Nat, vs = [v, .int (l : Int)] ∧ Same S H ∧ MouldR S v h w cells ls ∧ l < manyN ls ∧ Q (.int (l : Int)) H
theorem MouldR.ref {S : Hp} {v : V} {h w : Nat} {cells : List Cell} {ls : List Nat} (m : MouldR S v h w cells ls) : ∃ a dx fs, v = .ref a ∧ S a = some (.ins C_Mould dx fs) := by
  obtain ⟨a, dx, cv, lv, e, h1, h2, h3⟩ := m.ob
  exact ⟨a, dx, _, e, h1⟩
theorem ok_check_letter {P : Program} {w : World} {K : PySem.W.Frag} {mg : Str → Option Value} {base : Heap} (T : Tx K mg) : FnOk P w K mg base CX0 3 A_check_letter (fdAt K A_check_letter) P_check_letter sp_check_letter := by
  refine (fn_check_letter T).ok sc_check_letter (fun vs H Q E h => ?_) (fun cdv A outer s H vs Q E hr h => ?_)
  · obtain ⟨S, v, h, w', cells, ls, l, rfl, _⟩ := h; rfl
  · obtain ⟨S, v, h, w', cells, ls, l, rfl, hS, hm, hl, q⟩ := h
    refine ⟨_, PSs.nox (pss_cons (ps_if (pt_not (pt_val (pe_call (ok_is_whole T) (hr.mono (by decide)) (by rfl) (g_is_whole T) (fn_is_whole T).kp (b0_is_whole T) .nil pass0 (pa_cons (pv 1) (pa_cons pe_int (pa_cons (pe_op op_sub (pe_prop (pv 0) (k_Mould T) (p_letters_many T) (ok_Mould_letters_many T) hr (b_Mould_letters_many T) .nil pass0 rfl) pe_int) pa_nil))))))
      (pss_one ps_never)
      pss_nil)
      (pss_one (ps_ret (pv 1)))), ?_⟩
    obtain ⟨a, dx, fs, rfl, ha⟩ := hm.ref
    refine ⟨_, rfl, _, rfl, a, dx, fs, rfl, hS _ _ ha, S, .ref a, h, w', cells, ls, rfl, hS, hm, _, _, rfl, rfl, .int _, "int", some 0, some _, rfl, rfl, ?_⟩
    rw [wh_t (by omega) (by omega)]
    exact ⟨_, rfl, iteF ⟨_, rfl, q⟩⟩
def sp_Mould_init : Sp := fun vs H Q _ => ∃ S x dx cv lv, ∃ h w : Nat, ∃ cells ls, vs = [.ref x, .int (h : Int), .int (w : Int), cv, lv] ∧ Same S H ∧ S x = none ∧ H x = some (.ins C_Mould dx []) ∧ 1 ≤ h ∧ h ≤ 6 ∧ 1 ≤ w ∧ w ≤ 6 ∧ sR sI S cv (cells.map plC) ∧ CellsOk h w cells ∧
  ((lv = .non ∧ ls = List.range cells.length) ∨ sI S lv (toI ls)) ∧ ls.length = cells.length ∧ cells.length ≤ 1000 ∧ LettersOk ls ∧ ∀ S' H', Ext (· = x) S H S' H' → S' x = none → H' x ≠ none → (∀ o, H' x = some o → MouldR (upd S' x o) (.ref x) h w cells ls) → Q .non H'
theorem ok_Mould_init {P : Program} {w : World} {K : PySem.W.Frag} {mg : Str → Option Value} {base : Heap} (T : Tx K mg) : FnOk P w K mg base CX0 4 A_Mould_init (fdAt K A_Mould_init) P_Mould_init sp_Mould_init := by
  refine (fn_Mould_init T).ok sc_Mould_init (fun vs H Q E h => ?_) (fun cdv A outer s H vs Q E hr h => ?_)
  · obtain ⟨S, x, dx, cv, lv, h, w', cells, ls, rfl, _⟩ := h; rfl
  · obtain ⟨S, x, dx, cv, lv, h, w', cells, ls, rfl, hS, hsx, hx, h1, h6, w1, w6, hc, hco, hlv, hll, hcl, hlo, q⟩ := h
    refine ⟨_, PSs.nox (pss_cons (ps_if (pt_not (pt_val (pe_call (ok_is_whole T) (hr.mono (by decide)) (by rfl) (g_is_whole T) (fn_is_whole T).kp (b0_is_whole T) .nil pass0 (pa_cons (pv 1) (pa_cons pe_int (pa_cons (pe_glob (v := .int 6) (by rfl) (c_MOST T).choose_spec ⟨_, rfl⟩) pa_nil))))))
      (pss_one ps_never)
      pss_nil)
      (pss_cons (ps_if (pt_not (pt_val (pe_call (ok_is_whole T) (hr.mono (by decide)) (by rfl) (g_is_whole T) (fn_is_whole T).kp (b0_is_whole T) .nil pass0 (pa_cons (pv 2) (pa_cons pe_int (pa_cons (pe_glob (v := .int 6) (by rfl) (c_MOST T).choose_spec ⟨_, rfl⟩) pa_nil))))))
      (pss_one ps_never)
      pss_nil)
      (pss_cons (ps_fld (pv 0) (pv 1) rfl)
      (pss_cons (ps_fld (pv 0) (pv 2) rfl)
      (pss_cons (ps_fld (pv 0) (pe_call (ok_checked_cells T) hr (by rfl) (g_checked_cells T) (fn_checked_cells T).kp (b_checked_cells T) .nil pass0 (pa_cons (pv 1) (pa_cons (pv 2) (pa_cons (pv 3) pa_nil)))) rfl)
      (pss_one (ps_fld (pv 0) (pe_call (ok_checked_letters T) (hr.mono (by decide)) (by rfl) (g_checked_letters T) (fn_checked_letters T).kp (b_checked_letters T) .nil pass0 (pa_cons (pe_callB call_len_seq (by rfl) (f_len T) bt_len (pa_cons (pe_fld (pv 0) rfl) pa_nil)) (pa_cons (pv 4) pa_nil))) rfl))))))), ?_⟩
    refine ⟨_, rfl, .int _, "int", some 1, some 6, rfl, rfl, ?_⟩
    rw [wh_t (by omega) (by omega)]
    refine ⟨_, rfl, iteF ⟨_, rfl, .int _, "int", some 1, some 6, rfl, rfl, ?_⟩⟩
    rw [wh_t (by omega) (by omega)]
    refine ⟨_, rfl, iteF ?_⟩
    have e0 := Ext.refl (m := (· = x)) hS
    refine ⟨_, rfl, _, rfl, x, C_Mould, dx, [], rfl, hx, T.kM, T.nM "height" (by decide), (by show (0 : Nat) < 1000; decide), ?_⟩
    have e1 := e0.mut (o := .ins C_Mould dx (putF "height" (.int (h : Int)) [])) (.inr rfl) hsx
    refine ⟨_, rfl, _, rfl, x, C_Mould, dx, _, rfl, upd_same, T.kM, T.nM "width" (by decide), (by show (1 : Nat) < 1000; decide), ?_⟩
    have e2 := e1.mut (o := .ins C_Mould dx (putF "width" (.int (w' : Int)) (putF "height" (.int (h : Int)) []))) (.inr rfl) hsx
    refine ⟨_, rfl, _, rfl, _, rfl, S, cv, h, w', cells, rfl, e2.i, hc, hco, hcl, fun S3 H3 u3 e3 hu3 => ?_⟩
    have hx3 := e3.h x _ (fun z => z) upd_same
    have sx3 := e3.n x (ne_none upd_same) hsx
    refine ⟨_, rfl, x, C_Mould, dx, _, rfl, hx3, T.kM, T.nM "cells" (by decide), (by show (2 : Nat) < 1000; decide), ?_⟩
    have e23 := e2.trans e3.weak
    have e4 := e23.mut (o := .ins C_Mould dx (putF "cells" u3 (putF "width" (.int (w' : Int)) (putF "height" (.int (h : Int)) [])))) (.inr rfl) sx3
    obtain ⟨ca, cvs, rfl, hca, hcs⟩ := hu3
    refine ⟨_, rfl, x, C_Mould, dx, _, _, rfl, upd_same, T.kM, T.nM "cells" (by decide), rfl, ca, cvs, rfl, .inr (SqT.of (e4.i _ _ hca)), _, rfl, S3, lv, cells.length, ls, ?_, e4.i, ?_, hll, hcl, hlo, fun S5 H5 u5 e5 hu5 => ?_⟩
    · rw [hcs.len, List.length_map]; rfl
    · exact hlv.imp id fun z => sI_m _ _ _ _ e3.s z
    · have hx5 := e5.h x _ (fun z => z) upd_same
      have sx5 := e5.n x (ne_none upd_same) sx3
      refine ⟨_, rfl, x, C_Mould, dx, _, rfl, hx5, T.kM, T.nM "letters" (by decide), (by show (3 : Nat) < 1000; decide), ?_⟩
      have e6 := (e4.trans e5.weak).mut (o := .ins C_Mould dx (putF "letters" u5 (putF "cells" (.ref ca) (putF "width" (.int (w' : Int)) (putF "height" (.int (h : Int)) []))))) (.inr rfl) sx5
      refine q _ _ e6 sx5 (ne_none upd_same) fun o ho => ?_
      rw [upd_same] at ho
      cases ho
      have k := same_upd (o := .ins C_Mould dx (putF "letters" u5 (putF "cells" (.ref ca) (putF "width" (.int (w' : Int)) (putF "height" (.int (h : Int)) []))))) sx5
      exact ⟨x, dx, .ref ca, u5, rfl, upd_same, tR_m tI_m _ _ _ _ (e5.s.trans k) ⟨ca, cvs, rfl, hca, hcs⟩, tN_m _ _ _ _ k hu5⟩
end Th

/-! part DH -/
namespace Th
open PySem PySem.Spec PyProof.Rows L2

abbrev Ask := Bool × List Int
def kS (b : Bool) : Str := if b then Str.ofString "column" else Str.ofString "row"
def askIn : Rp Ask := fun S v a => ∃ p nv, v = .ref p ∧ (S p = some (.lst [.str (kS a.1), nv]) ∨ S p = some (.tup [.str (kS a.1), nv])) ∧ sI S nv a.2
theorem askIn_m : MonoR askIn := fun _ _ _ _ k ⟨p, nv, e, h, t⟩ => ⟨p, nv, e, h.imp (k _ _) (k _ _), sI_m _ _ _ _ k t⟩
def askT : Rp Ask := fun S v a => ∃ p nv, v = .ref p ∧ S p = some (.tup [.str (kS a.1), nv]) ∧ tI S nv a.2
theorem askT_m : MonoR askT := fun _ _ _ _ k ⟨p, nv, e, h, t⟩ => ⟨p, nv, e, k _ _ h, tI_m _ _ _ _ k t⟩
def AskOk (h w : Nat) (a : Ask) : Prop := a.2.length = (if a.1 = true then w else h) ∧ ∀ n ∈ a.2, -1000000000 ≤ n ∧ n ≤ 1000000000
def sp_check_ask : Sp := fun vs H Q _ => ∃ S v av, ∃ i : Int, ∃ h w cells ls a, vs = [v, av, .int i] ∧ Same S H ∧ MouldR S v h w cells ls ∧ askIn S av a ∧ AskOk h w a ∧ ∀ S' H' u, Ext No S H S' H' → askT S' u a → Q u H'
theorem kS_in (k : Bool) : inV (.str (kS k)) [.str (Str.ofString "column"), .str (Str.ofString "row")] = true := by cases k <;> decide
theorem kS_col (k : Bool) : decide (V.str (kS k) = V.str (Str.ofString "column")) = k := by cases k <;> decide
theorem ifE {k : Bool} {ta tb : TE} {σ : L2.St} {H : Hp} {Q : VK} (x : V) (main : Q x H) (h1 : k = true → ∀ Q : VK, Q x H → ta σ H Q) (h2 : k = false → ∀ Q : VK, Q x H → tb σ H Q) : if k = true then ta σ H Q else tb σ H Q := by
  cases k with
  | true => exact iteT (h1 rfl Q main)
  | false => exact iteF (h2 rfl Q main)
theorem ok_check_ask {P : Program} {w : World} {K : PySem.W.Frag} {mg : Str → Option Value} {base : Heap} (T : Tx K mg) : FnOk P w K mg base CX0 2 A_check_ask (fdAt K A_check_ask) P_check_ask sp_check_ask := by
  refine (fn_check_ask T).ok sc_check_ask (fun vs H Q E h => ?_) (fun cdv A outer s H vs Q E hr h => ?_)
  · obtain ⟨S, v, av, i, h, w', cells, ls, a, rfl, _⟩ := h; rfl
  · obtain ⟨S, v, av, i, h, w', cells, ls, ak, rfl, hS, hm, ⟨p, nv, rfl, hp, hn⟩, ⟨hlen, hnum⟩, q⟩ := h
    refine ⟨_, PSs.nox (pss_cons (ps_if (PW.pt (pw_or (pt_not (pt_val (pe_call (ok_is_sequence T) hr (by rfl) (g_is_sequence T) (fn_is_sequence T).kp (b_is_sequence T) .nil pass0 (pa_cons (pv 1) pa_nil)))) (pw_or (pt_cmpR op_ne (pe_callB call_len_seq (by rfl) (f_len T) bt_len (pa_cons (pv 1) pa_nil)) pe_int (nomark _)) (pw_or1 (pt_cmpR op_notIn_seq (pe_ix ix_lt (pv 1) pe_int (fun _ _ => rfl)) (pe_tup (pa_cons pe_str (pa_cons pe_str pa_nil))) (by rfl))))))
      (pss_one ps_never)
      pss_nil)
      (pss_cons (ps_set (i := 3) sc_check_ask.nd rfl (.inl rfl) (pe_ifExp (pt_cmpR op_eq (pe_ix ix_lt (pv 1) pe_int (fun _ _ => rfl)) pe_str (nomark _)) (pe_fld (pv 0) rfl) (pe_fld (pv 0) rfl)))
      (pss_cons (ps_if (PW.pt (pw_or (pt_not (pt_val (pe_call (ok_is_sequence T) hr (by rfl) (g_is_sequence T) (fn_is_sequence T).kp (b_is_sequence T) .nil pass0 (pa_cons (pe_ix ix_lt (pv 1) pe_int (fun _ _ => rfl)) pa_nil)))) (pw_or1 (pt_cmpR op_ne (pe_callB call_len_seq (by rfl) (f_len T) bt_len (pa_cons (pe_ix ix_lt (pv 1) pe_int (fun _ _ => rfl)) pa_nil)) (pv 3) (nomark _)))))
      (pss_one ps_never)
      pss_nil)
      (pss_cons (ps_for PassesOwn.never rfl (pi_seqW (pe_ix ix_lt (pv 1) pe_int (fun _ _ => rfl))) (pg_name (i := 4) sc_check_ask.nd rfl (.inl rfl))
      (pss_one (ps_if (pt_not (pt_val (pe_call (ok_is_whole T) hr (by rfl) (g_is_whole T) (fn_is_whole T).kp (b0_is_whole T) .nil pass0 (pa_cons (pv 4) (pa_cons (pe_un un_neg (pe_glob (v := .int 1000000000) (by rfl) (c_GREATEST T).choose_spec ⟨_, rfl⟩)) (pa_cons (pe_glob (v := .int 1000000000) (by rfl) (c_GREATEST T).choose_spec ⟨_, rfl⟩) pa_nil))))))
      (pss_one ps_never)
      pss_nil)))
      (pss_one (ps_ret (pe_tup (pa_cons (pe_ix ix_lt (pv 1) pe_int (fun _ _ => rfl)) (pa_cons (pe_callTy call_tuple_of (by rfl) (f_tuple T) bt_tuple (pa_cons (pe_ix ix_lt (pv 1) pe_int (fun _ _ => rfl)) pa_nil)) pa_nil))))))))), ?_⟩
    have hq : ∀ H', Same S H' → SqL K H' p [.str (kS ak.1), nv] ∨ SqT K H' p [.str (kS ak.1), nv] := fun H' k => hp.imp (fun z => SqL.of (k _ _ z)) fun z => SqT.of (k _ _ z)
    have tp : tyN H (.ref p) = some "list" ∨ tyN H (.ref p) = some "tuple" := by
      rcases hp with z | z
      · left; show tyO (H p) = _; rw [hS _ _ z]; rfl
      · right; show tyO (H p) = _; rw [hS _ _ z]; rfl
    obtain ⟨t, ht, hb⟩ := isSeq_t tp
    refine ⟨_, rfl, S, _, t, rfl, hS, ht, fun H1 e1 => ?_⟩
    rw [hb]
    refine ⟨_, rfl, iteF ⟨_, rfl, p, _, rfl, hq _ e1.i, rfl, _, rfl, iteF ⟨_, rfl, ixLT (hq _ e1.i) (atI_nat (j := 0) rfl) ⟨by decide, fun p2 h2 => ⟨p2, _, rfl, .inr (SqT.of upd_same), rfl, rfl, _, rfl, ?_⟩⟩⟩⟩⟩
    have e2 := e1.newM (o := .tup [.str (Str.ofString "column"), .str (Str.ofString "row")]) h2
    rw [kS_in]
    refine iteF ?_
    generalize upd H1 p2 (.tup [.str (Str.ofString "column"), .str (Str.ofString "row")]) = H2 at e2
    obtain ⟨ma, mx, cv, lv, rfl, hma, hcv, hlv⟩ := hm.ob
    refine ⟨_, rfl, ixLT (hq _ e2.i) (atI_nat (j := 0) rfl) ⟨rfl, _, rfl, ?_⟩⟩
    rw [kS_col]
    refine ifE (.int ((if ak.1 = true then w' else h : Nat) : Int)) ?_ (fun hk Q hq => ?_) (fun hk Q hq => ?_)
    · obtain ⟨t2, ht2, hb2⟩ := isSeq_t (sI_ty e2.i hn)
      refine ⟨_, rfl, ixLT (hq _ e2.i) (atI_nat (j := 1) rfl) ⟨S, _, t2, rfl, e2.i, ht2, fun H3 e3 => ?_⟩⟩
      rw [hb2]
      have e23 := e2.trans e3
      obtain ⟨na, rfl, hnq⟩ := sI_ix (K := K) e23.i hn
      refine ⟨_, rfl, iteF ⟨_, rfl, ixLT (hq _ e23.i) (atI_nat (j := 1) rfl) ⟨na, _, rfl, hnq, _, rfl, rfl, _, rfl, ?_⟩⟩⟩
      rw [dV, List.length_map, hlen, decide_eq_true rfl]
      refine iteF ?_
      obtain ⟨o, eo, ho⟩ : ∃ o : HO, (o = .lst (ak.2.map V.int) ∨ o = .tup (ak.2.map V.int)) ∧ S na = some o := by
        rcases hn with ⟨_, z, h1⟩ | ⟨_, z, h1⟩
        · cases z; exact ⟨_, .inl rfl, h1⟩
        · cases z; exact ⟨_, .inr rfl, h1⟩
      refine ⟨_, rfl, ixLT (hq _ e23.i) (atI_nat (j := 1) rfl) ⟨na, _, o, rfl, eo, e23.i _ _ ho, fun J G wk hG => forE (S0 := S) (H0 := H) (m := No) (σ := [some (.ref ma), some (.ref p), some (.int i), some (.int ((if ak.1 = true then w' else h : Nat) : Int)), none]) wk
        (fun j σ S' H' => ∃ x4, σ = [some (.ref ma), some (.ref p), some (.int i), some (.int ((if ak.1 = true then w' else h : Nat) : Int)), x4]) e23 ⟨_, rfl⟩ (fun _ _ _ _ _ e _ => hG _ (e.i _ _ (e.s _ _ ho))) (fun j x σ S5 H5 H6 hi e5 p5 hy => ?_) fun σ S5 H5 e5 p5 => ?_⟩⟩
      · obtain ⟨x4, rfl⟩ := p5
        obtain ⟨rfl, hx⟩ := hy
        obtain ⟨n, f1, rfl⟩ := map_get hx
        obtain ⟨n1, n2⟩ := hnum n (List.mem_of_getElem? f1)
        refine ⟨_, rfl, _, rfl, .int _, "int", some (-1000000000), some 1000000000, rfl, rfl, ?_⟩
        rw [wh_t n1 n2]
        exact ⟨_, rfl, iteF ⟨S5, e5, some (.int n), rfl⟩⟩
      · obtain ⟨x4, rfl⟩ := p5
        have fin : ∀ S9 H9 t9, Ext No S5 H5 S9 H9 → S9 t9 = some (.tup (ak.2.map V.int)) → [V.str (kS ak.1), .ref t9].length ≤ sizeLine ∧ ∀ p, H9 p = none → Q (.ref p) (upd H9 p (.tup [.str (kS ak.1), .ref t9])) := fun S9 H9 t9 e9 ht9 => by
          refine ⟨by show (2 : Nat) ≤ sizeLine; decide, fun p9 h9 => ?_⟩
          have E := (e5.trans e9).new (o := .tup [.str (kS ak.1), .ref t9]) h9
          exact q _ _ _ E ⟨p9, .ref t9, rfl, upd_same, t9, rfl, same_upd (none_of_same (e5.trans e9).i h9) _ _ ht9⟩
        refine ⟨_, rfl, ixLT (hq _ (e5.s.trans e5.i)) (atI_nat (j := 0) rfl) ⟨_, rfl, ixLT (hq _ (e5.s.trans e5.i)) (atI_nat (j := 1) rfl) ?_⟩⟩
        rcases hn with ⟨_, z, h1⟩ | ⟨_, z, h1⟩
        · cases z
          exact ⟨na, _, rfl, .inl ⟨SqL.of (e5.i _ _ (e5.s _ _ h1)), fun l hl => fin _ _ l ((Ext.refl e5.i).new hl) upd_same⟩⟩
        · cases z
          exact ⟨na, _, rfl, .inr ⟨SqT.of (e5.i _ _ (e5.s _ _ h1)), fin _ _ na (Ext.refl e5.i) (e5.s _ _ h1)⟩⟩
    · refine ⟨_, rfl, ma, C_Mould, mx, _, _, rfl, e2.i _ _ hma, T.kM, T.nM "width" (by decide), rfl, ?_⟩
      rw [if_pos hk] at hq; exact hq
    · refine ⟨_, rfl, ma, C_Mould, mx, _, _, rfl, e2.i _ _ hma, T.kM, T.nM "height" (by decide), rfl, ?_⟩
      rw [if_neg (by rw [hk]; decide)] at hq; exact hq
end Th

/-! part DI -/
namespace Th
open PySem PySem.Spec PyProof.Rows L2

def BookOk (h w : Nat) (book : List Ask) : Prop := book.length ≤ 8 ∧ ∀ a ∈ book, AskOk h w a
def sp_check_book : Sp := fun vs H Q _ => ∃ S v bv h w cells ls book, vs = [v, bv] ∧ Same S H ∧ MouldR S v h w cells ls ∧ sR askIn S bv book ∧ BookOk h w book ∧ ∀ S' H' u, Ext No S H S' H' → tR askT S' u book → Q u H'
theorem sR_obj {α : Type} {R : Rp α} {S : Hp} {v : V} {x : List α} (h : sR R S v x) : ∃ a vs o, v = .ref a ∧ (o = HO.lst vs ∨ o = .tup vs) ∧ S a = some o ∧ All2 (R S) vs x := by
  rcases h with ⟨a, vs, e, ha, t⟩ | ⟨a, vs, e, ha, t⟩
  · exact ⟨a, vs, _, e, .inl rfl, ha, t⟩
  · exact ⟨a, vs, _, e, .inr rfl, ha, t⟩
theorem ok_check_book {P : Program} {w : World} {K : PySem.W.Frag} {mg : Str → Option Value} {base : Heap} (T : Tx K mg) : FnOk P w K mg base CX0 3 A_check_book (fdAt K A_check_book) P_check_book sp_check_book := by
  refine (fn_check_book T).ok sc_check_book (fun vs H Q E h => ?_) (fun cdv A outer s H vs Q E hr h => ?_)
  · obtain ⟨S, v, bv, h, w', cells, ls, book, rfl, _⟩ := h; rfl
  · obtain ⟨S, v, bv, h, w', cells, ls, book, rfl, hS, hm, hbk, ⟨hl, hok⟩, q⟩ := h
    refine ⟨_, PSs.nox (pss_cons (ps_if (PW.pt (pw_or (pt_not (pt_val (pe_call (ok_is_sequence T) (hr.mono (by decide)) (by rfl) (g_is_sequence T) (fn_is_sequence T).kp (b_is_sequence T) .nil pass0 (pa_cons (pv 1) pa_nil)))) (pw_or1 (pt_cmpR op_gt (pe_callB call_len_seq (by rfl) (f_len T) bt_len (pa_cons (pv 1) pa_nil)) (pe_glob (v := .int 8) (by rfl) (c_MOST_ASKS T).choose_spec ⟨_, rfl⟩) (nomark _)))))
      (pss_one ps_never)
      pss_nil)
      (pss_one (ps_ret (pe_callTy call_tuple_of (by rfl) (f_tuple T) bt_tuple (pa_cons (pe_lc (own := [("at", 2), ("ask", 3)]) (g := gTup K 2 (gCons (gName 2) (gCons (gName 3) (gNil)))) rfl sc_check_book.nd (pi_enumW (by rfl) (f_enumerate T) (pa_cons (pv 1) pa_nil)) (blkOk_by (N := N_check_book) (sc := defScope st_check_book) (by decide +kernel)) (fun _ _ _ _ _ => (pg_tup (by rfl) (pgs_cons (pg_name (i := 2) sc_check_book.nd rfl (.inl rfl)) (pgs_cons (pg_name (i := 3) sc_check_book.nd rfl (.inl rfl)) pgs_nil)))) (fun _ _ _ _ _ => pts_nil) (fun _ _ _ _ _ => (pe_call (ok_check_ask T) hr (by rfl) (g_check_ask T) (fn_check_ask T).kp (b0_check_ask T) .nil pass0 (pa_cons (pv 0) (pa_cons (pv 3) (pa_cons (pv 2) pa_nil)))))) pa_nil))))), ?_⟩
    obtain ⟨t, ht, hb⟩ := isSeq_t (sR_ty hS hbk)
    refine ⟨_, rfl, S, _, t, rfl, hS, ht, fun H1 e1 => ?_⟩
    rw [hb]
    obtain ⟨a, vs, o, rfl, eo, ho, al⟩ := sR_obj hbk
    have vl := al.len
    have hq : SqL K H1 a vs ∨ SqT K H1 a vs := by
      rcases eo with rfl | rfl
      · exact .inl (SqL.of (e1.i _ _ ho))
      · exact .inr (SqT.of (e1.i _ _ ho))
    obtain ⟨ma, mx, cv, lv, rfl, hma, hcv, hlv⟩ := hm.ob
    refine ⟨_, rfl, iteF ⟨_, rfl, a, vs, rfl, hq, _, _, rfl, rfl, _, rfl, ifD (fun z => by omega) fun _ => ?_⟩⟩
    refine ⟨_, rfl, a, vs, o, rfl, eo, e1.i _ _ ho, fun J G wk hG => lcP (S0 := S) (H0 := H) (σ := [some (.ref ma), some (.ref a), none, none]) wk (by omega)
      (fun i acc S' => All2 (askT S') acc (book.take i)) e1 .nil (fun _ _ _ _ _ e _ => hG _ (e.i _ _ (e.s _ _ ho))) (fun i x acc S2 H2 H3 Kt Kf hi e p hy kt kf => ?_) fun d acc S2 H2 hd e hs he _ p => ?_⟩
    · obtain ⟨tt, x', y', rfl, hT, rfl, g1, g2⟩ := hy
      cases g1
      obtain ⟨ak, f1, f2⟩ := al.get g2
      have e2 := (Ext.refl (m := No) e.i).newM (o := .tup [.int (i : Nat), y']) hT
      refine ⟨tt, _, rfl, SqT.of upd_same, rfl, _, _, rfl, _, _, rfl, rfl, wipe2 rfl rfl, _, rfl, _, rfl, _, rfl, S2, _, _, _, h, w', cells, ls, ak, rfl, e2.i, hm.mono e.s, askIn_m _ _ _ _ e.s f2, hok ak (List.mem_of_getElem? f1), fun S' H' u e3 hu => kt u S' H' (e2.trans e3) ?_⟩
      rw [take_get f1]
      exact (p.mono askT_m e3.s).snoc hu
    · rw [take_all vl] at p
      exact ⟨d, acc, rfl, .inl ⟨SqL.of he, fun t9 ht9 => q _ _ _ (e.new ht9) ⟨t9, acc, rfl, upd_same, p.mono askT_m (same_upd (none_of_same e.i ht9))⟩⟩⟩
/-! ### the span -/
def sideOf (k : Bool) (c : Cell) : Nat := if k = true then c.1 else c.2
def othOf (k : Bool) (c : Cell) : Nat := if k = true then c.2 else c.1
def matStep (a : Ask) (M : List (List Int)) (p : Cell × Nat) : List (List Int) := M.set (sideOf a.1 p.1) ((M.getD (sideOf a.1 p.1) []).set p.2 ((M.getD (sideOf a.1 p.1) []).getD p.2 0 + a.2.getD (othOf a.1 p.1) 0))
def linesOf (h w : Nat) (a : Ask) : Nat := if a.1 = true then h else w
def askMat (h w : Nat) (cells : List Cell) (ls : List Nat) (a : Ask) : List (List Int) := (cells.zip ls).foldl (matStep a) (List.replicate (linesOf h w a) (List.replicate (manyN ls) 0))
def spanRows (h w : Nat) (cells : List Cell) (ls : List Nat) (book : List Ask) : List (List Int) := book.flatMap (askMat h w cells ls)
/-- rows that stay open to change, at ps -/
def RowsAt (H : Hp) (ps : List Addr) (M : List (List Int)) : Prop := ps.length = M.length ∧ ∀ (j : Nat) (p : Addr) (r : List Int), ps[j]? = some p → M[j]? = some r → H p = some (.lst (r.map V.int))
theorem nodup_ix {l : List Addr} (h : l.Nodup) {i j : Nat} {p : Addr} (hi : l[i]? = some p) (hj : l[j]? = some p) : i = j := by
  obtain ⟨a1, a2⟩ := List.getElem?_eq_some_iff.mp hi
  obtain ⟨b1, b2⟩ := List.getElem?_eq_some_iff.mp hj
  have pw := List.pairwise_iff_getElem.mp (List.nodup_iff_pairwise_ne.mp h)
  rcases Nat.lt_trichotomy i j with z | z | z
  · exact absurd (a2.trans b2.symm) (pw i j a1 b1 z)
  · exact z
  · exact absurd (b2.trans a2.symm) (pw j i b1 a1 z)
theorem RowsAt.set {H : Hp} {ps : List Addr} {M : List (List Int)} (h : RowsAt H ps M) (nd : ps.Nodup) {j : Nat} {p : Addr} (hj : ps[j]? = some p) (r : List Int) : RowsAt (upd H p (.lst (r.map V.int))) ps (M.set j r) := by
  refine ⟨by rw [List.length_set]; exact h.1, fun k q r' hk hr => ?_⟩
  by_cases e : k = j
  · subst e
    have : q = p := Option.some.inj (hk.symm.trans hj)
    subst this
    rw [List.getElem?_set_self (by have := (List.getElem?_eq_some_iff.mp hj).1; have := h.1; omega)] at hr
    cases hr
    exact upd_same
  · rw [List.getElem?_set_ne (fun z => e z.symm)] at hr
    have ne : q ≠ p := fun z => by
      subst z
      exact e (nodup_ix nd hk hj)
    rw [upd_ne ne]
    exact h.2 k q r' hk hr
end Th

/-! part DJ -/
namespace Th
open PySem PySem.Spec PyProof.Rows L2

theorem mat_len (a : Ask) : ∀ (ps : List (Cell × Nat)) (M : List (List Int)), (ps.foldl (matStep a) M).length = M.length
  | [], _ => rfl
  | p :: l, M => by rw [List.foldl_cons, mat_len a l]; exact List.length_set ..
theorem mat_row {a : Ask} {m : Nat} : ∀ (ps : List (Cell × Nat)) {M : List (List Int)}, (∀ r ∈ M, r.length = m) → ∀ r ∈ ps.foldl (matStep a) M, r.length = m
  | [], _, h => h
  | p :: l, M, h => by
    rw [List.foldl_cons]
    refine mat_row l fun r hr => ?_
    by_cases hs : sideOf a.1 p.1 < M.length
    · rcases List.mem_or_eq_of_mem_set hr with e | e
      · exact h r e
      · rw [e, List.length_set]; exact h _ (getD_mem hs)
    · unfold matStep at hr
      rw [List.set_eq_of_length_le (by omega)] at hr
      exact h r hr
theorem side_ix (k : Bool) (c : Cell) : atI ((plC c).map V.int) ((if k = true then 0 else 1 : Nat) : Int) = some (.int (sideOf k c : Nat)) := by cases k <;> rfl
theorem oth_ix (k : Bool) (c : Cell) : atI ((plC c).map V.int) ((1 : Int) - ((if k = true then 0 else 1 : Nat) : Int)) = some (.int (othOf k c : Nat)) := by cases k <;> rfl
def sp_span_rows : Sp := fun vs H Q _ => ∃ S v bv h w cells ls book, vs = [v, bv] ∧ Same S H ∧ MouldR S v h w cells ls ∧ sR askIn S bv book ∧ BookOk h w book ∧ CellsOk h w cells ∧ ls.length = cells.length ∧ h ≤ 6 ∧ w ≤ 6 ∧ manyN ls ≤ 100 ∧ cells.length ≤ 1000 ∧ ∀ S' H' u, Ext No S H S' H' → tR tI S' u (spanRows h w cells ls book) → Q u H'
def SpI (bv : V) (v : V) (H0 : Hp) (done : List (List Int)) (σ : L2.St) (S' H' : Hp) : Prop := ∃ l vs x3 x4 x5 x6 x7 x8 x9 x10, σ = [some v, some bv, some (.ref l), x3, x4, x5, x6, x7, x8, x9, x10, none] ∧ H0 l = none ∧ S' l = some (.lst vs) ∧ All2 (tI S') vs done
theorem ok_span_rows {P : Program} {w : World} {K : PySem.W.Frag} {mg : Str → Option Value} {base : Heap} (T : Tx K mg) : FnOk P w K mg base CX0 4 A_span_rows (fdAt K A_span_rows) P_span_rows sp_span_rows := by
  refine (fn_span_rows T).ok sc_span_rows (fun vs H Q E h => ?_) (fun cdv A outer s H vs Q E hr h => ?_)
  · obtain ⟨S, v, bv, h, w', cells, ls, book, rfl, _⟩ := h; rfl
  · obtain ⟨S, v, bv, h, w', cells, ls, book, rfl, hS, hm, hbk, hbo, hco, hll, h6, w6, hmn, hcl, q⟩ := h
    refine ⟨_, PSs.nox (pss_cons (ps_set (i := 2) sc_span_rows.nd rfl (.inl rfl) (pe_lst pa_nil))
      (pss_cons (ps_for PassesOwn.never rfl (pi_tup (pe_call (ok_check_book T) hr (by rfl) (g_check_book T) (fn_check_book T).kp (b_check_book T) .nil pass0 (pa_cons (pv 0) (pa_cons (pv 1) pa_nil)))) (pg_tup (by rfl) (pgs_cons (pg_name (i := 3) sc_span_rows.nd rfl (.inl rfl)) (pgs_cons (pg_name (i := 4) sc_span_rows.nd rfl (.inl rfl)) pgs_nil)))
      (pss_cons (ps_set (i := 5) sc_span_rows.nd rfl (.inl rfl) (pe_ifExp (pt_cmpR op_eq (pv 3) pe_str (nomark _)) pe_int pe_int))
      (pss_cons (ps_set (i := 6) sc_span_rows.nd rfl (.inl rfl) (pe_ifExp (pt_cmpR op_eq (pv 3) pe_str (nomark _)) (pe_fld (pv 0) rfl) (pe_fld (pv 0) rfl)))
      (pss_cons (ps_setLc (i := 7) (own := [("_", 11)]) (g := gName 11) rfl sc_span_rows.nd rfl rfl (sw_true rfl rfl rfl (by decide +kernel)) (pi_range1 (by rfl) (f_range T) (pa_cons (pv 6) pa_nil)) (blkOk_by (N := N_span_rows) (sc := defScope st_span_rows) (by decide +kernel)) (fun _ _ _ _ _ => (pg_name (i := 11) sc_span_rows.nd rfl (.inl rfl))) (fun _ _ _ _ _ => pts_nil) (fun _ _ _ _ _ => (pe_op op_rep (pe_lst (pa_cons pe_int pa_nil)) (pe_prop (pv 0) (k_Mould T) (p_letters_many T) (ok_Mould_letters_many T) (hr.mono (by decide)) (b_Mould_letters_many T) .nil pass0 rfl))))
      (pss_cons (ps_for PassesOwn.never rfl (RZ.pi_zipA (by rfl) (f_zip T) (pa_cons (pe_fld (pv 0) rfl) (pa_cons (pe_fld (pv 0) rfl) pa_nil))) (pg_tup (by rfl) (pgs_cons (pg_name (i := 8) sc_span_rows.nd rfl (.inl rfl)) (pgs_cons (pg_name (i := 9) sc_span_rows.nd rfl (.inl rfl)) pgs_nil)))
      (pss_cons (ps_set (i := 10) sc_span_rows.nd rfl (.inl rfl) (pe_ix ix_list (pv 7) (pe_ix ix_tup (pv 8) (pv 5) (fun _ _ => rfl)) (fun _ _ => rfl)))
      (pss_one (ps_asg (pe_op op_add (pe_ix ix_list (pv 10) (pv 9) (fun _ _ => rfl)) (pe_ix ix_tup (pv 4) (pe_ix ix_tup (pv 8) (pe_op op_sub pe_int (pv 5)) (fun _ _ => rfl)) (fun _ _ => rfl))) (pg_sub (pv 10) (pv 9) set_list)))))
      (pss_one (ps_set (i := 2) sc_span_rows.nd rfl (.inl rfl) (pe_op op_cat (pv 2) (pe_lc (own := [("row", 10)]) (g := gName 10) rfl sc_span_rows.nd (pi_list (pv 7)) (blkOk_by (N := N_span_rows) (sc := defScope st_span_rows) (by decide +kernel)) (fun _ _ _ _ _ => (pg_name (i := 10) sc_span_rows.nd rfl (.inl rfl))) (fun _ _ _ _ _ => pts_nil) (fun _ _ _ _ _ => (pe_callTy (show CallR _ (.type "tuple") (rTupleQ K) from call_tuple_of) (by rfl) (f_tuple T) bt_tuple (pa_cons (pv 10) pa_nil))))))))))))
      (pss_one (ps_ret (pe_callTy call_tuple_of (by rfl) (f_tuple T) bt_tuple (pa_cons (pv 2) pa_nil)))))), ?_⟩
    obtain ⟨ma, mx, cv, lv, rfl, hma, hcv, hlv⟩ := hm.ob
    refine ⟨Nat.zero_le _, fun p1 h1 => ?_⟩
    have e1 := (Ext.refl (m := No) hS).new (o := .lst []) h1
    refine ⟨_, rfl, _, rfl, _, _, _, h, w', cells, ls, book, rfl, e1.i, hm.mono e1.s, ?_, hbo, fun S2 H2 u2 e2 hu2 => ?_⟩
    · rcases hbk with z | z
      · exact .inl (lR_m askIn_m _ _ _ _ e1.s z)
      · exact .inr (tR_m askIn_m _ _ _ _ e1.s z)
    obtain ⟨ba, bvs, rfl, hba, hbs⟩ := hu2
    have e12 := e1.trans e2
    refine ⟨ba, rfl, ⟨_, SqT.of (e2.i _ _ hba)⟩, forE (S0 := S) (H0 := H) (m := No) (σ := [some (.ref ma), some bv, some (.ref p1), none, none, none, none, none, none, none, none, none]) (walk_tup (xs := bvs))
      (fun i σ S' H' => Same S2 S' ∧ SpI bv (.ref ma) H ((book.take i).flatMap (askMat h w' cells ls)) σ S' H') e12 ⟨Same.refl _, p1, [], _, _, _, _, _, _, _, _, rfl, h1, e2.s _ _ upd_same, .nil⟩ (fun _ _ _ _ _ e p => SqT.of (e.i _ _ (p.1 _ _ hba))) (fun i x σ S5 H5 H6 hi e5 p5 hy => ?_) fun σ S5 H5 e5 p5 => ?_⟩
    · obtain ⟨sm, l, vs, x3, x4, x5, x6, x7, x8, x9, x10, rfl, hl0, hl, al⟩ := p5
      obtain ⟨rfl, hx⟩ := hy
      obtain ⟨ak, f1, t, nv, rfl, ht, hnv⟩ := hbs.get hx
      obtain ⟨na, rfl, hna⟩ := tI_m _ _ _ _ sm hnv
      obtain ⟨akl, akn⟩ := hbo.2 ak (List.mem_of_getElem? f1)
      refine ⟨t, _, rfl, SqT.of (e5.i _ _ (sm _ _ ht)), rfl, _, _, rfl, _, _, rfl, rfl, ?_⟩
      refine ⟨_, rfl, rfl, _, rfl, ?_⟩
      rw [kS_col]
      refine ifE (.int ((if ak.1 = true then 0 else 1 : Nat) : Int)) ?_ (fun hk Q hq => by rw [if_pos hk] at hq; exact hq) (fun hk Q hq => by rw [if_neg (by rw [hk]; decide)] at hq; exact hq)
      refine ⟨_, rfl, rfl, _, rfl, ?_⟩
      rw [kS_col]
      have hma5 := e5.i _ _ (e5.s _ _ hma)
      refine ifE (.int ((linesOf h w' ak : Nat) : Int)) ?_ (fun hk Q hq => ?_) (fun hk Q hq => ?_)
      · have ln6 : linesOf h w' ak ≤ 6 := by unfold linesOf; split <;> omega
        have hm5 := hm.mono (S' := S5) e5.s
        refine ⟨_, rfl, ((linesOf h w' ak : Nat) : Int), rfl, by omega, by omega, lcD (m := No) (S0 := S5) (H0 := H6) (σ := [some (.ref ma), some bv, some (.ref l), some (.str (kS ak.1)), some (.ref na), some (.int ((if ak.1 = true then 0 else 1 : Nat) : Int)), some (.int ((linesOf h w' ak : Nat) : Int)), x7, x8, x9, x10, none]) walk0 (by omega) (fun _ z => z.elim)
          (fun d i acc S' H' => ∃ ps : List Addr, acc = ps.map V.ref ∧ ps.length = i ∧ ps.Nodup ∧ d ∉ ps ∧ (∀ p ∈ ps, H6 p = none ∧ S' p = none) ∧ RowsAt H' ps (List.replicate i (List.replicate (manyN ls) 0))) (Ext.refl e5.i) ?_ ?_ (fun _ _ _ _ _ _ _ _ => trivial) (fun d i x acc S7 H7 H8 Kt Kf hi hd0 hsd hld e7 p7 hy kt kf => ?_) fun d acc S7 H7 hd0 e7 hsd hld _ p7 => ?_⟩
        · rintro d i acc S' H' o ⟨ps, g1, g2, g3, g4, g5, g6⟩
          refine ⟨ps, g1, g2, g3, g4, g5, g6.1, fun j p r a1 a2 => ?_⟩
          rw [upd_ne (fun z => g4 (by rw [← z]; exact List.mem_of_getElem? a1))]
          exact g6.2 j p r a1 a2
        · intro d hd
          exact ⟨[], rfl, rfl, List.nodup_nil, List.not_mem_nil, (fun p hp => by cases hp), rfl, fun j p r a1 _ => by simp at a1⟩
        · obtain ⟨ps, rfl, g2, g3, g4, g5, g6⟩ := p7
          obtain ⟨rfl, rfl⟩ := hy
          refine ⟨rfl, (by show (1 : Nat) ≤ sizeLine; decide), fun p8 h8 => ?_⟩
          have e8 := (Ext.refl (m := No) e7.i).newM (o := .lst [.int 0]) h8
          refine ⟨_, rfl, ma, mx, _, rfl, e8.i _ _ (e7.s _ _ (e5.s _ _ hma)), S7, .ref ma, h, w', cells, ls, rfl, e8.i, hm5.mono e7.s, p8, _, _, rfl, rfl, upd_same, by omega, by omega, ?_, fun p9 h9 => ?_⟩
          · rw [Int.toNat_natCast]
            have := szLt (n := manyN ls) (by omega)
            show 1 * manyN ls ≤ _
            omega
          · rw [Int.toNat_natCast, flat1]
            have e9 := e8.newM (o := .lst (List.replicate (manyN ls) (.int 0))) h9
            have n9 : H8 p9 = none := e8.none1 h9
            have np : p9 ∉ ps := fun hp => by
              obtain ⟨k, hk⟩ := List.mem_iff_getElem?.mp hp
              have hk' := (List.getElem?_eq_some_iff.mp hk).1
              have := g6.2 k p9 (List.replicate (manyN ls) 0) hk (by rw [List.getElem?_replicate_of_lt (by omega)])
              rw [n9] at this; cases this
            refine kt _ S7 _ e9 ⟨ps ++ [p9], by rw [List.map_append]; rfl, by rw [List.length_append, g2]; rfl, ?_, ?_, ?_, ?_⟩
            · exact List.nodup_append.mpr ⟨g3, List.nodup_cons.mpr ⟨List.not_mem_nil, List.nodup_nil⟩, fun a ha b hb e => by rw [List.mem_singleton.mp hb] at e; rw [e] at ha; exact np ha⟩
            · intro hd
              rcases List.mem_append.mp hd with z | z
              · exact g4 z
              · rw [List.mem_singleton.mp z] at hld; rw [n9] at hld; cases hld
            · intro p hp
              rcases List.mem_append.mp hp with z | z
              · exact g5 p z
              · rw [List.mem_singleton.mp z]; exact ⟨e7.none1 n9, none_of_same e7.i n9⟩
            · refine ⟨by rw [List.length_append, List.length_replicate, g2]; rfl, fun j p r a1 a2 => ?_⟩
              by_cases hj : j < ps.length
              · rw [List.getElem?_append_left hj] at a1
                rw [List.getElem?_replicate_of_lt (by omega)] at a2
                cases a2
                have := g6.2 j p (List.replicate (manyN ls) 0) a1 (by rw [List.getElem?_replicate_of_lt (by omega)])
                exact e9.h _ _ (fun z => z) this
              · rw [List.getElem?_append_right (by omega)] at a1
                have hz : j - ps.length = 0 := by
                  cases hz : j - ps.length with
                  | zero => rfl
                  | succ m => rw [hz] at a1; simp at a1
                rw [hz] at a1
                cases a1
                rw [List.getElem?_replicate_of_lt (by omega)] at a2
                cases a2
                rw [upd_same, List.map_replicate]
        · obtain ⟨ps, rfl, g2, g3, g4, g5, g6⟩ := p7
          have e8 := e7.fix hd0 hsd hld
          have hd8 : upd S7 d (.lst (ps.map V.ref)) d = some (.lst (ps.map V.ref)) := upd_same
          have g7 : ∀ p ∈ ps, upd S7 d (.lst (ps.map V.ref)) p = none := fun p hp => by rw [upd_ne (fun z => g4 (by rw [← z]; exact hp))]; exact (g5 p hp).2
          generalize upd S7 d (.lst (ps.map V.ref)) = S8 at e8 hd8 g7
          have E58 := e5.trans e8
          have k8 : Same S S8 := E58.s
          obtain ⟨ca, cvs, rfl, hca, hcs⟩ := id hcv
          obtain ⟨la, rfl, hla⟩ := id hlv
          have cl := hcs.len
          rw [List.length_map] at cl
          have psl : ps.length = linesOf h w' ak := g2
          have z0 : ∀ r ∈ List.replicate (linesOf h w' ak) (List.replicate (manyN ls) (0 : Int)), r.length = manyN ls := fun r hr => by rw [(List.mem_replicate.mp hr).2, List.length_replicate]
          refine ⟨_, rfl, ma, C_Mould, mx, _, _, rfl, e8.i _ _ (k8 _ _ hma), T.kM, T.nM "cells" (by decide), rfl, _, rfl, ma, C_Mould, mx, _, _, rfl, e8.i _ _ (k8 _ _ hma), T.kM, T.nM "letters" (by decide), rfl, ca, la, cvs, _, rfl, .inr ⟨SqT.of (e8.i _ _ (k8 _ _ hca)), SqT.of (e8.i _ _ (k8 _ _ hla)), forE (S0 := S) (H0 := H) (m := No) (σ := [some (.ref ma), some bv, some (.ref l), some (.str (kS ak.1)), some (.ref na), some (.int ((if ak.1 = true then 0 else 1 : Nat) : Int)), some (.int ((linesOf h w' ak : Nat) : Int)), some (.ref d), x8, x9, x10, none]) (walk_zipT (xs := cvs) (ys := ls.map fun n : Nat => V.int n) (n := cells.length) (by omega) (by rw [List.length_map]; exact hll))
            (fun j σ S' H' => Same S8 S' ∧ (∃ x8 x9 x10, σ = [some (.ref ma), some bv, some (.ref l), some (.str (kS ak.1)), some (.ref na), some (.int ((if ak.1 = true then 0 else 1 : Nat) : Int)), some (.int ((linesOf h w' ak : Nat) : Int)), some (.ref d), x8, x9, x10, none]) ∧ (∀ p ∈ ps, S' p = none) ∧ RowsAt H' ps (((cells.zip ls).take j).foldl (matStep ak) (List.replicate (linesOf h w' ak) (List.replicate (manyN ls) 0))))
            E58 ⟨Same.refl _, ⟨_, _, _, rfl⟩, g7, g6⟩ (fun _ _ _ _ _ e _ => ⟨SqT.of (e.i _ _ (e.s _ _ hca)), SqT.of (e.i _ _ (e.s _ _ hla))⟩) (fun j x σ S9 H9 H10 hj e9 p9 hy => ?_) fun σ S9 H9 e9 p9 => ?_⟩⟩
          · obtain ⟨sm9, ⟨y8, y9, y10, rfl⟩, hp9, rows9⟩ := p9
            obtain ⟨tt, x', y', rfl, hT, rfl, f1, f2⟩ := hy
            obtain ⟨lt, f3, rfl⟩ := nat_get f2
            obtain ⟨cI, f4, cta, rfl, hcta⟩ := hcs.get f1
            rw [List.getElem?_map] at f4
            cases hcj : cells[j]? with
            | none => rw [hcj] at f4; cases f4
            | some c =>
              rw [hcj] at f4
              cases f4
              have zj : (cells.zip ls)[j]? = some (c, lt) := List.getElem?_zip_eq_some.mpr ⟨hcj, f3⟩
              have e10 := (Ext.refl (m := No) e9.i).newM (o := .tup [.ref cta, .int (lt : Int)]) hT
              have E10 := e9.trans e10
              obtain ⟨cb1, cb2⟩ := hco.1 c (List.mem_of_getElem? hcj)
              have ltm : lt < manyN ls := fresh_le ls lt (List.mem_of_getElem? f3)
              have sdl : sideOf ak.1 c < linesOf h w' ak := by unfold sideOf linesOf; split <;> omega
              have otl : othOf ak.1 c < ak.2.length := by rw [akl]; unfold othOf; split <;> omega
              have mlen : (((cells.zip ls).take j).foldl (matStep ak) (List.replicate (linesOf h w' ak) (List.replicate (manyN ls) 0))).length = linesOf h w' ak := by rw [mat_len, List.length_replicate]
              have mrow := mat_row (a := ak) ((cells.zip ls).take j) z0
              have mst : ((cells.zip ls).take (j + 1)).foldl (matStep ak) (List.replicate (linesOf h w' ak) (List.replicate (manyN ls) 0)) = matStep ak (((cells.zip ls).take j).foldl (matStep ak) (List.replicate (linesOf h w' ak) (List.replicate (manyN ls) 0))) (c, lt) := by rw [take_get zj, List.foldl_append]; rfl
              generalize ((cells.zip ls).take j).foldl (matStep ak) (List.replicate (linesOf h w' ak) (List.replicate (manyN ls) 0)) = M at rows9 mlen mrow mst
              have sdp : sideOf ak.1 c < ps.length := by omega
              have hpk : ps[sideOf ak.1 c]? = some ps[sideOf ak.1 c] := List.getElem?_eq_getElem sdp
              generalize ps[sideOf ak.1 c] = pr at hpk
              have hMk : M[sideOf ak.1 c]? = some (M.getD (sideOf ak.1 c) []) := by rw [List.getD_eq_getElem?_getD, List.getElem?_eq_getElem (by omega)]; rfl
              have hrl : (M.getD (sideOf ak.1 c) []).length = manyN ls := mrow _ (List.mem_of_getElem? hMk)
              have hpr := rows9.2 _ _ _ hpk hMk
              have hpr10 := e10.h _ _ (fun z => z) hpr
              have prm := List.mem_of_getElem? hpk
              refine ⟨tt, _, rfl, SqT.of upd_same, rfl, _, _, rfl, _, _, rfl, rfl, ?_⟩
              have hct10 := e10.i _ _ (e9.s _ _ hcta)
              refine ⟨_, rfl, _, rfl, _, rfl, _, _, _, _, rfl, rfl, SqT.of hct10, side_ix ak.1 c, _, _, _, _, rfl, rfl, SqL.of (e10.i _ _ (sm9 _ _ hd8)), atI_nat (by rw [List.getElem?_map, hpk]; rfl), ?_⟩
              refine ⟨_, rfl, _, rfl, _, _, _, _, rfl, rfl, SqL.of hpr10, atI_nat (by rw [List.getElem?_map, List.getElem?_eq_getElem (show lt < (M.getD (sideOf ak.1 c) []).length by omega)]; rfl), _, rfl, _, rfl, _, rfl, _, _, rfl, rfl, _, _, _, _, rfl, rfl, SqT.of hct10, oth_ix ak.1 c, _, _, _, _, rfl, rfl, SqT.of (E10.i _ _ ((sm9.trans e10.s) _ _ (e8.s _ _ hna))), atI_nat (by rw [List.getElem?_map, List.getElem?_eq_getElem otl]; rfl), _, _, rfl, rfl, ?_⟩
              refine ⟨_, rfl, _, rfl, pr, _, (lt : Int), lt, rfl, rfl, hpr10, ixN_nat (by rw [List.length_map]; omega), ?_⟩
              have E11 := E10.mut (o := .lst (((M.getD (sideOf ak.1 c) []).set lt ((M.getD (sideOf ak.1 c) [])[lt]'(by omega) + ak.2[othOf ak.1 c])).map V.int)) (.inl (e5.none1 (g5 pr prm).1)) (hp9 pr prm)
              have R10 : RowsAt (upd H9 tt (.tup [.ref cta, .int (lt : Int)])) ps M := ⟨rows9.1, fun j p r a1 a2 => e10.h _ _ (fun z => z) (rows9.2 j p r a1 a2)⟩
              have R11 := R10.set g3 hpk ((M.getD (sideOf ak.1 c) []).set lt ((M.getD (sideOf ak.1 c) [])[lt]'(by omega) + ak.2[othOf ak.1 c]))
              rw [List.map_set] at E11 R11
              refine ⟨S9, E11, sm9, ⟨some (.ref cta), some (.int (lt : Int)), some (.ref pr), rfl⟩, hp9, ?_⟩
              rw [mst]
              unfold matStep
              have q1 : (M.getD (sideOf ak.1 c) []).getD lt 0 = (M.getD (sideOf ak.1 c) [])[lt]'(by omega) := by rw [List.getD_eq_getElem?_getD, List.getElem?_eq_getElem (by omega)]; rfl
              have q2 : ak.2.getD (othOf ak.1 c) 0 = ak.2[othOf ak.1 c] := by rw [List.getD_eq_getElem?_getD, List.getElem?_eq_getElem otl]; rfl
              rw [q1, q2]
              exact R11
          · obtain ⟨sm9, ⟨y8, y9, y10, rfl⟩, hp9, rows9⟩ := p9
            rw [take_all (show cells.length = (cells.zip ls).length by rw [List.length_zip]; omega)] at rows9
            have mm : (cells.zip ls).foldl (matStep ak) (List.replicate (linesOf h w' ak) (List.replicate (manyN ls) 0)) = askMat h w' cells ls ak := rfl
            have mlen : (askMat h w' cells ls ak).length = linesOf h w' ak := by rw [← mm, mat_len, List.length_replicate]
            rw [mm] at rows9
            have hd9 := sm9 _ _ hd8
            refine ⟨_, rfl, _, rfl, d, rfl, ⟨_, SqL.of (e9.i _ _ hd9)⟩, lcP (S0 := S9) (H0 := H9) (σ := [some (.ref ma), some bv, some (.ref l), some (.str (kS ak.1)), some (.ref na), some (.int ((if ak.1 = true then 0 else 1 : Nat) : Int)), some (.int ((linesOf h w' ak : Nat) : Int)), some (.ref d), y8, y9, y10, none]) (walk_list (xs := ps.map V.ref)) (by rw [List.length_map]; omega)
              (fun i acc S' => All2 (tI S') acc ((askMat h w' cells ls ak).take i)) (Ext.refl e9.i) .nil (fun _ _ _ _ _ e _ => SqL.of (e.i _ _ (e.s _ _ hd9))) (fun i x acc S2 H2 H3 Kt Kf hi e p hy kt kf => ?_) fun d2 acc S10 H10 hd2 e10 hs10 he10 _ p10 => ?_⟩
            · obtain ⟨rfl, hx⟩ := hy
              rw [List.getElem?_map] at hx
              cases hpi : ps[i]? with
              | none => rw [hpi] at hx; cases hx
              | some pr =>
                rw [hpi] at hx
                cases hx
                have il := (List.getElem?_eq_some_iff.mp hpi).1
                have hM : (askMat h w' cells ls ak)[i]? = some ((askMat h w' cells ls ak)[i]'(by omega)) := List.getElem?_eq_getElem (by omega)
                have hr := e.h _ _ (fun z => z) (rows9.2 i pr _ hpi hM)
                refine ⟨rfl, _, rfl, pr, _, rfl, .inl ⟨SqL.of hr, fun t9 ht9 => kt _ _ _ ((Ext.refl e.i).new ht9) ?_⟩⟩
                rw [take_get hM]
                exact (p.mono tI_m (same_upd (none_of_same e.i ht9))).snoc ⟨t9, rfl, upd_same⟩
            · have pl : (ps.map V.ref).length = (askMat h w' cells ls ak).length := by rw [List.length_map]; omega
              rw [take_all pl] at p10
              have k5 : Same S5 S10 := (e8.s.trans sm9).trans e10.s
              have p10l := p10.len
              have all := al.len
              have blen : vs.length ≤ 60 := by
                rw [all]
                have key : ∀ (l : List Ask), (l.flatMap (askMat h w' cells ls)).length ≤ l.length * 6 := by
                  intro l
                  induction l with
                  | nil => exact Nat.zero_le _
                  | cons y l ih =>
                    rw [List.flatMap_cons, List.length_append, List.length_cons, Nat.succ_mul]
                    have : (askMat h w' cells ls y).length ≤ 6 := by
                      unfold askMat
                      rw [mat_len, List.length_replicate]; unfold linesOf; split <;> omega
                    omega
                have := key (book.take i)
                have b8 := hbo.1
                rw [List.length_take] at this
                have : min i book.length * 6 ≤ 8 * 6 := Nat.mul_le_mul_right _ (by omega)
                omega
              refine ⟨l, d2, vs, acc, rfl, rfl, e10.i _ _ (k5 _ _ hl), he10, Nat.le_of_lt (szLt (by omega)), fun p11 h11 => ?_⟩
              have E10 := e9.trans e10
              have E11 := E10.new (o := .lst (vs ++ acc)) h11
              have kk := same_upd (o := .lst (vs ++ acc)) (none_of_same E10.i h11)
              refine ⟨_, E11, (sm.trans k5).trans kk, p11, vs ++ acc, some (.str (kS ak.1)), some (.ref na), some (.int ((if ak.1 = true then 0 else 1 : Nat) : Int)), some (.int ((linesOf h w' ak : Nat) : Int)), some (.ref d), y8, y9, y10, rfl, E10.none1 h11, upd_same, ?_⟩
              rw [take_get f1, List.flatMap_append, List.flatMap_cons, List.flatMap_nil, List.append_nil]
              exact (al.mono tI_m (k5.trans kk)).app (p10.mono tI_m kk)
      · refine ⟨_, rfl, ma, C_Mould, mx, _, _, rfl, hma5, T.kM, T.nM "height" (by decide), rfl, ?_⟩
        unfold linesOf at hq
        rw [if_pos hk] at hq; exact hq
      · refine ⟨_, rfl, ma, C_Mould, mx, _, _, rfl, hma5, T.kM, T.nM "width" (by decide), rfl, ?_⟩
        unfold linesOf at hq
        rw [if_neg (by rw [hk]; decide)] at hq; exact hq
    · obtain ⟨sm, l, vs, x3, x4, x5, x6, x7, x8, x9, x10, rfl, hl0, hl, al⟩ := p5
      rw [take_all hbs.len] at al
      exact ⟨_, rfl, l, vs, rfl, .inl ⟨SqL.of (e5.i _ _ hl), fun t9 ht9 => q _ _ _ (e5.new ht9) ⟨t9, vs, rfl, upd_same, al.mono tI_m (same_upd (none_of_same e5.i ht9))⟩⟩⟩
end Th

/-! part DK -/
namespace Th
open PySem PySem.Spec PyProof.Rows L2

abbrev Rat2 := Int × Int
def plusR (x y : Rat2) : Rat2 := mkR (x.1 * y.2 + y.1 * x.2) (x.2 * y.2)
def timesR (x y : Rat2) : Rat2 := mkR (x.1 * y.1) (x.2 * y.2)
def rowSum (row : List Int) (rs : List Rat2) : Rat2 := (row.zip rs).foldl (fun t p => plusR t (timesR (mkR p.1 1) p.2)) (mkR 0 1)
theorem mkR_pos {a b : Int} (h : 0 < b) : mkR a b = (a / gI a b, b / gI a b) := if_neg (by omega)
/-- a positive bottom stays so, and nothing grows -/
theorem mkR_ok {a b : Int} (h : 0 < b) : 0 < (mkR a b).2 ∧ (mkR a b).1.natAbs ≤ a.natAbs ∧ (mkR a b).2.natAbs ≤ b.natAbs := by
  rw [mkR_pos h]
  have g := gI_pos_r a (show b ≠ 0 by omega)
  obtain ⟨k, hk⟩ := gI_dr a b
  refine ⟨?_, ediv_le g (gI_dl a b), ediv_le g (gI_dr a b)⟩
  show 0 < b / gI a b
  have e : b / gI a b = k := by
    have h1 : b / gI a b = (gI a b * k) / gI a b := congrArg (· / gI a b) hk
    rw [h1, Int.mul_ediv_cancel_left k (by omega)]
  rw [e]
  rcases Int.lt_trichotomy k 0 with z | z | z
  · rw [hk] at h
    have := Int.mul_neg_of_pos_of_neg g z
    omega
  · rw [z, Int.mul_zero] at hk; omega
  · exact z
theorem plusR_bd {x y : Rat2} {a b : Nat} (hx : 0 < x.2) (hy : 0 < y.2) (h1 : x.1.natAbs < 2 ^ a) (h2 : y.1.natAbs < 2 ^ a) (h3 : x.2.natAbs < 2 ^ b) (h4 : y.2.natAbs < 2 ^ 3) (hb : 3 ≤ b) : 0 < (plusR x y).2 ∧ (plusR x y).1.natAbs < 2 ^ (a + b + 1) ∧ (plusR x y).2.natAbs < 2 ^ (b + 3) := by
  obtain ⟨g1, g2, g3⟩ := mkR_ok (a := x.1 * y.2 + y.1 * x.2) (Int.mul_pos hx hy)
  refine ⟨g1, Nat.lt_of_le_of_lt g2 (add_bd (mul_bd h1 (Nat.lt_of_lt_of_le h4 (Nat.pow_le_pow_right (by decide) hb))) (mul_bd h2 h3)), Nat.lt_of_le_of_lt g3 (mul_bd h3 h4)⟩
/-- the total after i of the pairs -/
def sumAt (row : List Int) (rs : List Rat2) (i : Nat) : Rat2 := ((row.zip rs).take i).foldl (fun t p => plusR t (timesR (mkR p.1 1) p.2)) (mkR 0 1)
theorem one_rat (n : Int) : mkR n 1 = (n, 1) := by
  rw [mkR_pos (by decide)]
  have : gI n 1 = 1 := by unfold gI; show ((Nat.gcd n.natAbs 1 : Nat) : Int) = 1; rw [Nat.gcd_one_right]; rfl
  rw [this, Int.ediv_one]; rfl
theorem sumAt_succ {row : List Int} {rs : List Rat2} {i : Nat} {n : Int} {r : Rat2} (h1 : row[i]? = some n) (h2 : rs[i]? = some r) : sumAt row rs (i + 1) = plusR (sumAt row rs i) (timesR (mkR n 1) r) := by
  unfold sumAt
  rw [take_get (List.getElem?_zip_eq_some.mpr ⟨h1, h2⟩ : (row.zip rs)[i]? = some (n, r)), List.foldl_append]; rfl
def RatsOk (rs : List Rat2) : Prop := ∀ r ∈ rs, 0 < r.2 ∧ r.2.natAbs < 2 ^ 3 ∧ r.1.natAbs < 2 ^ 9000
theorem times_bd {n : Int} {r : Rat2} (hn : n.natAbs < 2 ^ 33) (h0 : 0 < r.2) (h1 : r.2.natAbs < 2 ^ 3) (h2 : r.1.natAbs < 2 ^ 9000) : 0 < (timesR (mkR n 1) r).2 ∧ (timesR (mkR n 1) r).1.natAbs < 2 ^ 9033 ∧ (timesR (mkR n 1) r).2.natAbs < 2 ^ 3 := by
  rw [one_rat]
  unfold timesR
  obtain ⟨g1, g2, g3⟩ := mkR_ok (a := n * r.1) (b := 1 * r.2) (by rw [Int.one_mul]; exact h0)
  refine ⟨g1, Nat.lt_of_le_of_lt g2 ?_, Nat.lt_of_le_of_lt g3 ?_⟩
  · exact mul_bd (b := 9000) hn h2
  · rw [Int.one_mul]; exact h1
theorem sumAt_bd {row : List Int} {rs : List Rat2} (hr : Bd 33 row) (hs : RatsOk rs) : ∀ i, i ≤ row.length → i ≤ rs.length → 0 < (sumAt row rs i).2 ∧ (sumAt row rs i).1.natAbs < 2 ^ (9033 + i * (3 * i + 10)) ∧ (sumAt row rs i).2.natAbs < 2 ^ (3 * i + 3)
  | 0, _, _ => by
    show 0 < (mkR 0 1).2 ∧ (mkR 0 1).1.natAbs < 2 ^ _ ∧ (mkR 0 1).2.natAbs < 2 ^ _
    rw [one_rat]
    exact ⟨by decide, Nat.two_pow_pos _, by show (1 : Nat) < 2 ^ 3; decide⟩
  | i + 1, h1, h2 => by
    obtain ⟨a1, a2, a3⟩ := sumAt_bd hr hs i (by omega) (by omega)
    have e1 : row[i]? = some row[i] := List.getElem?_eq_getElem (by omega)
    have e2 : rs[i]? = some rs[i] := List.getElem?_eq_getElem (by omega)
    obtain ⟨s1, s2, s3⟩ := hs _ (List.mem_of_getElem? e2)
    obtain ⟨t1, t2, t3⟩ := times_bd (hr _ (List.mem_of_getElem? e1)) s1 s2 s3
    rw [sumAt_succ e1 e2]
    obtain ⟨p1, p2, p3⟩ := plusR_bd (a := 9033 + i * (3 * i + 10)) (b := 3 * i + 3) a1 t1 a2 (Nat.lt_of_lt_of_le t2 (Nat.pow_le_pow_right (by decide) (by omega))) a3 t3 (by omega)
    refine ⟨p1, Nat.lt_of_lt_of_le p2 (Nat.pow_le_pow_right (by decide) ?_), p3⟩
    have : (i + 1) * (3 * (i + 1) + 10) = i * (3 * i + 10) + 3 * i + (3 * i + 13) := by
      rw [Nat.succ_mul, show 3 * (i + 1) + 10 = (3 * i + 10) + 3 by omega, Nat.mul_add]; omega
    omega
def sp_row_sum : Sp := fun vs H Q _ => ∃ S v w row rs, vs = [v, w] ∧ Same S H ∧ tI S v row ∧ lR ratR S w rs ∧ row.length = rs.length ∧ row.length ≤ 30 ∧ Bd 33 row ∧ RatsOk rs ∧ ∀ S' H' u, Ext No S H S' H' → ratR S' u (rowSum row rs) → Q u H'
theorem ratR_m : MonoR ratR := pR_m rI_m rI_m
theorem ok_row_sum {P : Program} {w : World} {K : PySem.W.Frag} {mg : Str → Option Value} {base : Heap} (T : Tx K mg) : FnOk P w K mg base CX0 4 A_row_sum (fdAt K A_row_sum) P_row_sum sp_row_sum := by
  refine (fn_row_sum T).ok sc_row_sum (fun vs H Q E h => ?_) (fun cdv A outer s H vs Q E hr h => ?_)
  · obtain ⟨S, v, w, row, rs, rfl, _⟩ := h; rfl
  · obtain ⟨S, v, w', row, rs, rfl, hS, ⟨a, rfl, ha⟩, ⟨b, vs, rfl, hb, hv⟩, hlen, h30, hbd, hok, q⟩ := h
    refine ⟨_, PSs.nox (pss_cons (ps_set (i := 2) sc_row_sum.nd rfl (.inl rfl) (pe_call (ok_make_ratio T) (hr.mono (by decide)) (by rfl) (g_make_ratio T) (fn_make_ratio T).kp (b1_make_ratio T).choose_spec.2 (b1_make_ratio T).choose_spec.1 pass0 (pa_cons pe_int pa_nil)))
      (pss_cons (ps_for PassesOwn.never rfl (pi_zipTL (by rfl) (f_zip T) (pa_cons (pv 0) (pa_cons (pv 1) pa_nil))) (pg_tup (by rfl) (pgs_cons (pg_name (i := 3) sc_row_sum.nd rfl (.inl rfl)) (pgs_cons (pg_name (i := 4) sc_row_sum.nd rfl (.inl rfl)) pgs_nil)))
      (pss_one (ps_set (i := 2) sc_row_sum.nd rfl (.inl rfl) (pe_call (ok_ratio_plus T) hr (by rfl) (g_ratio_plus T) (fn_ratio_plus T).kp (b_ratio_plus T) .nil pass0 (pa_cons (pv 2) (pa_cons (pe_call (ok_ratio_times T) hr (by rfl) (g_ratio_times T) (fn_ratio_times T).kp (b_ratio_times T) .nil pass0 (pa_cons (pe_call (ok_make_ratio T) (hr.mono (by decide)) (by rfl) (g_make_ratio T) (fn_make_ratio T).kp (b1_make_ratio T).choose_spec.2 (b1_make_ratio T).choose_spec.1 pass0 (pa_cons (pv 3) pa_nil)) (pa_cons (pv 4) pa_nil))) pa_nil))))))
      (pss_one (ps_ret (pv 2))))), ?_⟩
    have vl := hv.len
    refine ⟨S, 0, 1, rfl, hS, by decide, by decide, fun S1 H1 u1 e1 hu1 => ?_⟩
    have rl : row.length = (row.map V.int).length := (List.length_map ..).symm
    refine ⟨_, rfl, _, rfl, a, b, _, _, rfl, SqT.of (e1.i _ _ (e1.s _ _ ha)), SqL.of (e1.i _ _ (e1.s _ _ hb)), forE (S0 := S) (H0 := H) (m := No) (σ := [some (.ref a), some (.ref b), some u1, none, none]) (walk_zipM (xs := row.map V.int) (ys := vs) (n := row.length) (List.length_map ..) (by omega))
      (fun i σ S' H' => ∃ u x3 x4, σ = [some (.ref a), some (.ref b), some u, x3, x4] ∧ ratR S' u (sumAt row rs i)) e1 ⟨u1, none, none, rfl, hu1⟩ (fun _ _ _ _ _ e _ => ⟨SqT.of (e.i _ _ (e.s _ _ ha)), SqL.of (e.i _ _ (e.s _ _ hb))⟩) (fun i x σ S5 H5 H6 hi e5 p5 hy => ?_) fun σ S5 H5 e5 p5 => ?_⟩
    · obtain ⟨u, x3, x4, rfl, hu⟩ := p5
      obtain ⟨t, x', y', rfl, hT, rfl, f1, f2⟩ := hy
      obtain ⟨n, f3, rfl⟩ := map_get f1
      obtain ⟨r, f4, hr⟩ := hv.get f2
      obtain ⟨s1, s2, s3⟩ := hok r (List.mem_of_getElem? f4)
      have hn := hbd n (List.mem_of_getElem? f3)
      obtain ⟨t1, t2, t3⟩ := times_bd hn s1 s2 s3
      obtain ⟨a1, a2, a3⟩ := sumAt_bd hbd hok i (by omega) (by omega)
      have e6 := (Ext.refl (m := No) e5.i).newM (o := .tup [.int n, y']) hT
      refine ⟨t, _, rfl, SqT.of upd_same, rfl, _, _, rfl, _, _, rfl, rfl, ?_⟩
      refine ⟨_, rfl, _, rfl, S5, n, 1, rfl, e6.i, by decide, by decide, fun S7 H7 u7 e7 hu7 => ?_⟩
      have e67 := e6.trans e7
      refine ⟨_, rfl, S7, u7, y', mkR n 1, r, rfl, e7.i, hu7, ratR_m _ _ _ _ (e5.s.trans e67.s) hr, by rw [one_rat]; exact Int.zero_lt_one, s1, ?_, ?_, ?_, ?_, fun S8 H8 u8 e8 hu8 => ?_⟩
      · rw [one_rat]; exact Nat.lt_of_lt_of_le hn (Nat.pow_le_pow_right (by decide) (by decide))
      · exact Nat.lt_of_lt_of_le s3 (Nat.pow_le_pow_right (by decide) (by decide))
      · rw [one_rat]; exact Nat.one_lt_two_pow (by decide)
      · exact Nat.lt_of_lt_of_le s2 (Nat.pow_le_pow_right (by decide) (by decide))
      have e678 := e67.trans e8
      have il : i ≤ 30 := by omega
      have ib : i * (3 * i + 10) ≤ 30 * 100 := Nat.mul_le_mul il (by omega)
      refine ⟨S8, u, u8, sumAt row rs i, timesR (mkR n 1) r, rfl, e8.i, ratR_m _ _ _ _ e678.s hu, hu8, a1, t1, ?_, ?_, ?_, ?_, fun S9 H9 u9 e9 hu9 => ?_⟩
      · exact Nat.lt_of_lt_of_le a2 (Nat.pow_le_pow_right (by decide) (by omega))
      · exact Nat.lt_of_lt_of_le t2 (Nat.pow_le_pow_right (by decide) (by decide))
      · exact Nat.lt_of_lt_of_le a3 (Nat.pow_le_pow_right (by decide) (by omega))
      · exact Nat.lt_of_lt_of_le t3 (Nat.pow_le_pow_right (by decide) (by decide))
      refine ⟨S9, (e5.trans e678).trans e9, u9, some (.int n), some y', rfl, ?_⟩
      rw [sumAt_succ f3 f4]; exact hu9
    · obtain ⟨u, x3, x4, rfl, hu⟩ := p5
      refine ⟨_, rfl, q _ _ _ e5 ?_⟩
      have : rowSum row rs = sumAt row rs row.length := by
        unfold sumAt
        rw [take_all (show row.length = (row.zip rs).length by rw [List.length_zip]; omega)]; rfl
      rw [this]; exact hu
end Th

/-! part DL -/
namespace Th
open PySem PySem.Spec PyProof.Rows L2

def oR : Rp (Option Int) := fun _ v x => v = oV x
theorem oR_m : MonoR oR := fun _ _ _ _ _ h => h
def ansR : Rp (Option (List (Option Int))) := optR (sR oR)
theorem ansR_m : MonoR ansR := optR_m (sR_m oR_m)
def strR : Rp Str := fun _ v x => v = .str x
theorem strR_m : MonoR strR := fun _ _ _ _ _ h => h
structure LostR (S : Hp) (v : V) (A : Option (List (Option Int))) (ns : List Nm) : Prop where
  ob : ∃ a dx av nv, v = .ref a ∧ S a = some (.ins C_Lost dx [("answers", av), ("numbers", nv)]) ∧ ansR S av A ∧ sR nmR S nv ns
theorem LostR.mono {S S' : Hp} {v : V} {A : Option (List (Option Int))} {ns : List Nm} (k : Same S S') (m : LostR S v A ns) : LostR S' v A ns := by
  obtain ⟨a, dx, av, nv, e, h1, h2, h3⟩ := m.ob
  exact ⟨a, dx, av, nv, e, k _ _ h1, ansR_m _ _ _ _ k h2, sR_m nmR_m _ _ _ _ k h3⟩
def prevOf (l : List (Option Int)) (i : Nat) : Int := (l.getD (i - 1) none).getD 0
def okOne (m i : Nat) (p : Int) : Option Int → Bool
  | none => false
  | some n => decide (0 ≤ n) && decide (n ≤ (m : Int) - 1) && (decide (i = 0) || decide (p < n))
def okAt (m : Nat) (l : List (Option Int)) (i : Nat) : Bool := okOne m i (prevOf l i) (l.getD i none)
def ansOk (m : Nat) (l : List (Option Int)) : Bool := (List.range l.length).all (okAt m l)
def ratsOf (ns : List Nm) : List Rat2 := ns.map fun x => (asRat x).getD (0, 1)
def wAnswers : Str := Str.ofString "answers"
def wMany : Str := Str.ofString "many"
def wOutside : Str := Str.ofString "outside"
def wLetter : Str := Str.ofString "letter"
def lostFault (rows : List (List Int)) (many letter : Nat) (A : Option (List (Option Int))) (ns : List Nm) : Option Str := match A with
  | none => some wAnswers
  | some l => if ansOk rows.length l = false then some wAnswers else if ns.length ≠ many then some wMany else if (ns.any fun x => (asRat x).isNone) = true then some wMany
    else if ((List.range rows.length).any fun i => decide (some (i : Int) ∉ l) && decide ((rowSum (rows.getD i []) (ratsOf ns)).1 ≠ 0)) = true then some wOutside else if ((ratsOf ns).getD letter (0, 1)).1 = 0 then some wLetter else none
def NumsOk (ns : List Nm) : Prop := ∀ x ∈ ns, ∀ r, asRat x = some r → 0 < r.2 ∧ r.2.natAbs < 2 ^ 3 ∧ r.1.natAbs < 2 ^ 9000
theorem room65 {k : Nat} {A : Around} (r : Room k A) : A.units + 65 < cLine := by have := r.un; omega
theorem oV_ty (H : Hp) (x : Option Int) : ∃ t, tyN H (oV x) = some t := by
  cases x with
  | none => exact ⟨_, rfl⟩
  | some n => exact ⟨_, rfl⟩
theorem inV_opt {c : Int} {l : List (Option Int)} : inV (.int c) (l.map oV) = decide (some c ∈ l) := by
  unfold inV
  rw [List.any_map]
  by_cases h : some c ∈ l
  · rw [decide_eq_true h]
    refine List.any_eq_true.mpr ⟨some c, h, ?_⟩
    show (c == c) = true
    exact beq_self_eq_true _
  · rw [decide_eq_false h]
    refine List.any_eq_false.mpr fun x hx => ?_
    cases x with
    | none => intro z; cases z
    | some n =>
      show ¬ (n == c) = true
      intro z
      have : n = c := eq_of_beq z
      subst this; exact h hx
theorem flat_opt (l : List (Option Int)) : (l.map oV).all flatV = true := by
  refine List.all_eq_true.mpr fun x hx => ?_
  obtain ⟨y, _, rfl⟩ := List.mem_map.mp hx
  cases y <;> rfl
theorem all2_oV {S : Hp} : ∀ {vs : List V} {l : List (Option Int)}, All2 (oR S) vs l → vs = l.map oV
  | _, _, .nil => rfl
  | _, _, .cons h t => by rw [show _ = oV _ from h, all2_oV t]; rfl
/-! data of the ratios -/
def datR : Option Rat2 → PyData
  | none => .none
  | some r => .tuple [.int r.1, .int r.2]
theorem dp_rats {K : PySem.W.Frag} {S H : Hp} (hS : Same S H) : ∀ {vs : List V} {l : List (Option Rat2)}, All2 (optR ratR S) vs l → DpAll K H vs (l.map datR)
  | _, _, .nil => .nil
  | _, _, .cons (a := v) (b := x) h t => by
    refine .cons ?_ (dp_rats hS t)
    cases x with
    | none => cases (show v = .non from h); exact .non
    | some r =>
      obtain ⟨p, rfl, tp⟩ := rat_ix (K := K) hS (show ratR S v r from h)
      exact .tup tp (.cons (.int _) (.cons (.int _) .nil))
theorem sh_rats (l : List (Option Rat2)) : SeqAt.shaped (.list (l.map datR)) = true := by
  have h1 : PyData.canLayAll0 (l.map datR) = true := by
    induction l with
    | nil => rfl
    | cons x l ih =>
      rw [List.map_cons]
      show (PyData.canLay0 (datR x) && PyData.canLayAll0 (l.map datR)) = true
      rw [ih, Bool.and_true]
      cases x <;> rfl
  have h2 : PyData.depthAll (l.map datR) ≤ 1 := by
    induction l with
    | nil => exact Nat.zero_le _
    | cons x l ih =>
      rw [List.map_cons]
      show max (PyData.depth (datR x)) (PyData.depthAll (l.map datR)) ≤ 1
      have h3 : PyData.depthAll (l.map datR) ≤ 1 := by
        refine ih ?_
        rw [List.map_cons] at h1
        exact (Bool.and_eq_true_iff.mp (show (PyData.canLay0 (datR x) && PyData.canLayAll0 (l.map datR)) = true from h1)).2
      have h4 : PyData.depth (datR x) ≤ 1 := by
        cases x with
        | none => exact Nat.zero_le _
        | some r => show max 0 (max 0 0) + 1 ≤ 1; decide
      omega
  show (PyData.canLayAll0 (l.map datR) && decide (PyData.depthAll (l.map datR) + 1 ≤ 64)) = true
  rw [h1, decide_eq_true (by omega)]; rfl
theorem any_rats (l : List (Option Rat2)) : ((l.map datR).any fun z => PyData.eqv z .none) = l.any Option.isNone := by
  rw [List.any_map]
  congr 1
  funext x
  cases x with
  | none => rfl
  | some r => rfl
def sp_lost_fault : Sp := fun vs H Q _ => ∃ S v bv ov h w cells ls book A ns, ∃ l : Nat, vs = [v, bv, .int (l : Int), ov] ∧ Same S H ∧ MouldR S v h w cells ls ∧ sR askIn S bv book ∧ BookOk h w book ∧ CellsOk h w cells ∧ ls.length = cells.length ∧ h ≤ 6 ∧ w ≤ 6 ∧ manyN ls ≤ 30 ∧ cells.length ≤ 1000 ∧
  (∀ r ∈ spanRows h w cells ls book, r.length = manyN ls ∧ Bd 33 r) ∧ l < manyN ls ∧ LostR S ov A ns ∧ NumsOk ns ∧ ns.length ≤ 1000 ∧ ∀ S' H' u, Ext No S H S' H' → optR strR S' u (lostFault (spanRows h w cells ls book) (manyN ls) l A ns) → Q u H'
theorem ok_lost_fault {P : Program} {w : World} {K : PySem.W.Frag} {mg : Str → Option Value} {base : Heap} (T : Tx K mg) : FnOk P w K mg base CX0 5 A_lost_fault (fdAt K A_lost_fault) P_lost_fault sp_lost_fault := by
  refine (fn_lost_fault T).ok sc_lost_fault (fun vs H Q E h => ?_) (fun cdv A outer s H vs Q E hr h => ?_)
  · obtain ⟨S, v, bv, ov, h, w', cells, ls, book, A', ns, l, rfl, _⟩ := h; rfl
  · obtain ⟨S, v, bv, ov, h, w', cells, ls, book, An, ns, l, rfl, hS, hm, hbk, hbo, hco, hll, h6, w6, hmn, hcl, hrw, hl, hlo, hno, hnl, q⟩ := h
    refine ⟨_, PSs.nox (pss_cons (ps_set (i := 4) sc_lost_fault.nd rfl (.inl rfl) (pe_call (ok_span_rows T) hr (by rfl) (g_span_rows T) (fn_span_rows T).kp (b_span_rows T) .nil pass0 (pa_cons (pv 0) (pa_cons (pv 1) pa_nil))))
      (pss_cons (ps_expr (pe_call (ok_check_letter T) (hr.mono (by decide)) (by rfl) (g_check_letter T) (fn_check_letter T).kp (b_check_letter T) .nil pass0 (pa_cons (pv 0) (pa_cons (pv 2) pa_nil))))
      (pss_cons (ps_if (pt_not (pt_val (pe_call (ok_is_sequence T) (hr.mono (by decide)) (by rfl) (g_is_sequence T) (fn_is_sequence T).kp (b_is_sequence T) .nil pass0 (pa_cons (pe_fld (pv 3) rfl) pa_nil))))
      (pss_one (ps_ret pe_str))
      pss_nil)
      (pss_cons (ps_for PassesOwn.never rfl (pi_enumW (by rfl) (f_enumerate T) (pa_cons (pe_fld (pv 3) rfl) pa_nil)) (pg_tup (by rfl) (pgs_cons (pg_name (i := 5) sc_lost_fault.nd rfl (.inl rfl)) (pgs_cons (pg_name (i := 6) sc_lost_fault.nd rfl (.inl rfl)) pgs_nil)))
      (pss_one (ps_if (PW.pt (pw_or (pt_not (pt_val (pe_call (ok_is_whole T) (hr.mono (by decide)) (by rfl) (g_is_whole T) (fn_is_whole T).kp (b0_is_whole T) .nil pass0 (pa_cons (pv 6) (pa_cons pe_int (pa_cons (pe_op op_sub (pe_callB call_len_seq (by rfl) (f_len T) bt_len (pa_cons (pv 4) pa_nil)) pe_int) pa_nil)))))) (pw_or1 (PW.pt (pw_and (pt_cmpR op_gt (pv 5) pe_int (nomark _)) (pw_and1 (pt_cmpR op_le (pv 6) (pe_ix ix_lt (pe_fld (pv 3) rfl) (pe_op op_sub (pv 5) pe_int) (fun _ _ => rfl)) (nomark _))))))))
      (pss_one (ps_ret pe_str))
      pss_nil)))
      (pss_cons (ps_if (PW.pt (pw_or (pt_not (pt_val (pe_call (ok_is_sequence T) (hr.mono (by decide)) (by rfl) (g_is_sequence T) (fn_is_sequence T).kp (b_is_sequence T) .nil pass0 (pa_cons (pe_fld (pv 3) rfl) pa_nil)))) (pw_or1 (pt_cmpR op_ne (pe_callB call_len_seq (by rfl) (f_len T) bt_len (pa_cons (pe_fld (pv 3) rfl) pa_nil)) (pe_prop (pv 0) (k_Mould T) (p_letters_many T) (ok_Mould_letters_many T) (hr.mono (by decide)) (b_Mould_letters_many T) .nil pass0 rfl) (nomark _)))))
      (pss_one (ps_ret pe_str))
      pss_nil)
      (pss_cons (ps_setLc (i := 7) (own := [("number", 9)]) (g := gName 9) rfl sc_lost_fault.nd rfl rfl (sw_true rfl rfl rfl (by decide +kernel)) (pi_seqW (pe_fld (pv 3) rfl)) (blkOk_by (N := N_lost_fault) (sc := defScope st_lost_fault) (by decide +kernel)) (fun _ _ _ _ _ => (pg_name (i := 9) sc_lost_fault.nd rfl (.inl rfl))) (fun _ _ _ _ _ => pts_nil) (fun _ _ _ _ _ => (pe_call (ok_as_ratio T) (hr.mono (by decide)) (by rfl) (g_as_ratio T) (fn_as_ratio T).kp (b_as_ratio T) .nil pass0 (pa_cons (pv 9) pa_nil))))
      (pss_cons (ps_if (pt_cmpR (op_inD (room65 hr)) pe_non (pv 7) (by rfl))
      (pss_one (ps_ret pe_str))
      pss_nil)
      (pss_cons (ps_for PassesOwn.never rfl (pi_enumA (by rfl) (f_enumerate T) (pa_cons (pv 4) pa_nil)) (pg_tup (by rfl) (pgs_cons (pg_name (i := 6) sc_lost_fault.nd rfl (.inl rfl)) (pgs_cons (pg_name (i := 8) sc_lost_fault.nd rfl (.inl rfl)) pgs_nil)))
      (pss_one (ps_if (PW.pt (pw_and (pt_cmpR op_notIn_seq (pv 6) (pe_fld (pv 3) rfl) (by rfl)) (pw_and1 (pt_cmpR op_ne (pe_ix ix_tup (pe_call (ok_row_sum T) hr (by rfl) (g_row_sum T) (fn_row_sum T).kp (b_row_sum T) .nil pass0 (pa_cons (pv 8) (pa_cons (pv 7) pa_nil))) pe_int (fun _ _ => rfl)) pe_int (nomark _)))))
      (pss_one (ps_ret pe_str))
      pss_nil)))
      (pss_one (ps_ret (pe_ifExp (pt_cmpR op_eq (pe_ix ix_tup (pe_ix ix_list (pv 7) (pv 2) (fun _ _ => rfl)) pe_int (fun _ _ => rfl)) pe_int (nomark _)) pe_str pe_non))))))))))), ?_⟩
    obtain ⟨ma, mx, mfs, rfl, hma⟩ := hm.ref
    refine ⟨_, rfl, _, rfl, S, _, _, h, w', cells, ls, book, rfl, hS, hm, hbk, hbo, hco, hll, h6, w6, by omega, hcl, fun S1 H1 u1 e1 hu1 => ?_⟩
    generalize hR : spanRows h w' cells ls book = rows at hrw hu1 q
    obtain ⟨ra, rvs, rfl, hra, hrs⟩ := hu1
    have rvl := hrs.len
    refine ⟨_, rfl, _, rfl, S1, _, h, w', cells, ls, l, rfl, e1.i, hm.mono e1.s, hl, ?_⟩
    obtain ⟨oa, ox, av, nv, rfl, hoa, hav, hnv⟩ := hlo.ob
    have k1 := e1.s.trans e1.i
    cases An with
    | none =>
      cases (show av = .non from hav)
      refine ⟨_, rfl, oa, C_Lost, ox, _, _, rfl, k1 _ _ hoa, T.kL, T.nL "answers" (by decide), rfl, S1, _, "NoneType", rfl, e1.i, rfl, fun H2 e2 => ?_⟩
      exact ⟨_, rfl, iteT (q S1 H2 _ (e1.trans e2) rfl)⟩
    | some al =>
      have hav' : sR oR S av al := hav
      obtain ⟨t, ht, hb⟩ := isSeq_t (sR_ty k1 hav')
      refine ⟨_, rfl, oa, C_Lost, ox, _, _, rfl, k1 _ _ hoa, T.kL, T.nL "answers" (by decide), rfl, S1, _, t, rfl, e1.i, ht, fun H2 e2 => ?_⟩
      rw [hb]
      have e12 := e1.trans e2
      obtain ⟨aa, avs, ao, rfl, aeo, hao, avl⟩ := sR_obj hav'
      cases all2_oV avl
      have lookA : ∀ H', Same S H' → SqL K H' aa (al.map oV) ∨ SqT K H' aa (al.map oV) := fun H' k => by
        rcases aeo with rfl | rfl
        · exact .inl (SqL.of (k _ _ hao))
        · exact .inr (SqT.of (k _ _ hao))
      refine ⟨_, rfl, iteF ⟨_, rfl, oa, C_Lost, ox, _, _, rfl, e12.i _ _ (e12.s _ _ hoa), T.kL, T.nL "answers" (by decide), rfl, aa, _, ao, rfl, aeo, e12.i _ _ (e12.s _ _ hao), fun J G wk hG => forE (S0 := S) (H0 := H) (m := No) (σ := [some (.ref ma), some bv, some (.int (l : Int)), some (.ref oa), some (.ref ra), none, none, none, none, none]) wk
        (fun i σ S' H' => Same S1 S' ∧ (∃ x5 x6, σ = [some (.ref ma), some bv, some (.int (l : Int)), some (.ref oa), some (.ref ra), x5, x6, none, none, none]) ∧ ∀ j, j < i → okAt rows.length al j = true) e12 ⟨Same.refl _, ⟨none, none, rfl⟩, fun j hj => by omega⟩ (fun _ _ _ _ _ e _ => hG _ (e.i _ _ (e.s _ _ hao))) (fun i x σ S5 H5 H6 hi e5 p5 hy => ?_) fun σ S5 H5 e5 p5 => ?_⟩⟩
      · obtain ⟨sm, ⟨x5, x6, rfl⟩, hz⟩ := p5
        obtain ⟨tt, x', y', rfl, hT, rfl, f1, f2⟩ := hy
        cases f1
        rw [List.length_map] at hi
        have f3 : al[i]? = some (al.getD i none) := by rw [List.getD_eq_getElem?_getD, List.getElem?_eq_getElem hi]; rfl
        have f4 : y' = oV (al.getD i none) := by
          have g : (al.map oV)[i]? = some y' := f2
          rw [List.getElem?_map, f3] at g
          exact (Option.some.inj g).symm
        subst f4
        have e6 := (Ext.refl (m := No) e5.i).newM (o := .tup [.int (i : Nat), oV (al.getD i none)]) hT
        have e56 := e5.trans e6
        have oke : okAt rows.length al i = okOne rows.length i (prevOf al i) (al.getD i none) := rfl
        have bad : okAt rows.length al i = false → lostFault rows (manyN ls) l (some al) ns = some wAnswers := fun hb => by
          have : ansOk rows.length al = false := by
            unfold ansOk
            refine List.all_eq_false.mpr ⟨i, List.mem_range.mpr hi, by rw [hb]; decide⟩
          show (if ansOk rows.length al = false then _ else _) = _
          rw [if_pos this]
        refine ⟨tt, _, rfl, SqT.of upd_same, rfl, _, _, rfl, _, _, rfl, rfl, ?_⟩
        obtain ⟨t2, ht2⟩ := oV_ty (upd H5 tt (.tup [.int (i : Nat), oV (al.getD i none)])) (al.getD i none)
        refine ⟨_, rfl, _, rfl, ra, rvs, rfl, .inr (SqT.of (e6.i _ _ (sm _ _ hra))), _, _, rfl, rfl, _, t2, some 0, some _, rfl, ht2, ?_⟩
        rw [rvl]
        generalize hov : al.getD i none = ov at *
        cases ov with
        | none =>
          refine ⟨_, rfl, iteT (iteT ?_)⟩
          exact q S5 _ _ e56 (by rw [bad (by rw [oke]; rfl)]; rfl)
        | some n =>
          have whe : wh (some 0) (some ((rows.length : Int) - 1)) (oV (some n)) = (decide (0 ≤ n) && decide (n ≤ (rows.length : Int) - 1)) := rfl
          refine ⟨_, rfl, ?_⟩
          rw [whe]
          have nxt : okAt rows.length al i = true → ∃ S', Ext No S H S' (upd H5 tt (.tup [.int (i : Nat), oV (some n)])) ∧ Same S1 S' ∧ (∃ x5 x6, [some (V.ref ma), some bv, some (.int (l : Int)), some (.ref oa), some (.ref ra), some (.int (i : Nat)), some (.int n), none, none, none] = [some (V.ref ma), some bv, some (.int (l : Int)), some (.ref oa), some (.ref ra), x5, x6, none, none, none]) ∧ ∀ j, j < i + 1 → okAt rows.length al j = true := fun hk =>
            ⟨S5, e56, sm, ⟨_, _, rfl⟩, fun j hj => by
              rcases Nat.lt_succ_iff_lt_or_eq.mp hj with z | z
              · exact hz j z
              · rw [z]; exact hk⟩
          have okv : okAt rows.length al i = ((decide (0 ≤ n) && decide (n ≤ (rows.length : Int) - 1)) && (decide (i = 0) || decide (prevOf al i < n))) := oke
          by_cases hw : (decide (0 ≤ n) && decide (n ≤ (rows.length : Int) - 1)) = true
          · rw [hw] at okv ⊢
            refine iteF ⟨_, rfl, _, _, rfl, rfl, _, rfl, ?_⟩
            by_cases hi0 : i = 0
            · rw [decide_eq_false (show ¬ ((0 : Int) < (i : Nat)) by omega)]
              exact iteF (iteF (nxt (by rw [okv, decide_eq_true hi0]; rfl)))
            · rw [decide_eq_true (show ((0 : Int) < (i : Nat)) by omega)]
              have hp := hz (i - 1) (by omega)
              have hpe : al[i - 1]? = some (al.getD (i - 1) none) := by rw [List.getD_eq_getElem?_getD, List.getElem?_eq_getElem (show i - 1 < al.length by omega)]; rfl
              have hpv : ∃ pv, al.getD (i - 1) none = some pv := by
                cases hh : al.getD (i - 1) none with
                | none =>
                  unfold okAt at hp
                  rw [hh] at hp; cases hp
                | some pv => exact ⟨pv, rfl⟩
              obtain ⟨pv, hpv⟩ := hpv
              have hprev : prevOf al i = pv := by unfold prevOf; rw [hpv]; rfl
              have hat : atI (al.map oV) ((i : Int) - 1) = some (.int pv) := by
                rw [show (i : Int) - 1 = ((i - 1 : Nat) : Int) by omega]
                exact atI_nat (by rw [List.getElem?_map, hpe, hpv]; rfl)
              have k6 := (e56.s).trans e56.i
              refine iteT ⟨_, rfl, _, rfl, oa, C_Lost, ox, _, _, rfl, k6 _ _ hoa, T.kL, T.nL "answers" (by decide), rfl, _, rfl, _, _, rfl, rfl, ixLT (lookA _ k6) hat ⟨_, _, rfl, rfl, _, rfl, ifD (fun z => ?_) fun z => ?_⟩⟩
              · exact q S5 _ _ e56 (by rw [bad (by rw [okv, hprev, decide_eq_false hi0, decide_eq_false (by omega)]; rfl)]; rfl)
              · exact nxt (by rw [okv, hprev, decide_eq_true (show pv < n by omega)]; simp)
          · have hw' : (decide (0 ≤ n) && decide (n ≤ (rows.length : Int) - 1)) = false := by
              cases h : (decide (0 ≤ n) && decide (n ≤ (rows.length : Int) - 1)) with
              | true => exact absurd h hw
              | false => rfl
            rw [hw'] at okv ⊢
            exact iteT (iteT (q S5 _ _ e56 (by rw [bad (by rw [okv]; rfl)]; rfl)))
      · obtain ⟨sm, ⟨x5, x6, rfl⟩, hz⟩ := p5
        rw [List.length_map] at hz
        have aok : ansOk rows.length al = true := by
          unfold ansOk
          exact List.all_eq_true.mpr fun j hj => hz j (List.mem_range.mp hj)
        have lf : lostFault rows (manyN ls) l (some al) ns = if ns.length ≠ manyN ls then some wMany else if (ns.any fun x => (asRat x).isNone) = true then some wMany
            else if ((List.range rows.length).any fun i => decide (some (i : Int) ∉ al) && decide ((rowSum (rows.getD i []) (ratsOf ns)).1 ≠ 0)) = true then some wOutside else if ((ratsOf ns).getD l (0, 1)).1 = 0 then some wLetter else none := by
          show (if ansOk rows.length al = false then _ else _) = _
          rw [if_neg (by rw [aok]; decide)]
        have k5 := e5.s.trans e5.i
        obtain ⟨t3, ht3, hb3⟩ := isSeq_t (sR_ty k5 hnv)
        refine ⟨_, rfl, oa, C_Lost, ox, _, _, rfl, k5 _ _ hoa, T.kL, T.nL "numbers" (by decide), rfl, S5, _, t3, rfl, e5.i, ht3, fun H6 e6 => ?_⟩
        rw [hb3]
        have e56 := e5.trans e6
        have k6 := e56.s.trans e56.i
        obtain ⟨na, nvs, no, rfl, neo, hno2, nal⟩ := sR_obj hnv
        have nvl := nal.len
        have lookN : SqL K H6 na nvs ∨ SqT K H6 na nvs := by
          rcases neo with rfl | rfl
          · exact .inl (SqL.of (k6 _ _ hno2))
          · exact .inr (SqT.of (k6 _ _ hno2))
        refine ⟨_, rfl, iteF ⟨_, rfl, oa, C_Lost, ox, _, _, rfl, k6 _ _ hoa, T.kL, T.nL "numbers" (by decide), rfl, na, nvs, rfl, lookN, _, rfl, ma, mx, mfs, rfl, k6 _ _ hma, S5, _, h, w', cells, ls, rfl, e6.i, hm.mono e5.s, rfl, _, rfl, ?_⟩⟩
        rw [dV, nvl]
        refine ifN (fun z => ?_) fun z => ?_
        · refine q S5 _ _ e56 ?_
          rw [lf, if_pos (by omega)]; rfl
        · rw [if_neg (show ¬ (ns.length ≠ manyN ls) by omega)] at lf
          refine ⟨_, rfl, oa, C_Lost, ox, _, _, rfl, k6 _ _ hoa, T.kL, T.nL "numbers" (by decide), rfl, na, nvs, no, rfl, neo, k6 _ _ hno2, fun J G wk hG => lcP (S0 := S5) (H0 := H6) (σ := [some (.ref ma), some bv, some (.int (l : Int)), some (.ref oa), some (.ref ra), x5, x6, none, none, none]) wk (by omega)
            (fun i acc S' => All2 (optR ratR S') acc ((ns.take i).map asRat)) (Ext.refl e6.i) .nil (fun _ _ _ _ _ e _ => hG _ (e.i _ _ (e.s _ _ (e5.s _ _ hno2)))) (fun i x acc S7 H7 H8 Kt Kf hi e7 p hy kt kf => ?_) fun d acc S7 H7 hd e7 hs he _ p => ?_⟩
          · obtain ⟨rfl, hx⟩ := hy
            obtain ⟨nm, f1, f2⟩ := nal.get hx
            refine ⟨rfl, _, rfl, S7, x, nm, rfl, e7.i, nmR_m _ _ _ _ (e5.s.trans e7.s) f2, fun S' H' u e8 hu => kt u S' H' e8 ?_⟩
            rw [take_get f1, List.map_append]
            exact (p.mono (optR_m ratR_m) e8.s).snoc hu
          · rw [take_all (show nvs.length = ns.length from nvl)] at p
            have e8 := e7.fix hd hs he
            have p8 := p.mono (optR_m ratR_m) (same_upd (o := .lst acc) hs)
            have hd8 : upd S7 d (.lst acc) d = some (.lst acc) := upd_same
            generalize upd S7 d (.lst acc) = S8 at e8 p8 hd8
            have e58 := e56.trans e8
            refine ⟨_, rfl, .none, _, .non, .lst (SqL.of he) (dp_rats e8.i p8), rfl, sh_rats _, _, rfl, ?_⟩
            rw [any_rats, List.any_map]
            have ae : (ns.any (Option.isNone ∘ asRat)) = ns.any fun x => (asRat x).isNone := rfl
            rw [ae]
            by_cases hn : (ns.any fun x => (asRat x).isNone) = true
            · rw [hn]
              refine iteT (q S8 _ _ e58 ?_)
              rw [lf, if_pos hn]; rfl
            · have hn' : (ns.any fun x => (asRat x).isNone) = false := by
                cases h : (ns.any fun x => (asRat x).isNone) with
                | true => exact absurd h hn
                | false => rfl
              rw [hn']
              rw [if_neg hn] at lf
              have nsome : ∀ x ∈ ns, ∃ r, asRat x = some r := fun x hx => by
                cases h : asRat x with
                | some r => exact ⟨r, rfl⟩
                | none => exact absurd (List.any_eq_true.mpr ⟨x, hx, by rw [h]; rfl⟩) hn
              have rl : (ratsOf ns).length = ns.length := List.length_map ..
              have pr8 : All2 (ratR S8) acc (ratsOf ns) := All2.of (by rw [p8.len, List.length_map, rl]) fun j v r h1 h2 => by
                obtain ⟨o, g1, g2⟩ := p8.get h1
                rw [List.getElem?_map] at g1
                unfold ratsOf at h2
                rw [List.getElem?_map] at h2
                cases hx : ns[j]? with
                | none => rw [hx] at g1; cases g1
                | some x =>
                  rw [hx] at g1 h2
                  obtain ⟨r', hr'⟩ := nsome x (List.mem_of_getElem? hx)
                  have g1' : asRat x = o := Option.some.inj g1
                  have h2' : (asRat x).getD (0, 1) = r := Option.some.inj h2
                  rw [hr'] at g1' h2'
                  subst g1'
                  have h3 : r' = r := h2'
                  subst h3
                  exact g2
              have rok : RatsOk (ratsOf ns) := fun r hr => by
                obtain ⟨x, hx, rfl⟩ := List.mem_map.mp hr
                obtain ⟨r', hr'⟩ := nsome x hx
                rw [hr']; exact hno x hx r' hr'
              have k18 : Same S1 S8 := sm.trans e8.s
              refine iteF ⟨_, rfl, ra, rvs, rfl, .inr ⟨SqT.of (e8.i _ _ (k18 _ _ hra)), forE (S0 := S) (H0 := H) (m := No) (σ := [some (.ref ma), some bv, some (.int (l : Int)), some (.ref oa), some (.ref ra), x5, x6, some (.ref d), none, none]) (walk_enumT (xs := rvs))
                (fun i σ S' H' => Same S8 S' ∧ (∃ x6 x8, σ = [some (.ref ma), some bv, some (.int (l : Int)), some (.ref oa), some (.ref ra), x5, x6, some (.ref d), x8, none]) ∧ ∀ j, j < i → (decide (some (j : Int) ∉ al) && decide ((rowSum (rows.getD j []) (ratsOf ns)).1 ≠ 0)) = false)
                e58 ⟨Same.refl _, ⟨_, _, rfl⟩, fun j hj => by omega⟩ (fun _ _ _ _ _ e p => SqT.of (e.i _ _ (p.1 _ _ (k18 _ _ hra)))) (fun i x σ S9 H9 H10 hi e9 p9 hy => ?_) fun σ S9 H9 e9 p9 => ?_⟩⟩
              · obtain ⟨sm9, ⟨y6, y8, rfl⟩, hz9⟩ := p9
                obtain ⟨tt, x', y', rfl, hT, rfl, f1, f2⟩ := hy
                cases f1
                obtain ⟨row, f3, f4⟩ := hrs.get f2
                obtain ⟨rwl, rwb⟩ := hrw row (List.mem_of_getElem? f3)
                have rgd : rows.getD i [] = row := getD_of f3
                have e10 := (Ext.refl (m := No) e9.i).newM (o := .tup [.int (i : Nat), y']) hT
                have e910 := e9.trans e10
                have k10 := e910.s.trans e910.i
                have nxt : ∀ (S11 H11 : Hp), Ext No S9 H9 S11 H11 → (decide (some (i : Int) ∉ al) && decide ((rowSum (rows.getD i []) (ratsOf ns)).1 ≠ 0)) = false → ∃ S', Ext No S H S' H11 ∧ Same S8 S' ∧ (∃ x6 x8, [some (V.ref ma), some bv, some (.int (l : Int)), some (.ref oa), some (.ref ra), x5, some (.int (i : Nat)), some (.ref d), some y', none] = [some (V.ref ma), some bv, some (.int (l : Int)), some (.ref oa), some (.ref ra), x5, x6, some (.ref d), x8, none]) ∧ ∀ j, j < i + 1 → (decide (some (j : Int) ∉ al) && decide ((rowSum (rows.getD j []) (ratsOf ns)).1 ≠ 0)) = false := fun S11 H11 e11 hk =>
                  ⟨S11, e9.trans e11, sm9.trans e11.s, ⟨_, _, rfl⟩, fun j hj => by
                    rcases Nat.lt_succ_iff_lt_or_eq.mp hj with z | z
                    · exact hz9 j z
                    · rw [z]; exact hk⟩
                refine ⟨tt, _, rfl, SqT.of upd_same, rfl, _, _, rfl, _, _, rfl, rfl, ?_⟩
                refine ⟨_, rfl, _, rfl, oa, C_Lost, ox, _, _, rfl, k10 _ _ hoa, T.kL, T.nL "answers" (by decide), rfl, aa, _, rfl, lookA _ k10, rfl, flat_opt _, _, rfl, ?_⟩
                rw [inV_opt]
                by_cases him : some (i : Int) ∈ al
                · rw [decide_eq_true him]
                  exact iteF (iteF (nxt _ _ e10 (by rw [decide_eq_false (fun y => y him)]; rfl)))
                · rw [decide_eq_false him]
                  refine iteT ⟨_, rfl, _, rfl, S9, y', .ref d, row, ratsOf ns, rfl, e10.i, tI_m _ _ _ _ (k18.trans sm9) f4, ⟨d, acc, rfl, sm9 _ _ hd8, pr8.mono ratR_m sm9⟩, by omega, by omega, rwb, rok, fun S11 H11 u11 e11 hu11 => ?_⟩
                  obtain ⟨rp, rfl, htp⟩ := rat_ix (K := K) e11.i hu11
                  refine ⟨_, _, _, _, rfl, rfl, htp, atI_nat (j := 0) rfl, rfl, _, rfl, ?_⟩
                  rw [dV]
                  refine ifN (fun z => ?_) fun z => ?_
                  · refine q S11 _ _ (e910.trans e11) ?_
                    rw [lf, if_pos (List.any_eq_true.mpr ⟨i, List.mem_range.mpr (by omega), by rw [rgd, decide_eq_true him, decide_eq_true z]; rfl⟩)]; rfl
                  · exact nxt _ _ (e10.trans e11) (by rw [rgd, decide_eq_false (p := (rowSum row (ratsOf ns)).1 ≠ 0) (fun y => y z), Bool.and_false])
              · obtain ⟨sm9, ⟨y6, y8, rfl⟩, hz9⟩ := p9
                have nofar : ¬ ((List.range rows.length).any fun i => decide (some (i : Int) ∉ al) && decide ((rowSum (rows.getD i []) (ratsOf ns)).1 ≠ 0)) = true := fun y => by
                  obtain ⟨j, hj, hj2⟩ := List.any_eq_true.mp y
                  rw [hz9 j (by have := List.mem_range.mp hj; omega)] at hj2
                  cases hj2
                rw [if_neg nofar] at lf
                have ll : l < (ratsOf ns).length := by omega
                have g1 : acc[l]? = some (acc[l]'(by rw [pr8.len]; exact ll)) := List.getElem?_eq_getElem _
                obtain ⟨r, g2, g3⟩ := pr8.get g1
                obtain ⟨rp, hrp, htp⟩ := rat_ix (K := K) (sm9.trans e9.i) g3
                rw [hrp] at g1
                have gl : (ratsOf ns).getD l (0, 1) = r := by rw [List.getD_eq_getElem?_getD, g2]; rfl
                rw [gl] at lf
                refine ⟨_, rfl, _, rfl, _, _, _, _, rfl, rfl, SqL.of (e9.i _ _ (sm9 _ _ hd8)), atI_nat g1, _, _, _, _, rfl, rfl, htp, atI_nat (j := 0) rfl, rfl, _, rfl, ?_⟩
                rw [dV]
                refine ifD (fun z => ?_) fun z => ?_
                · exact q S9 _ _ e9 (by rw [lf, if_pos z]; rfl)
                · exact q S9 _ _ e9 (by rw [lf, if_neg z]; rfl)
end Th

/-! part DM -/
namespace Th
open PySem PySem.Spec PyProof.Rows L2

structure Bk (S : Hp) (v bv : V) (h w : Nat) (cells : List Cell) (ls : List Nat) (book : List Ask) : Prop where
  m : MouldR S v h w cells ls
  b : sR askIn S bv book
  bo : BookOk h w book
  co : CellsOk h w cells
  ll : ls.length = cells.length
  h6 : h ≤ 6
  w6 : w ≤ 6
  n5 : manyN ls ≤ 5
  cl : cells.length ≤ 1000
  rw : ∀ r ∈ spanRows h w cells ls book, r.length = manyN ls ∧ Bd 33 r
theorem Bk.mono {S S' : Hp} {v bv : V} {h w : Nat} {cells : List Cell} {ls : List Nat} {book : List Ask} (k : Same S S') (x : Bk S v bv h w cells ls book) : Bk S' v bv h w cells ls book :=
  ⟨x.m.mono k, sR_m askIn_m _ _ _ _ k x.b, x.bo, x.co, x.ll, x.h6, x.w6, x.n5, x.cl, x.rw⟩
theorem sz_all : ∀ p, p < 6 → 1 + (p + 1) * ((33 + 1) * 2 ^ p) ≤ 9000 := by decide
theorem sz_hb : ∀ n, n < 6 → ∀ k, k < 6 → k ≤ n → (((33 + 1) * 2 ^ k - 1) * (k + 1) + 2) * 2 ^ (n - k) ≤ 8999 := by decide
theorem sz_33 (m : Nat) {n : Nat} (h : n ≤ 5) : 1 + (min m n + 1) * ((33 + 1) * 2 ^ (min m n)) ≤ 9000 := sz_all _ (by omega)
theorem hb_33 (m : Nat) {n : Nat} (h : n ≤ 5) : HbSz 33 n m := by
  refine ⟨?_, fun k hk => sz_hb n (by omega) k (by omega) (by omega)⟩
  have := sz_33 m h
  have h1 : 1 * ((33 + 1) * 2 ^ (min m n)) ≤ (min m n + 1) * ((33 + 1) * 2 ^ (min m n)) := Nat.mul_le_mul_right _ (by omega)
  omega
def sp_least_loss : Sp := fun vs H Q _ => ∃ S v bv h w cells ls book, ∃ l : Nat, vs = [v, bv, .int (l : Int)] ∧ Same S H ∧ Bk S v bv h w cells ls book ∧ l < manyN ls ∧ (spanRows h w cells ls book).length ≤ 12 ∧
  ∀ S' H' u, Ext No S H S' H' → optR tN S' u (firstLoss (spanRows h w cells ls book) (manyN ls) l (spanRows h w cells ls book).length) → Q u H'
theorem ok_least_loss {P : Program} {w : World} {K : PySem.W.Frag} {mg : Str → Option Value} {base : Heap} (T : Tx K mg) : FnOk P w K mg base CX0 7 A_least_loss (fdAt K A_least_loss) P_least_loss sp_least_loss := by
  refine (fn_least_loss T).ok sc_least_loss (fun vs H Q E h => ?_) (fun cdv A outer s H vs Q E hr h => ?_)
  · obtain ⟨S, v, bv, h, w', cells, ls, book, l, rfl, _⟩ := h; rfl
  · obtain ⟨S, v, bv, h, w', cells, ls, book, l, rfl, hS, hb, hl, h12, q⟩ := h
    refine ⟨_, PSs.nox (pss_cons (ps_set (i := 3) sc_least_loss.nd rfl (.inl rfl) (pe_call (ok_span_rows T) (hr.mono (by decide)) (by rfl) (g_span_rows T) (fn_span_rows T).kp (b_span_rows T) .nil pass0 (pa_cons (pv 0) (pa_cons (pv 1) pa_nil))))
      (pss_cons (ps_expr (pe_call (ok_check_letter T) (hr.mono (by decide)) (by rfl) (g_check_letter T) (fn_check_letter T).kp (b_check_letter T) .nil pass0 (pa_cons (pv 0) (pa_cons (pv 2) pa_nil))))
      (pss_cons (ps_expr (pe_call (ok_few_answers T) (hr.mono (by decide)) (by rfl) (g_few_answers T) (fn_few_answers T).kp (b_few_answers T) .nil pass0 (pa_cons (pv 3) pa_nil)))
      (pss_one (ps_ret (pe_call (ok_first_loss T) hr (by rfl) (g_first_loss T) (fn_first_loss T).kp (b_first_loss T) .nil pass0 (pa_cons (pv 3) (pa_cons (pe_prop (pv 0) (k_Mould T) (p_letters_many T) (ok_Mould_letters_many T) (hr.mono (by decide)) (b_Mould_letters_many T) .nil pass0 rfl) (pa_cons (pv 2) (pa_cons (pe_callB call_len_seq (by rfl) (f_len T) bt_len (pa_cons (pv 3) pa_nil)) pa_nil)))))))))), ?_⟩
    obtain ⟨ma, mx, mfs, e0, hma⟩ := hb.m.ref
    subst e0
    refine ⟨_, rfl, _, rfl, S, _, _, h, w', cells, ls, book, rfl, hS, hb.m, hb.b, hb.bo, hb.co, hb.ll, hb.h6, hb.w6, by have := hb.n5; omega, hb.cl, fun S1 H1 u1 e1 hu1 => ?_⟩
    have hrw := hb.rw
    generalize spanRows h w' cells ls book = rows at hrw hu1 q h12
    refine ⟨_, rfl, _, rfl, S1, _, h, w', cells, ls, l, rfl, e1.i, hb.m.mono e1.s, hl, ?_⟩
    refine ⟨_, rfl, S1, u1, rows, rfl, e1.i, hu1, h12, ?_⟩
    obtain ⟨ra, rvs, rfl, hra, hrs⟩ := id hu1
    have rvl := hrs.len
    refine ⟨_, rfl, _, rfl, ma, mx, mfs, rfl, e1.i _ _ (e1.s _ _ hma), S1, _, h, w', cells, ls, rfl, e1.i, hb.m.mono e1.s, _, rfl, _, rfl, ra, rvs, rfl, .inr (SqT.of (e1.i _ _ hra)), ?_⟩
    rw [rvl]
    exact ⟨S1, _, rows, manyN ls, l, rows.length, 33, rfl, e1.i, hu1, hrw, by decide, by have := hb.n5; omega, h12, sz_33 _ hb.n5, fun S2 H2 u2 e2 hu2 => q S2 H2 u2 (e1.trans e2) hu2⟩
end Th

/-! part DN -/
namespace Th
open PySem PySem.Spec PyProof.Rows L2

def sp_BadMost_init : Sp := fun vs H Q _ => ∃ a m, vs = [.ref a, m] ∧ H a = some (exo a C_BadMost none) ∧ ∀ dx, H dx = none → dx ≠ a → Q .non (upd (upd H dx (exd dx [(Str.ofString "most", m)])) a (exo a C_BadMost (some dx)))
theorem ok_BadMost_init {P : Program} {w : World} {K : PySem.W.Frag} {mg : Str → Option Value} {base : Heap} (T : Tx K mg) : FnOk P w K mg base CX0 1 A_BadMost_init (fdAt K A_BadMost_init) P_BadMost_init sp_BadMost_init := by
  refine (fn_BadMost_init T).ok sc_BadMost_init (fun vs H Q E h => ?_) (fun cdv A outer s H vs Q E hr h => ?_)
  · obtain ⟨a, m, rfl, _⟩ := h; rfl
  · obtain ⟨a, m, rfl, ha, q⟩ := h
    refine ⟨_, PSs.nox (pss_cons (ps_expr (pe_clsinit (by rfl) (g_SlopeError T) T.sR T.sV (pa_cons (pv 0) (pa_cons pe_str pa_nil))))
      (pss_one (ps_ost (pv 0) (pv 1)))), ?_⟩
    exact ⟨_, rfl, a, C_BadMost, _, rfl, by decide, T.bX, ha, _, rfl, _, rfl, a, C_BadMost, rfl, T.bX, T.bN, .inl ⟨ha, q⟩⟩
def mostD (m : V) : HO := .xd [(Str.ofString "most", m)]
def sp_check_most : Sp := fun vs H Q E => ∃ S m t, ∃ g : Int, vs = [m, .int g] ∧ Same S H ∧ tyN H m = some t ∧ (wh (some 0) (some g) m = true → Q m H) ∧ (wh (some 0) (some g) m = false → ∀ H' d, Ext No S H S H' → H' d = some (mostD m) → E (.ref C_BadMost) (some d) H')
theorem mostS {S H : Hp} {a dx : Addr} {x y z : HO} {m : V} (hS : Same S H) (ha : H a = none) (hdx : H dx = none) (b : Addr) (o : HO) (e : H b = some o) : upd (del (upd (upd (upd H a x) dx y) a z) a) dx (.xd [(Str.ofString "most", m)]) b = some o := by
  have n1 : b ≠ a := ne_of_none e ha
  have n2 : b ≠ dx := ne_of_none e hdx
  rw [upd_ne n2, del_ne n1, upd_ne n1, upd_ne n2, upd_ne n1]; exact e
theorem ok_check_most {P : Program} {w : World} {K : PySem.W.Frag} {mg : Str → Option Value} {base : Heap} (T : Tx K mg) : FnOk P w K mg base (L2.CX P w) 3 A_check_most (fdAt K A_check_most) P_check_most sp_check_most := by
  refine (fn_check_most T).ok sc_check_most (fun vs H Q E h => ?_) (fun cdv A outer s H vs Q E hr h => ?_)
  · obtain ⟨S, m, t, g, rfl, _⟩ := h; rfl
  · obtain ⟨S, m, t, g, rfl, hS, ht, q1, q2⟩ := h
    refine ⟨_, (pss_cons (ps_if (pt_not (pt_val (pe_call (ok_is_whole T) (hr.mono (by decide)) (by rfl) (g_is_whole T) (fn_is_whole T).kp (b0_is_whole T) .nil pass0 (pa_cons (pv 0) (pa_cons pe_int (pa_cons (pv 1) pa_nil))))))
      (pss_one (ps_raise rfl (takes_of rfl rfl rfl rfl) (pmk_oex T.bX T.bI T.bT (ok_BadMost_init T) hr (b_BadMost_init T) .nil pass0 (by rfl) (g_BadMost T) (pa_cons (pv 0) pa_nil))))
      pss_nil)
      (pss_one (ps_ret (pv 0)))), ?_⟩
    refine ⟨_, rfl, _, rfl, _, t, some 0, some g, rfl, ht, ?_⟩
    cases hw : wh (some 0) (some g) m with
    | true => exact ⟨_, rfl, iteF ⟨_, rfl, q1 hw⟩⟩
    | false =>
      refine ⟨_, rfl, iteT ⟨_, rfl, (by show (1 : Nat) ≤ 1000; decide), fun a ha => ⟨a, m, rfl, upd_same, fun dx hdx hne => ⟨rfl, dx, _, upd_same, (upd_ne hne).trans upd_same, ?_, ?_⟩⟩⟩⟩
      · exact (upd_ne hne).symm.trans hdx
      · have hdx' : H dx = none := (upd_ne hne).symm.trans hdx
        refine q2 hw _ dx ⟨Same.refl _, ?_, ?_, ?_, fun _ _ z => z⟩ upd_same
        · exact fun b o z => mostS hS ha hdx' b o (hS b o z)
        · exact fun b o _ z => mostS hS ha hdx' b o z
        · exact fun b z => by
            cases q : H b with
            | none => exact absurd q z
            | some o => rw [mostS hS ha hdx' b o q]; simp
end Th

/-! part DO -/
namespace Th
open PySem PySem.Spec PyProof.Rows L2

def LostV : Rp (List Nat × List Int) := fun S u x => ∃ a dx av nv, u = .ref a ∧ S a = some (.ins C_Lost dx [("answers", av), ("numbers", nv)]) ∧ tN S av x.1 ∧ tI S nv x.2
theorem LostV_m : MonoR LostV := fun _ _ _ _ k ⟨a, dx, av, nv, e, h, h1, h2⟩ => ⟨a, dx, av, nv, e, k _ _ h, tN_m _ _ _ _ k h1, tI_m _ _ _ _ k h2⟩
def lostTold (rows : List (List Int)) (n l k : Nat) : Option (List Nat × List Int) := match firstLoss rows n l k with
  | none => none
  | some lot => ((hiddenBasis (keptRows rows lot) n).find? fun v => decide (v.getD l 0 ≠ 0)).map fun v => (lot, v)
def sp_lost_told : Sp := fun vs H Q E => ∃ S v bv h w cells ls book m t, ∃ l : Nat, vs = [v, bv, .int (l : Int), m] ∧ Same S H ∧ Bk S v bv h w cells ls book ∧ l < manyN ls ∧ (spanRows h w cells ls book).length ≤ 12 ∧ tyN H m = some t ∧
  (wh (some 0) (some 4) m = false → ∀ S' H' d, Ext No S H S' H' → H' d = some (mostD m) → E (.ref C_BadMost) (some d) H') ∧
  (∀ k : Nat, m = .int (k : Int) → k ≤ 4 → ∀ S' H' u, Ext No S H S' H' → optR LostV S' u (lostTold (spanRows h w cells ls book) (manyN ls) l k) → Q u H')
theorem wh_int {lo hi : Int} {m : V} (h : wh (some lo) (some hi) m = true) (h0 : 0 ≤ lo) : ∃ k : Nat, m = .int (k : Int) ∧ lo ≤ k ∧ (k : Int) ≤ hi := by
  cases m with
  | int n =>
    have h' : (decide (lo ≤ n) && decide (n ≤ hi)) = true := h
    obtain ⟨h1, h2⟩ := Bool.and_eq_true_iff.mp h'
    have h1 := of_decide_eq_true h1
    have h2 := of_decide_eq_true h2
    exact ⟨n.toNat, by rw [Int.toNat_of_nonneg (by omega)], by omega, by omega⟩
  | _ => cases h
theorem ok_lost_told {P : Program} {w : World} {K : PySem.W.Frag} {mg : Str → Option Value} {base : Heap} (T : Tx K mg) : FnOk P w K mg base (L2.CX P w) 7 A_lost_told (fdAt K A_lost_told) P_lost_told sp_lost_told := by
  refine (fn_lost_told T).ok sc_lost_told (fun vs H Q E h => ?_) (fun cdv A outer s H vs Q E hr h => ?_)
  · obtain ⟨S, v, bv, h, w', cells, ls, book, m, t, l, rfl, _⟩ := h; rfl
  · obtain ⟨S, v, bv, h, w', cells, ls, book, m, t, l, rfl, hS, hb, hl, h12, hty, qe, q⟩ := h
    refine ⟨_, (pss_cons (ps_set (i := 4) sc_lost_told.nd rfl (.inl rfl) (pe_call (ok_span_rows T) (hr.mono (by decide)) (by rfl) (g_span_rows T) (fn_span_rows T).kp (b_span_rows T) .nil pass0 (pa_cons (pv 0) (pa_cons (pv 1) pa_nil))))
      (pss_cons (ps_expr (pe_call (ok_check_letter T) (hr.mono (by decide)) (by rfl) (g_check_letter T) (fn_check_letter T).kp (b_check_letter T) .nil pass0 (pa_cons (pv 0) (pa_cons (pv 2) pa_nil))))
      (pss_cons (ps_expr (pe_call (ok_check_most T) (hr.mono (by decide)) (by rfl) (g_check_most T) (fn_check_most T).kp (b_check_most T) .nil (passes_call (takes_of rfl rfl rfl rfl) fun _ _ _ _ z => z) (pa_cons (pv 3) (pa_cons pe_int pa_nil))))
      (pss_cons (ps_expr (pe_call (ok_few_answers T) (hr.mono (by decide)) (by rfl) (g_few_answers T) (fn_few_answers T).kp (b_few_answers T) .nil pass0 (pa_cons (pv 4) pa_nil)))
      (pss_cons (ps_set (i := 5) sc_lost_told.nd rfl (.inr rfl) (pe_call (ok_first_loss T) hr (by rfl) (g_first_loss T) (fn_first_loss T).kp (b_first_loss T) .nil pass0 (pa_cons (pv 4) (pa_cons (pe_prop (pv 0) (k_Mould T) (p_letters_many T) (ok_Mould_letters_many T) (hr.mono (by decide)) (b_Mould_letters_many T) .nil pass0 rfl) (pa_cons (pv 2) (pa_cons (pv 3) pa_nil))))))
      (pss_cons (ps_if (pt_cmpR op_isN (pv 5) pe_non (nomark _))
      (pss_one (ps_ret pe_non))
      pss_nil)
      (pss_cons (ps_setLc (i := 6) (own := [("answer", 8), ("row", 9)]) (g := gTup K 2 (gCons (gName 8) (gCons (gName 9) (gNil)))) rfl sc_lost_told.nd rfl rfl (sw_true rfl rfl rfl (by decide +kernel)) (pi_enumA (by rfl) (f_enumerate T) (pa_cons (pv 4) pa_nil)) (blkOk_by (N := N_lost_told) (sc := defScope st_lost_told) (by decide +kernel)) (fun _ _ _ _ _ => (pg_tup (by rfl) (pgs_cons (pg_name (i := 8) sc_lost_told.nd rfl (.inl rfl)) (pgs_cons (pg_name (i := 9) sc_lost_told.nd rfl (.inl rfl)) pgs_nil)))) (fun _ _ _ _ _ => (pts_one (pt_cmpR (show OpR _ (compareOp .NotIn) (rIn K true) from op_notIn_seq) (pv 8) (pv 5) (by rfl)))) (fun _ _ _ _ _ => (pv 9)))
      (pss_cons (ps_nox (ps_for PassesOwn.never rfl (pi_tup (pe_call (ok_hidden_basis T) hr (by rfl) (g_hidden_basis T) (fn_hidden_basis T).kp (b_hidden_basis T) .nil pass0 (pa_cons (pv 6) (pa_cons (pe_prop (pv 0) (k_Mould T) (p_letters_many T) (ok_Mould_letters_many T) (hr.mono (by decide)) (b_Mould_letters_many T) .nil pass0 rfl) pa_nil)))) (pg_name (i := 7) sc_lost_told.nd rfl (.inl rfl))
      (pss_one (ps_if (pt_cmpR op_ne (pe_ix ix_tup (pv 7) (pv 2) (fun _ _ => rfl)) pe_int (nomark _))
      (pss_one (ps_ret (pe_make (mk_Lost T) (ok_Lost_init T) (hr.mono (by decide)) (by rfl) (g_Lost T) (b_Lost_init T) .nil pass0 (pa_cons (pv 5) (pa_cons (pv 7) pa_nil)))))
      pss_nil))))
      (pss_one (ps_ret pe_non)))))))))), ?_⟩
    obtain ⟨ma, mx, mfs, e0, hma⟩ := hb.m.ref
    subst e0
    refine ⟨_, rfl, _, rfl, S, _, _, h, w', cells, ls, book, rfl, hS, hb.m, hb.b, hb.bo, hb.co, hb.ll, hb.h6, hb.w6, by have := hb.n5; omega, hb.cl, fun S1 H1 u1 e1 hu1 => ?_⟩
    have hrw := hb.rw
    have n5 := hb.n5
    generalize spanRows h w' cells ls book = rows at hrw hu1 q h12
    refine ⟨_, rfl, _, rfl, S1, _, h, w', cells, ls, l, rfl, e1.i, hb.m.mono e1.s, hl, ?_⟩
    refine ⟨_, rfl, S1, m, t, 4, rfl, e1.i, tyN_same e1.same hty, fun hw => ?_, fun hw H' d e2 hd => qe hw S1 H' d (e1.trans e2) hd⟩
    obtain ⟨k, rfl, k0, k4⟩ := wh_int hw (by decide)
    have qk := q k rfl (by omega)
    refine ⟨_, rfl, S1, u1, rows, rfl, e1.i, hu1, h12, ?_⟩
    obtain ⟨ra, rvs, rfl, hra, hrs⟩ := id hu1
    have rvl := hrs.len
    refine ⟨_, rfl, _, rfl, ma, mx, mfs, rfl, e1.i _ _ (e1.s _ _ hma), S1, _, h, w', cells, ls, rfl, e1.i, hb.m.mono e1.s, _, rfl, _, rfl, S1, _, rows, manyN ls, l, k, 33, rfl, e1.i, hu1, hrw, by decide, by omega, h12, sz_33 _ n5, fun S2 H2 u2 e2 hu2 => ?_⟩
    have e12 := e1.trans e2
    unfold lostTold at qk
    cases hf : firstLoss rows (manyN ls) l k with
    | none =>
      rw [hf] at hu2 qk
      cases (show u2 = .non from hu2)
      exact ⟨_, rfl, rfl, _, rfl, iteT (qk S2 H2 _ e12 rfl)⟩
    | some lot =>
      rw [hf] at hu2 qk
      dsimp only at qk
      obtain ⟨lt, rfl, hlt⟩ := (show tN S2 u2 lot from hu2)
      refine ⟨_, rfl, rfl, _, rfl, iteF ?_⟩
      refine ⟨_, rfl, ra, rvs, rfl, .inr ⟨SqT.of (e2.i _ _ (e2.s _ _ hra)), lcP (S0 := S2) (H0 := H2) (σ := [some (.ref ma), some bv, some (.int (l : Int)), some (.int (k : Int)), some (.ref ra), some (.ref lt), none, none, none, none]) (walk_enumT (xs := rvs)) (by omega)
        (fun j acc S' => All2 (tI S') acc (((List.range j).filter fun i => decide (i ∉ lot)).map fun i => rows.getD i [])) (Ext.refl e2.i) .nil (fun _ _ _ _ _ e _ => SqT.of (e.i _ _ (e.s _ _ (e2.s _ _ hra)))) (fun j x acc S3 H3 H4 Kt Kf hj2 e p hy kt kf => ?_) fun d acc S3 H3 hd e hs he _ p => ?_⟩⟩
      · obtain ⟨t, x', y', rfl, hT, rfl, g1, g2⟩ := hy
        cases g1
        obtain ⟨row, f2, f3⟩ := hrs.get g2
        have e3 := (Ext.refl (m := No) e.i).newM (o := .tup [.int (j : Nat), y']) hT
        refine ⟨t, _, rfl, SqT.of upd_same, rfl, _, _, rfl, _, _, rfl, rfl, wipe2 rfl rfl, _, rfl, _, rfl, lt, _, rfl, .inr (SqT.of (e3.i _ _ (e.s _ _ hlt))), rfl, flat_nats _, _, rfl, ?_⟩
        rw [inV_nat]
        have fl : ((List.range (j + 1)).filter fun c => decide (c ∉ lot)) = ((List.range j).filter fun c => decide (c ∉ lot)) ++ (if decide (j ∉ lot) = true then [j] else []) := by
          rw [List.range_succ, List.filter_append, List.filter_cons, List.filter_nil]
        refine ifN (fun z => ?_) fun z => ?_
        · refine ⟨_, rfl, kt _ S3 _ e3 ?_⟩
          rw [fl, if_pos (decide_eq_true z), List.map_append]
          refine p.snoc ?_
          show tI S3 y' (rows.getD j [])
          rw [List.getD_eq_getElem?_getD, f2]
          exact tI_m _ _ _ _ (e2.s.trans e.s) f3
        · refine kf S3 _ e3 ?_
          rw [fl, if_neg (by rw [decide_eq_false (fun y => y z)]; decide), List.append_nil]
          exact p
      · have fx := e.fix hd hs he
        have p' : All2 (tI (upd S3 d (.lst acc))) acc (keptRows rows lot) := by
          rw [rvl] at p; exact p.mono tI_m (same_upd hs)
        have hd2 : upd S3 d (.lst acc) d = some (.lst acc) := upd_same
        generalize upd S3 d (.lst acc) = S5 at fx p' hd2
        obtain ⟨ko, kl⟩ := kept_ok (rows := rows) (p := fun r => r.length = manyN ls ∧ Bd 33 r) hrw lot
        have E5 := e12.trans fx
        refine ⟨_, rfl, _, rfl, ma, mx, mfs, rfl, E5.i _ _ (E5.s _ _ hma), S5, _, h, w', cells, ls, rfl, E5.i, hb.m.mono E5.s, S5, _, keptRows rows lot, manyN ls, 33, rfl, fx.i, ⟨d, acc, rfl, hd2, p'⟩, ko, by omega, by omega, hb_33 _ n5, fun S6 H6 u6 e6 hu6 => ?_⟩
        obtain ⟨ba, bvs, rfl, hba, hbs⟩ := hu6
        have E6 := E5.trans e6
        have bl : ∀ v ∈ hiddenBasis (keptRows rows lot) (manyN ls), l < v.length := fun v hv => by
          rw [hidden_len ko v hv]; exact hl
        generalize hiddenBasis (keptRows rows lot) (manyN ls) = basis at hbs bl qk
        refine ⟨ba, rfl, ⟨_, SqT.of (e6.i _ _ hba)⟩, forE (S0 := S) (H0 := H) (m := No) (σ := [some (.ref ma), some bv, some (.int (l : Int)), some (.int (k : Int)), some (.ref ra), some (.ref lt), some (.ref d), none, none, none]) (walk_tup (xs := bvs))
          (fun i σ S' H' => Same S6 S' ∧ (∃ x7, σ = [some (.ref ma), some bv, some (.int (l : Int)), some (.int (k : Int)), some (.ref ra), some (.ref lt), some (.ref d), x7, none, none]) ∧ ∀ v ∈ basis.take i, v.getD l 0 = 0) E6 ⟨Same.refl _, ⟨_, rfl⟩, fun v hv => by cases hv⟩ (fun _ _ _ _ _ e p => SqT.of (e.i _ _ (p.1 _ _ hba))) (fun i x σ S7 H7 H8 hi e7 p7 hy => ?_) fun σ S7 H7 e7 p7 => ?_⟩
        · obtain ⟨sm, ⟨x7, rfl⟩, hz⟩ := p7
          obtain ⟨rfl, hx⟩ := hy
          obtain ⟨vv, f1, va, rfl, hva⟩ := hbs.get hx
          have hva7 := sm _ _ hva
          have vl : l < vv.length := bl vv (List.mem_of_getElem? f1)
          refine ⟨_, rfl, _, rfl, _, _, _, _, rfl, rfl, SqT.of (e7.i _ _ hva7), atI_nat (by rw [List.getElem?_map, List.getElem?_eq_getElem vl]; rfl), rfl, _, rfl, ?_⟩
          have gd : vv.getD l 0 = vv[l] := by rw [List.getD_eq_getElem?_getD, List.getElem?_eq_getElem vl]; rfl
          rw [dV]
          refine ifN (fun z => ?_) fun z => ?_
          · have ff : (basis.find? fun v => decide (v.getD l 0 ≠ 0)) = some vv := by
              obtain ⟨q1, q2⟩ := List.getElem?_eq_some_iff.mp f1
              refine List.find?_eq_some_iff_append.mpr ⟨decide_eq_true (by rw [gd]; exact z), basis.take i, basis.drop (i + 1), ?_, fun a ha => ?_⟩
              · rw [← q2, List.getElem_cons_drop, List.take_append_drop]
              · rw [decide_eq_false (fun y => y (hz a ha))]; rfl
            rw [ff] at qk
            refine ⟨_, rfl, _, rfl, fun x dx hx hdx hne => ?_⟩
            have E3 := e7.newM (o := .own x) hdx
            have hx' : upd H8 dx (.own x) x = none := by rw [upd_ne hne.symm]; exact hx
            have E4 := E3.newM (o := .ins C_Lost dx []) hx'
            have nx := E3.none1 hx'
            have sx := none_of_same E3.i hx'
            have E5' := (E4.mut (o := .ins C_Lost dx [("answers", .ref lt)]) (.inl nx) sx).mut (o := .ins C_Lost dx [("answers", .ref lt), ("numbers", .ref va)]) (.inl nx) sx
            refine ⟨x, .ref lt, .ref va, dx, rfl, upd_same, rfl, ?_⟩
            have E7 := E5'.fix nx sx upd_same
            have kk := same_upd (o := .ins C_Lost dx [("answers", .ref lt), ("numbers", .ref va)]) sx
            refine qk _ _ _ E7 ⟨x, dx, .ref lt, .ref va, rfl, upd_same, ⟨lt, rfl, kk _ _ (sm _ _ (e6.s _ _ (fx.s _ _ hlt)))⟩, va, rfl, kk _ _ hva7⟩
          · refine ⟨S7, e7, sm, ⟨_, rfl⟩, fun v hv => ?_⟩
            rw [take_get f1] at hv
            rcases List.mem_append.mp hv with hv | hv
            · exact hz v hv
            · rw [List.mem_singleton.mp hv, gd]; exact z
        · obtain ⟨sm, ⟨x7, rfl⟩, hz⟩ := p7
          rw [take_all hbs.len] at hz
          have ff : (basis.find? fun v => decide (v.getD l 0 ≠ 0)) = none := List.find?_eq_none.mpr fun v hv => by rw [decide_eq_false (fun y => y (hz v hv))]; decide
          rw [ff] at qk
          exact qk S7 H7 _ e7 rfl
end Th

/-! part DP -/
namespace Th
open PySem PySem.Spec PyProof.Rows L2

def sp_wrong_told : Sp := fun vs H Q E => ∃ S v bv h w cells ls book m t, ∃ l : Nat, vs = [v, bv, .int (l : Int), m] ∧ Same S H ∧ Bk S v bv h w cells ls book ∧ l < manyN ls ∧ (spanRows h w cells ls book).length ≤ 12 ∧ tyN H m = some t ∧
  (wh (some 0) (some 2) m = false → ∀ S' H' d, Ext No S H S' H' → H' d = some (mostD m) → E (.ref C_BadMost) (some d) H') ∧
  (∀ k : Nat, m = .int (k : Int) → k ≤ 2 → ∀ S' H' u, Ext No S H S' H' → optR LostV S' u (lostTold (spanRows h w cells ls book) (manyN ls) l (2 * k)) → Q u H')
theorem ok_wrong_told {P : Program} {w : World} {K : PySem.W.Frag} {mg : Str → Option Value} {base : Heap} (T : Tx K mg) : FnOk P w K mg base (L2.CX P w) 8 A_wrong_told (fdAt K A_wrong_told) P_wrong_told sp_wrong_told := by
  refine (fn_wrong_told T).ok sc_wrong_told (fun vs H Q E h => ?_) (fun cdv A outer s H vs Q E hr h => ?_)
  · obtain ⟨S, v, bv, h, w', cells, ls, book, m, t, l, rfl, _⟩ := h; rfl
  · obtain ⟨S, v, bv, h, w', cells, ls, book, m, t, l, rfl, hS, hb, hl, h12, hty, qe, q⟩ := h
    refine ⟨_, (pss_cons (ps_set (i := 4) sc_wrong_told.nd rfl (.inl rfl) (pe_call (ok_span_rows T) (hr.mono (by decide)) (by rfl) (g_span_rows T) (fn_span_rows T).kp (b_span_rows T) .nil pass0 (pa_cons (pv 0) (pa_cons (pv 1) pa_nil))))
      (pss_cons (ps_expr (pe_call (ok_check_letter T) (hr.mono (by decide)) (by rfl) (g_check_letter T) (fn_check_letter T).kp (b_check_letter T) .nil pass0 (pa_cons (pv 0) (pa_cons (pv 2) pa_nil))))
      (pss_cons (ps_expr (pe_call (ok_check_most T) (hr.mono (by decide)) (by rfl) (g_check_most T) (fn_check_most T).kp (b_check_most T) .nil (passes_call (takes_of rfl rfl rfl rfl) fun _ _ _ _ z => z) (pa_cons (pv 3) (pa_cons pe_int pa_nil))))
      (pss_cons (ps_expr (pe_call (ok_few_answers T) (hr.mono (by decide)) (by rfl) (g_few_answers T) (fn_few_answers T).kp (b_few_answers T) .nil pass0 (pa_cons (pv 4) pa_nil)))
      (pss_one (ps_ret (pe_call (ok_lost_told T) hr (by rfl) (g_lost_told T) (fn_lost_told T).kp (b_lost_told T) .nil (passes_call (takes_of rfl rfl rfl rfl) fun _ _ _ _ z => z) (pa_cons (pv 0) (pa_cons (pv 1) (pa_cons (pv 2) (pa_cons (pe_op op_mul pe_int (pv 3)) pa_nil))))))))))), ?_⟩
    refine ⟨_, rfl, _, rfl, S, _, _, h, w', cells, ls, book, rfl, hS, hb.m, hb.b, hb.bo, hb.co, hb.ll, hb.h6, hb.w6, by have := hb.n5; omega, hb.cl, fun S1 H1 u1 e1 hu1 => ?_⟩
    refine ⟨_, rfl, _, rfl, S1, _, h, w', cells, ls, l, rfl, e1.i, hb.m.mono e1.s, hl, ?_⟩
    refine ⟨_, rfl, S1, m, t, 2, rfl, e1.i, tyN_same e1.same hty, fun hw => ?_, fun hw H' d e2 hd => qe hw S1 H' d (e1.trans e2) hd⟩
    obtain ⟨k, rfl, k0, k2⟩ := wh_int hw (by decide)
    refine ⟨_, rfl, S1, u1, _, rfl, e1.i, hu1, h12, ?_⟩
    refine ⟨_, rfl, _, rfl, _, rfl, _, rfl, _, _, rfl, rfl, ?_⟩
    have cm : CMul 2 (k : Int) := .inl ⟨by decide, by decide⟩
    refine ⟨cm, S1, v, bv, h, w', cells, ls, book, .int ((2 * k : Nat) : Int), "int", l, ?_, e1.i, hb.mono e1.s, hl, h12, rfl, fun hw2 => ?_, fun j hj j4 S' H' u e2 hu => ?_⟩
    · show [v, bv, V.int ↑l, V.int (2 * (k : Int))] = _
      rw [Int.natCast_mul]; rfl
    · exfalso
      have : wh (some 0) (some 4) (.int ((2 * k : Nat) : Int)) = true := wh_t (by omega) (by omega)
      rw [this] at hw2; cases hw2
    · have e := V.int.inj hj
      have ej : j = 2 * k := by omega
      subst ej
      exact q k rfl (by omega) S' H' u (e1.trans e2) hu
end Th

/-! part DQ -/
namespace Th
open PySem PySem.Spec PyProof.Rows L2

/-! ## the law's own defs -/
theorem cm32 {x y : Int} (h0 : 0 ≤ y) (h : y < 2 ^ 32) : CMul x y := .inr ⟨Int.lt_of_lt_of_le (by decide) h0, Int.lt_trans h (by decide)⟩
def sp_law_mixed : Sp := fun vs H Q _ => ∃ a b : Int, vs = [.int a, .int b] ∧ ∀ r : Int, 0 ≤ r → Q (.int r) H
theorem ok_law_mixed {P : Program} {w : World} {K : PySem.W.Frag} {mg : Str → Option Value} {base : Heap} (T : Tx K mg) : FnOk P w K mg base CX0 1 A_law_mixed (fdAt K A_law_mixed) P_law_mixed sp_law_mixed := by
  refine (fn_law_mixed T).ok sc_law_mixed (fun vs H Q E h => ?_) (fun cdv A outer s H vs Q E hr h => ?_)
  · obtain ⟨a, b, rfl, _⟩ := h; rfl
  · obtain ⟨a, b, rfl, q⟩ := h
    refine ⟨_, PSs.nox (pss_cons (ps_set (i := 2) sc_law_mixed.nd rfl (.inl rfl) (pe_op op_mod (pe_callTy call_int1 (by rfl) (f_int T) bt_int (pa_cons (pe_op op_add (pe_op op_add (pe_op op_mul (pv 0) pe_int) (pe_op op_mul (pv 1) pe_int)) pe_int) pa_nil)) pe_int))
      (pss_cons (ps_set (i := 3) sc_law_mixed.nd rfl (.inl rfl) (pe_op op_mod (pe_callTy call_int1 (by rfl) (f_int T) bt_int (pa_cons (pe_op op_add (pe_op op_add (pe_op op_mul (pv 2) (pv 2)) (pe_op op_mul (pv 1) pe_int)) (pe_op op_fdiv (pv 2) pe_int)) pa_nil)) pe_int))
      (pss_one (ps_ret (pe_op op_fdiv (pe_callTy call_int1 (by rfl) (f_int T) bt_int (pa_cons (pe_op op_mod (pe_callTy call_int1 (by rfl) (f_int T) bt_int (pa_cons (pe_op op_add (pe_op op_mul (pv 3) pe_int) (pe_op op_fdiv (pv 2) pe_int)) pa_nil)) pe_int) pa_nil)) pe_int))))), ?_⟩
    refine ⟨_, rfl, _, _, rfl, rfl, cm32 (by decide) (by decide), _, rfl, _, _, rfl, rfl, cm32 (by decide) (by decide), _, _, rfl, rfl, _, _, rfl, rfl, .inl ⟨_, rfl, _, _, rfl, rfl, (show (0 : Int) < 2147483399 by decide), ?_⟩⟩
    have o1 : ∀ x : Int, 0 ≤ x % 2147483399 ∧ x % 2147483399 < 2147483399 := fun x => ⟨Int.emod_nonneg _ (by decide), Int.emod_lt_of_pos _ (by decide)⟩
    have o2 : ∀ x : Int, 0 ≤ x % 2147483629 ∧ x % 2147483629 < 2147483629 := fun x => ⟨Int.emod_nonneg _ (by decide), Int.emod_lt_of_pos _ (by decide)⟩
    show gName 2 (V.int ((a * 48271 + b * 7919 + 30011) % 2147483399)) _ _ _
    obtain ⟨h1, h2⟩ := o1 (a * 48271 + b * 7919 + 30011)
    generalize (a * 48271 + b * 7919 + 30011) % 2147483399 = once at h1 h2
    refine ⟨_, rfl, _, rfl, _, _, rfl, rfl, cm32 h1 (by omega), _, rfl, _, _, rfl, rfl, cm32 (by decide) (by decide), _, _, rfl, rfl, _, rfl, _, _, rfl, rfl, ⟨by decide, by decide⟩, _, _, rfl, rfl, .inl ⟨_, rfl, _, _, rfl, rfl, (show (0 : Int) < 2147483629 by decide), ?_⟩⟩
    refine ⟨_, rfl, _, _, rfl, rfl, cm32 (by decide) (by decide), _, rfl, _, _, rfl, rfl, ⟨by decide, by decide⟩, _, _, rfl, rfl, .inl ⟨_, rfl, _, _, rfl, rfl, (show (0 : Int) < 2147483587 by decide), .inl ⟨_, rfl, _, _, rfl, rfl, ⟨by decide, by decide⟩, ?_⟩⟩⟩
    exact q _ (Int.ediv_nonneg (Int.emod_nonneg _ (by decide)) (by decide))
/-- the hand at hd: cells, the next one, the rest, the total -/
def Hand (S H : Hp) (hd : Addr) : Prop := S hd = none ∧ ∃ (c : Addr) (cells : List Int) (i r t : Int), S c = some (.lst (cells.map V.int)) ∧ (∀ x ∈ cells, 0 ≤ x) ∧ 0 ≤ i ∧ 0 ≤ r ∧ H hd = some (.lst [.ref c, .int i, .int r, .int t])
theorem Hand.keep {S H S' H' : Hp} {hd : Addr} (h : Hand S H hd) (e : Ext No S H S' H') : Hand S' H' hd := by
  obtain ⟨h0, c, cells, i, r, t, h1, h2, h3, h4, h5⟩ := h
  exact ⟨e.n hd (ne_none h5) h0, c, cells, i, r, t, e.s _ _ h1, h2, h3, h4, e.h _ _ (fun z => z) h5⟩
theorem Hand.at_ {S H : Hp} {hd : Addr} (h : Hand S H hd) : ∃ xs, H hd = some (.lst xs) := by
  obtain ⟨h0, c, cells, i, r, t, h1, h2, h3, h4, h5⟩ := h
  exact ⟨_, h5⟩
theorem seqJoin {a b : TS} {D : Ends} {σ : L2.St} {H : Hp} (P : L2.St → Hp → Prop) (h2 : ∀ σ' H', P σ' H' → b D σ' H') (h1 : ∀ nx : L2.St → Hp → Prop, (∀ σ' H', P σ' H' → nx σ' H') → a { D with nx := nx } σ H) : tSeq a b D σ H := h1 (b D) h2
def sp_law_take : Sp := fun vs H Q _ => ∃ S hd, ∃ n : Nat, vs = [.ref hd, .int (n : Int)] ∧ Same S H ∧ Hand S H hd ∧ 0 < n ∧ n < 2 ^ 60 ∧ ∀ (H' : Hp) (r : Nat), Ext (· = hd) S H S H' → Hand S H' hd → r < n → Q (.int (r : Int)) H'
theorem modN {x : Int} {n : Nat} (h : 0 < n) : ∃ r : Nat, x % (n : Int) = (r : Int) ∧ r < n := by
  have h1 := Int.emod_nonneg x (show (n : Int) ≠ 0 by omega)
  have h2 := Int.emod_lt_of_pos x (show (0 : Int) < n by omega)
  exact ⟨(x % (n : Int)).toNat, (Int.toNat_of_nonneg h1).symm, by omega⟩
theorem ok_law_take {P : Program} {w : World} {K : PySem.W.Frag} {mg : Str → Option Value} {base : Heap} (T : Tx K mg) : FnOk P w K mg base CX0 2 A_law_take (fdAt K A_law_take) P_law_take sp_law_take := by
  refine (fn_law_take T).ok sc_law_take (fun vs H Q E h => ?_) (fun cdv A outer s H vs Q E hr h => ?_)
  · obtain ⟨S, hd, n, rfl, _⟩ := h; rfl
  · obtain ⟨S, hd, n, rfl, hS, ⟨s0, c, cells, ci, cr, ct, hc, hcp, h0, h1, hH⟩, hn, hn60, q⟩ := h
    refine ⟨_, PSs.nox (pss_cons (ps_if (PW.pt (pw_and (pt_cmpR op_eq (pe_ix ix_list (pv 0) pe_int (fun _ _ => rfl)) pe_int (nomark _)) (pw_and1 (pt_cmpR op_lt (pe_ix ix_list (pv 0) pe_int (fun _ _ => rfl)) (pe_callB call_len_seq (by rfl) (f_len T) bt_len (pa_cons (pe_ix ix_list (pv 0) pe_int (fun _ _ => rfl)) pa_nil)) (nomark _)))))
      (pss_cons (ps_set (i := 2) sc_law_take.nd rfl (.inl rfl) (pe_ix ix_list (pe_ix ix_list (pv 0) pe_int (fun _ _ => rfl)) (pe_ix ix_list (pv 0) pe_int (fun _ _ => rfl)) (fun _ _ => rfl)))
      (pss_cons (ps_asg (pe_op op_add (pe_ix ix_list (pv 0) pe_int (fun _ _ => rfl)) pe_int) (pg_sub (pv 0) pe_int set_list))
      (pss_cons (ps_if (pt_cmpR op_lt (pv 2) (pe_op op_pow pe_int pe_int) (nomark _))
      (pss_one (ps_ret (pe_op op_mod (pe_callTy call_int1 (by rfl) (f_int T) bt_int (pa_cons (pe_call (ok_law_mixed T) hr (by rfl) (g_law_mixed T) (fn_law_mixed T).kp (b_law_mixed T) .nil pass0 (pa_cons (pe_op op_mod (pe_callTy call_int1 (by rfl) (f_int T) bt_int (pa_cons (pv 2) pa_nil)) pe_int) (pa_cons (pe_ix ix_list (pv 0) pe_int (fun _ _ => rfl)) pa_nil))) pa_nil)) (pv 1))))
      pss_nil)
      (pss_one (ps_asg (pv 2) (pg_sub (pv 0) pe_int set_list))))))
      pss_nil)
      (pss_cons (ps_if (pt_cmpR op_gt (pe_ix ix_list (pv 0) pe_int (fun _ _ => rfl)) pe_int (nomark _))
      (pss_cons (ps_set (i := 3) sc_law_take.nd rfl (.inl rfl) (pe_ix ix_list (pv 0) pe_int (fun _ _ => rfl)))
      (pss_cons (ps_asg (pe_op op_fdivW (pe_callTy call_int1 (by rfl) (f_int T) bt_int (pa_cons (pv 3) pa_nil)) (pv 1)) (pg_sub (pv 0) pe_int set_list))
      (pss_one (ps_ret (pe_op op_mod (pe_callTy call_int1 (by rfl) (f_int T) bt_int (pa_cons (pv 3) pa_nil)) (pv 1))))))
      pss_nil)
      (pss_cons (ps_asg (pe_op op_mod (pe_callTy call_int1 (by rfl) (f_int T) bt_int (pa_cons (pe_op op_add (pe_ix ix_list (pv 0) pe_int (fun _ _ => rfl)) pe_int) pa_nil)) pe_int) (pg_sub (pv 0) pe_int set_list))
      (pss_one (ps_ret (pe_op op_mod (pe_callTy call_int1 (by rfl) (f_int T) bt_int (pa_cons (pe_call (ok_law_mixed T) hr (by rfl) (g_law_mixed T) (fn_law_mixed T).kp (b_law_mixed T) .nil pass0 (pa_cons (pe_ix ix_list (pv 0) pe_int (fun _ _ => rfl)) (pa_cons (pe_ix ix_list (pv 0) pe_int (fun _ _ => rfl)) pa_nil))) pa_nil)) (pv 1))))))), ?_⟩
    have e0 := Ext.refl (m := (· = hd)) hS
    have dn : CDivW cr (n : Int) := wide_div (b := 61) (by omega) (by show n < 2 ^ 61; omega) (by decide) (by decide)
    refine seqJoin (fun σ' H' => ∃ x2 ci cr ct, σ' = [some (.ref hd), some (.int (n : Int)), x2, none] ∧ Ext (· = hd) S H S H' ∧ 0 ≤ ci ∧ 0 ≤ cr ∧ H' hd = some (.lst [.ref c, .int ci, .int cr, .int ct])) (fun σ' H' p => ?_) fun nx hnx => ?_
    · obtain ⟨x2, ci, cr, ct, rfl, e1, h0, h1, hH⟩ := p
      have dn : CDivW cr (n : Int) := wide_div (b := 61) (by omega) (by show n < 2 ^ 61; omega) (by decide) (by decide)
      refine ⟨_, rfl, _, _, _, _, rfl, rfl, SqL.of hH, atI_nat (j := 2) rfl, _, _, rfl, rfl, _, rfl, ifD (fun z => ?_) fun z => ?_⟩
      · refine ⟨_, rfl, _, _, _, _, rfl, rfl, SqL.of hH, atI_nat (j := 2) rfl, ?_⟩
        refine ⟨_, rfl, .inl ⟨_, rfl, _, rfl, _, _, rfl, rfl, dn, ?_⟩⟩
        refine ⟨_, rfl, hd, _, 2, 2, rfl, rfl, hH, rfl, ?_⟩
        obtain ⟨r, hr, hrn⟩ := modN (x := cr) hn
        refine ⟨_, rfl, .inl ⟨_, rfl, _, rfl, _, _, rfl, rfl, (show (0 : Int) < n by omega), ?_⟩⟩
        show Q (.int (cr % (n : Int))) _
        rw [hr]
        have e2 := e1.mut (o := .lst [.ref c, .int ci, .int (cr / (n : Int)), .int ct]) (.inr rfl) s0
        exact q _ r e2 ⟨s0, c, cells, ci, _, ct, hc, hcp, h0, Int.ediv_nonneg h1 (by omega), upd_same⟩ hrn
      · refine ⟨_, rfl, _, _, _, _, rfl, rfl, SqL.of hH, atI_nat (j := 3) rfl, _, _, rfl, rfl, .inl ⟨_, rfl, _, _, rfl, rfl, (show (0 : Int) < 2147483549 by decide), ?_⟩⟩
        refine ⟨_, rfl, hd, _, 3, 3, rfl, rfl, hH, rfl, ?_⟩
        have e2 := e1.mut (o := .lst [.ref c, .int ci, .int cr, .int ((ct + 1) % 2147483549)]) (.inr rfl) s0
        refine ⟨_, rfl, _, _, _, _, rfl, rfl, SqL.of upd_same, atI_nat (j := 3) rfl, _, rfl, _, _, _, _, rfl, rfl, SqL.of upd_same, atI_nat (j := 1) rfl, _, _, rfl, fun w hw => .inl ⟨_, rfl, _, rfl, _, _, rfl, rfl, (show (0 : Int) < n by omega), ?_⟩⟩
        obtain ⟨r, hr, hrn⟩ := modN (x := w) hn
        show Q (.int (w % (n : Int))) _
        rw [hr]
        exact q _ r e2 ⟨s0, c, cells, ci, _, _, hc, hcp, h0, h1, upd_same⟩ hrn
    · have go : ∀ x2, nx [some (.ref hd), some (.int (n : Int)), x2, none] H := fun x2 => hnx _ _ ⟨x2, ci, cr, ct, rfl, e0, h0, h1, hH⟩
      refine ⟨_, rfl, _, _, _, _, rfl, rfl, SqL.of hH, atI_nat (j := 2) rfl, rfl, _, rfl, ?_⟩
      rw [dV]
      refine ifD (fun z => ?_) fun z => iteF (go none)
      have hc0 := hS _ _ hc
      refine ⟨_, rfl, _, _, _, _, rfl, rfl, SqL.of hH, atI_nat (j := 1) rfl, _, rfl, _, _, _, _, rfl, rfl, SqL.of hH, atI_nat (j := 0) rfl, c, _, rfl, .inl (SqL.of hc0), _, _, rfl, rfl, _, rfl, ifD (fun z2 => ?_) fun z2 => go none⟩
      rw [List.length_map] at z2
      obtain ⟨k, rfl⟩ : ∃ k : Nat, ci = (k : Int) := ⟨ci.toNat, (Int.toNat_of_nonneg h0).symm⟩
      have kl : k < cells.length := by omega
      obtain ⟨x1, x2⟩ := int_ix (K := K) hS hc kl
      have cp : 0 ≤ cells.getD k 0 := hcp _ (by rw [List.getD_eq_getElem?_getD, List.getElem?_eq_getElem kl]; exact List.getElem_mem kl)
      generalize cells.getD k 0 = cell at x2 cp
      refine ⟨_, rfl, _, _, _, _, rfl, rfl, SqL.of hH, atI_nat (j := 0) rfl, _, rfl, _, _, _, _, rfl, rfl, SqL.of hH, atI_nat (j := 1) rfl, _, _, _, _, rfl, rfl, x1, x2, ?_⟩
      refine ⟨_, rfl, _, _, _, _, rfl, rfl, SqL.of hH, atI_nat (j := 1) rfl, _, _, rfl, rfl, _, rfl, hd, _, 1, 1, rfl, rfl, hH, rfl, ?_⟩
      have e2 := e0.mut (o := .lst [.ref c, .int ((k : Int) + 1), .int cr, .int ct]) (.inr rfl) s0
      refine ⟨_, rfl, _, _, rfl, rfl, ⟨by decide, by decide, by decide⟩, _, _, rfl, rfl, _, rfl, ifD (fun z3 => ?_) fun z3 => ?_⟩
      · refine ⟨_, rfl, .inl ⟨_, rfl, _, _, rfl, rfl, (show (0 : Int) < 2147483399 by decide), _, rfl, _, _, _, _, rfl, rfl, SqL.of upd_same, atI_nat (j := 1) rfl, _, _, rfl, fun w hw => .inl ⟨_, rfl, _, rfl, _, _, rfl, rfl, (show (0 : Int) < n by omega), ?_⟩⟩⟩
        obtain ⟨r, hr, hrn⟩ := modN (x := w) hn
        show Q (.int (w % (n : Int))) _
        rw [hr]
        exact q _ r e2 ⟨s0, c, cells, (k : Int) + 1, _, _, hc, hcp, by omega, h1, upd_same⟩ hrn
      · refine ⟨_, rfl, _, rfl, hd, _, 2, 2, rfl, rfl, upd_same, rfl, ?_⟩
        exact hnx _ _ ⟨_, (k : Int) + 1, cell, ct, rfl, e2.mut (.inr rfl) s0, by omega, cp, upd_same⟩
end Th

/-! part DR -/
namespace Th
open PySem PySem.Spec PyProof.Rows L2

theorem sql_same {K : PySem.W.Frag} {H H' : Hp} {a : Addr} {xs : List V} (h : SqL K H a xs) (e : Same H H') : SqL K H' a xs := h.imp (fun r => r.imp (e _ _) fun ⟨o, z⟩ => ⟨o, e _ _ z⟩) id
def sp_law_hand (K : PySem.W.Frag) : Sp := fun vs H Q _ => ∃ S a, ∃ ns : List Int, vs = [.ref a] ∧ Same S H ∧ SqL K H a (ns.map V.int) ∧ ns.length ≤ sizeLine ∧ ∀ S' H' hd, Ext No S H S' H' → Hand S' H' hd → H hd = none → Q (.ref hd) H'
theorem ok_law_hand {P : Program} {w : World} {K : PySem.W.Frag} {mg : Str → Option Value} {base : Heap} (T : Tx K mg) : FnOk P w K mg base CX0 1 A_law_hand (fdAt K A_law_hand) P_law_hand (sp_law_hand K) := by
  refine (fn_law_hand T).ok sc_law_hand (fun vs H Q E h => ?_) (fun cdv A outer s H vs Q E hr h => ?_)
  · obtain ⟨S, a, ns, rfl, _⟩ := h; rfl
  · obtain ⟨S, a, ns, rfl, hS, ha, hl, q⟩ := h
    refine ⟨_, PSs.nox (pss_cons (ps_set (i := 1) sc_law_hand.nd rfl (.inl rfl) (pe_op op_add (pe_callB call_len_seq (by rfl) (f_len T) bt_len (pa_cons (pv 0) pa_nil)) pe_int))
      (pss_cons (ps_set (i := 2) sc_law_hand.nd rfl (.inl rfl) (pe_lst pa_nil))
      (pss_cons (ps_for PassesOwn.never rfl (pi_list (pv 0)) (pg_name (i := 3) sc_law_hand.nd rfl (.inl rfl))
      (pss_cons (ps_set (i := 1) sc_law_hand.nd rfl (.inl rfl) (pe_op op_mod (pe_callTy call_int1 (by rfl) (f_int T) bt_int (pa_cons (pe_op op_add (pe_op op_mul (pv 1) pe_int) (pe_callTy call_int1 (by rfl) (f_int T) bt_int (pa_cons (pv 3) pa_nil))) pa_nil)) pe_int))
      (pss_one (ps_expr (pe_bm PySem.F.plainAttrs_list PySem.F.slot_list_append PySem.F.type_list_append mt_append (pv 2) (pa_cons (pe_callB call_abs (by rfl) (f_abs T) bt_abs (pa_cons (pe_callTy call_int1 (by rfl) (f_int T) bt_int (pa_cons (pv 3) pa_nil)) pa_nil)) pa_nil))))))
      (pss_one (ps_ret (pe_lst (pa_cons (pv 2) (pa_cons pe_int (pa_cons pe_int (pa_cons (pv 1) pa_nil)))))))))), ?_⟩
    refine ⟨_, rfl, a, _, rfl, .inl ha, _, _, rfl, rfl, Nat.zero_le _, fun p1 h1 => ?_⟩
    have e1 := (Ext.refl (m := No) hS).newM (o := .lst []) h1
    refine ⟨_, rfl, a, rfl, ⟨_, sql_same ha e1.same⟩, forE (S0 := S) (H0 := H) (m := No) (σ := [some (.ref a), some (.int (((ns.map V.int).length : Int) + 37)), some (.ref p1), none]) (walk_list (xs := ns.map V.int))
      (fun i σ S' H' => ∃ t x3, ∃ cs : List Int, σ = [some (.ref a), some (.int t), some (.ref p1), x3] ∧ S' p1 = none ∧ H' p1 = some (.lst (cs.map V.int)) ∧ (∀ x ∈ cs, 0 ≤ x) ∧ cs.length = i) e1 ⟨_, none, [], rfl, none_of_same hS h1, upd_same, (fun x hx => by cases hx), rfl⟩
      (fun _ _ _ _ _ e _ => sql_same ha e.same) (fun i x σ S5 H5 H6 hi e5 p5 hy => ?_) fun σ S5 H5 e5 p5 => ?_⟩
    · obtain ⟨t, x3, cs, rfl, s5, hp5, hcp, hcl⟩ := p5
      obtain ⟨rfl, hx⟩ := hy
      obtain ⟨n, f1, rfl⟩ := map_get hx
      rw [List.length_map] at hi
      refine ⟨_, rfl, _, _, rfl, rfl, cm32 (by decide) (by decide), _, rfl, .inl ⟨_, rfl, _, _, rfl, rfl, .inl ⟨_, rfl, _, _, rfl, rfl, (show (0 : Int) < 2147483549 by decide), ?_⟩⟩⟩
      refine ⟨_, rfl, .inl ⟨rfl, _, SqL.of hp5⟩, _, rfl, .inl ⟨_, rfl, _, rfl, p1, _, _, rfl, rfl, hp5, by rw [List.length_map]; omega, ?_⟩⟩
      refine ⟨S5, e5.mut (.inl h1) s5, _, _, cs ++ [if n < 0 then -n else n], rfl, s5, ?_, fun x hx => ?_, ?_⟩
      · rw [upd_same, List.map_append]; rfl
      · rcases List.mem_append.mp hx with z | z
        · exact hcp x z
        · rw [List.mem_singleton.mp z]; exact abs_nn n
      · rw [List.length_append, hcl]; rfl
    · obtain ⟨t, x3, cs, rfl, s5, hp5, hcp, hcl⟩ := p5
      refine ⟨_, rfl, _, rfl, (by show (4 : Nat) ≤ sizeLine; decide), fun hd hh => ?_⟩
      have e6 := e5.fix h1 s5 hp5
      have e7 := e6.newM (o := .lst [.ref p1, .int 0, .int 0, .int t]) hh
      exact q _ _ hd e7 ⟨none_of_same e6.i hh, p1, cs, 0, 0, t, upd_same, hcp, Int.le_refl _, Int.le_refl _, upd_same⟩ (e5.none1 hh)
def cellP : Rp Cell := fun S v c => ∃ a, v = .ref a ∧ S a = some (.tup [.int (c.1 : Nat), .int (c.2 : Nat)])
theorem cellP_m : MonoR cellP := fun _ _ _ _ k ⟨a, e, h⟩ => ⟨a, e, k _ _ h⟩
def pairsOf (h w : Nat) : List Cell := (List.range h).flatMap fun r => (List.range w).map fun c => (r, c)
def sp_law_pairs : Sp := fun vs H Q _ => ∃ S, ∃ h w : Nat, vs = [.int (h : Int), .int (w : Int)] ∧ Same S H ∧ h ≤ 100 ∧ w ≤ 100 ∧ ∀ S' H' u, Ext No S H S' H' → lR cellP S' u (pairsOf h w) → Q u H'
theorem ok_law_pairs {P : Program} {w : World} {K : PySem.W.Frag} {mg : Str → Option Value} {base : Heap} (T : Tx K mg) : FnOk P w K mg base CX0 1 A_law_pairs (fdAt K A_law_pairs) P_law_pairs sp_law_pairs := by
  refine (fn_law_pairs T).ok sc_law_pairs (fun vs H Q E h => ?_) (fun cdv A outer s H vs Q E hr h => ?_)
  · obtain ⟨S, h, w', rfl, _⟩ := h; rfl
  · obtain ⟨S, h, w', rfl, hS, hh, hw, q⟩ := h
    refine ⟨_, PSs.nox (pss_cons (ps_set (i := 2) sc_law_pairs.nd rfl (.inl rfl) (pe_lst pa_nil))
      (pss_cons (ps_for PassesOwn.never rfl (pi_range1 (by rfl) (f_range T) (pa_cons (pv 0) pa_nil)) (pg_name (i := 3) sc_law_pairs.nd rfl (.inl rfl))
      (pss_one (ps_for PassesOwn.never rfl (pi_range1 (by rfl) (f_range T) (pa_cons (pv 1) pa_nil)) (pg_name (i := 4) sc_law_pairs.nd rfl (.inl rfl))
      (pss_one (ps_expr (pe_bm PySem.F.plainAttrs_list PySem.F.slot_list_append PySem.F.type_list_append mt_append (pv 2) (pa_cons (pe_tup (pa_cons (pv 3) (pa_cons (pv 4) pa_nil))) pa_nil)))))))
      (pss_one (ps_ret (pv 2))))), ?_⟩
    refine ⟨Nat.zero_le _, fun p1 h1 => ?_⟩
    have e1 := (Ext.refl (m := No) hS).newM (o := .lst []) h1
    have pl : ∀ i j, i ≤ h → j ≤ w' → (pairsOf i w' ++ (List.range j).map fun c => (i, c)).length ≤ 10100 := fun i j hi hj => by
      have key : ∀ i, (pairsOf i w').length = i * w' := by
        intro i
        induction i with
        | zero => show 0 = 0 * w'; rw [Nat.zero_mul]
        | succ i ih =>
          unfold pairsOf at ih ⊢
          rw [List.range_succ, List.flatMap_append, List.length_append, ih, List.flatMap_cons, List.flatMap_nil, List.append_nil, List.length_map, List.length_range, Nat.succ_mul]
      rw [List.length_append, key, List.length_map, List.length_range]
      have : i * w' ≤ 100 * 100 := Nat.mul_le_mul (by omega) hw
      omega
    refine ⟨_, rfl, (h : Int), rfl, by omega, by omega, forE (S0 := S) (H0 := H) (m := No) (σ := [some (.int (h : Int)), some (.int (w' : Int)), some (.ref p1), none, none]) walk0
      (fun i σ S' H' => ∃ x3 x4 acc, σ = [some (.int (h : Int)), some (.int (w' : Int)), some (.ref p1), x3, x4] ∧ S' p1 = none ∧ H' p1 = some (.lst acc) ∧ All2 (cellP S') acc (pairsOf i w')) e1 ⟨_, _, [], rfl, none_of_same hS h1, upd_same, .nil⟩ (fun _ _ _ _ _ _ _ => trivial)
      (fun i x σ S5 H5 H6 hi e5 p5 hy => ?_) fun σ S5 H5 e5 p5 => ?_⟩
    · obtain ⟨x3, x4, acc, rfl, s5, hp5, al⟩ := p5
      obtain ⟨rfl, rfl⟩ := hy
      refine ⟨_, rfl, (w' : Int), rfl, by omega, by omega, forE (S0 := S) (H0 := H) (m := No) (σ := [some (.int (h : Int)), some (.int (w' : Int)), some (.ref p1), some (.int (i : Int)), x4]) walk0
        (fun j σ S' H' => ∃ x4 acc, σ = [some (.int (h : Int)), some (.int (w' : Int)), some (.ref p1), some (.int (i : Int)), x4] ∧ S' p1 = none ∧ H' p1 = some (.lst acc) ∧ All2 (cellP S') acc (pairsOf i w' ++ (List.range j).map fun c => (i, c))) e5 ⟨_, acc, rfl, s5, hp5, by rw [List.range_zero, List.map_nil, List.append_nil]; exact al⟩ (fun _ _ _ _ _ _ _ => trivial)
        (fun j x σ S7 H7 H8 hj e7 p7 hy => ?_) fun σ S7 H7 e7 p7 => ?_⟩
      · obtain ⟨y4, acc7, rfl, s7, hp7, al7⟩ := p7
        obtain ⟨rfl, rfl⟩ := hy
        have al7l := al7.len
        have := pl i j (by omega) (by omega)
        refine ⟨_, rfl, .inl ⟨rfl, _, SqL.of hp7⟩, _, rfl, _, rfl, (by show (2 : Nat) ≤ sizeLine; decide), fun t ht => ?_⟩
        have e8 := (Ext.refl (m := No) e7.i).new (o := .tup [.int (i : Int), .int (j : Int)]) ht
        have hp8 := e8.h _ _ (fun z => z) hp7
        have s8 := e8.n _ (ne_none hp7) s7
        refine ⟨p1, acc7, .ref t, rfl, rfl, hp8, szLt (by omega), _, (e7.trans e8).mut (.inl h1) s8, _, _, rfl, s8, upd_same, ?_⟩
        rw [range_snoc, ← List.append_assoc]
        exact (al7.mono cellP_m e8.s).snoc ⟨t, rfl, upd_same⟩
      · obtain ⟨y4, acc7, rfl, s7, hp7, al7⟩ := p7
        refine ⟨S7, e7, _, _, acc7, rfl, s7, hp7, ?_⟩
        have : pairsOf (i + 1) w' = pairsOf i w' ++ (List.range w').map fun c => (i, c) := by
          unfold pairsOf
          rw [List.range_succ, List.flatMap_append, List.flatMap_cons, List.flatMap_nil, List.append_nil]
        rw [this]; exact al7
    · obtain ⟨x3, x4, acc, rfl, s5, hp5, al⟩ := p5
      have e6 := e5.fix h1 s5 hp5
      exact ⟨_, rfl, q _ _ _ e6 ⟨p1, acc, rfl, upd_same, al.mono cellP_m (same_upd s5)⟩⟩
end Th

/-! part DS -/
namespace Th
open PySem PySem.Spec PyProof.Rows L2

def sp_law_cells : Sp := fun vs H Q _ => ∃ S hd, ∃ h w : Nat, vs = [.ref hd, .int (h : Int), .int (w : Int)] ∧ Same S H ∧ Hand S H hd ∧ h ≤ 100 ∧ w ≤ 100 ∧
  ∀ S' H' u cs, Ext (· = hd) S H S' H' → Hand S' H' hd → List.Sublist cs (pairsOf h w) → lR cellP S' u cs → Q u H'
theorem pairsOf_len (h w : Nat) : (pairsOf h w).length = h * w := by
  unfold pairsOf
  induction h with
  | zero => show 0 = 0 * w; rw [Nat.zero_mul]
  | succ i ih => rw [List.range_succ, List.flatMap_append, List.length_append, ih, List.flatMap_cons, List.flatMap_nil, List.append_nil, List.length_map, List.length_range, Nat.succ_mul]
theorem ok_law_cells {P : Program} {w : World} {K : PySem.W.Frag} {mg : Str → Option Value} {base : Heap} (T : Tx K mg) : FnOk P w K mg base CX0 3 A_law_cells (fdAt K A_law_cells) P_law_cells sp_law_cells := by
  refine (fn_law_cells T).ok sc_law_cells (fun vs H Q E h => ?_) (fun cdv A outer s H vs Q E hr h => ?_)
  · obtain ⟨S, hd, h, w', rfl, _⟩ := h; rfl
  · obtain ⟨S, hd, h, w', rfl, hS, hH, hh, hw, q⟩ := h
    refine ⟨_, PSs.nox (pss_cons (ps_set (i := 3) sc_law_cells.nd rfl (.inr rfl) (pe_ix ix_tup (pe_tup (pa_cons pe_int (pa_cons pe_int (pa_cons pe_int (pa_cons pe_int (pa_cons pe_int (pa_cons pe_int pa_nil))))))) (pe_call (ok_law_take T) hr (by rfl) (g_law_take T) (fn_law_take T).kp (b_law_take T) .nil pass0 (pa_cons (pv 0) (pa_cons pe_int pa_nil))) (fun _ _ => rfl)))
      (pss_one (ps_ret (pe_lc (own := [("_law_row", 4), ("_law_column", 5)]) (g := gTup K 2 (gCons (gName 4) (gCons (gName 5) (gNil)))) rfl sc_law_cells.nd (pi_list (pe_call (ok_law_pairs T) (hr.mono (by decide)) (by rfl) (g_law_pairs T) (fn_law_pairs T).kp (b_law_pairs T) .nil pass0 (pa_cons (pv 1) (pa_cons (pv 2) pa_nil)))) (blkOk_by (N := N_law_cells) (sc := defScope st_law_cells) (by decide +kernel)) (fun _ _ _ _ _ => (pg_tup (by rfl) (pgs_cons (pg_name (i := 4) sc_law_cells.nd rfl (.inl rfl)) (pgs_cons (pg_name (i := 5) sc_law_cells.nd rfl (.inl rfl)) pgs_nil)))) (fun _ _ _ _ _ => (pts_one (pt_cmpR op_lt (pe_call (ok_law_take T) hr (by rfl) (g_law_take T) (fn_law_take T).kp (b_law_take T) .nil pass0 (pa_cons (pv 0) (pa_cons pe_int pa_nil))) (pv 3) (nomark _)))) (fun _ _ _ _ _ => (pe_tup (pa_cons (pv 4) (pa_cons (pv 5) pa_nil)))))))), ?_⟩
    refine ⟨(by show (6 : Nat) ≤ sizeLine; decide), fun p1 h1 => ?_⟩
    have e1 := (Ext.refl (m := No) hS).newM (o := .tup [.int 2, .int 2, .int 3, .int 1, .int 2, .int 4]) h1
    refine ⟨_, rfl, S, hd, 6, rfl, e1.i, hH.keep e1, by decide, by decide, fun H2 r e2 hH2 hr => ?_⟩
    have ex : ∃ n : Int, [V.int 2, V.int 2, V.int 3, V.int 1, V.int 2, V.int 4][r]? = some (.int n) := by
      rcases r with _ | _ | _ | _ | _ | _ | r
      · exact ⟨_, rfl⟩
      · exact ⟨_, rfl⟩
      · exact ⟨_, rfl⟩
      · exact ⟨_, rfl⟩
      · exact ⟨_, rfl⟩
      · exact ⟨_, rfl⟩
      · omega
    obtain ⟨part, hp⟩ := ex
    have hdp : p1 ≠ hd := fun z => by
      obtain ⟨xs, hx⟩ := hH.at_
      rw [z] at h1; rw [h1] at hx; cases hx
    refine ⟨_, _, _, _, rfl, rfl, SqT.of (e2.h p1 _ hdp upd_same), atI_nat hp, ?_⟩
    have e12 := (e1.weak (m := (· = hd))).trans e2
    refine ⟨_, rfl, _, rfl, S, h, w', rfl, e2.i, hh, hw, fun S3 H3 u3 e3 hu3 => ?_⟩
    obtain ⟨pa, ps, rfl, hpa, hps⟩ := hu3
    have E3 := e12.trans e3.weak
    have hH3 := hH2.keep e3
    have pln := pairsOf_len h w'
    have hpl : h * w' ≤ 100 * 100 := Nat.mul_le_mul hh hw
    have pl := hps.len
    obtain ⟨hx0, hxe⟩ := hH3.at_
    refine ⟨pa, rfl, ⟨_, SqL.of (e3.i _ _ hpa)⟩, lcE (m := (· = hd)) (S0 := S3) (H0 := H3) (σ := [some (.ref hd), some (.int (h : Int)), some (.int (w' : Int)), some (.int part), none, none]) (walk_list (xs := ps)) (by omega) (fun b z => by rw [z]; exact ne_none hxe)
      (fun i acc S' H' => Hand S' H' hd ∧ ∃ cs, List.Sublist cs ((pairsOf h w').take i) ∧ All2 (cellP S') acc cs) (Ext.refl e3.i) ?_ ⟨hH3, [], List.Sublist.slnil, .nil⟩ (fun _ _ _ _ _ e _ => SqL.of (e.i _ _ (e.s _ _ hpa)))
      (fun i x acc S4 H4 H5 Kt Kf hi e4 p4 hy kt kf => ?_) fun d acc S4 H4 hd4 e4 hs4 he4 _ p4 => ?_⟩
    · rintro i acc S' H' d o hd0 ⟨⟨s0, c, cells, ci, cr, ct, g1, g2, g3, g4, g5⟩, rest⟩
      refine ⟨⟨s0, c, cells, ci, cr, ct, g1, g2, g3, g4, ?_⟩, rest⟩
      rw [upd_ne (ne_of_none hxe hd0)]; exact g5
    · obtain ⟨rfl, hx⟩ := hy
      obtain ⟨hH4, cs, sub, al⟩ := p4
      obtain ⟨cl, f1, t, rfl, ht⟩ := hps.get hx
      have t2 := take_get f1
      refine ⟨t, _, rfl, SqT.of (e4.i _ _ (e4.s _ _ ht)), rfl, _, _, rfl, _, _, rfl, rfl, wipe2 rfl rfl, ?_⟩
      refine ⟨_, rfl, S4, hd, 4, rfl, e4.i, hH4, by decide, by decide, fun H6 r6 e6 hH6 hr6 => ?_⟩
      refine ⟨_, rfl, _, _, rfl, rfl, _, rfl, ifD (fun z => ?_) fun z => ?_⟩
      · refine ⟨_, rfl, _, rfl, (by show (2 : Nat) ≤ sizeLine; decide), fun p hp => ?_⟩
        have e7 := e6.new (o := .tup [.int (cl.1 : Nat), .int (cl.2 : Nat)]) hp
        refine kt _ _ _ e7 ⟨hH6.keep ((Ext.refl e6.i).new hp), cs ++ [cl], ?_, (al.mono cellP_m e7.s).snoc ⟨p, rfl, upd_same⟩⟩
        rw [t2]; exact List.Sublist.append sub (List.Sublist.refl _)
      · refine kf _ _ e6 ⟨hH6, cs, ?_, al⟩
        rw [t2]; exact List.Sublist.trans sub (List.sublist_append_left _ _)
    · obtain ⟨hH4, cs, sub, al⟩ := p4
      rw [take_all pl] at sub
      have fx := e4.fix hd4 hs4 he4
      have kk := same_upd (o := .lst acc) hs4
      obtain ⟨s0, c, cells, ci, cr, ct, g1, g2, g3, g4, g5⟩ := hH4
      have dn : hd ≠ d := ne_of_none hxe hd4
      exact q _ _ _ cs (E3.trans fx) ⟨by rw [upd_ne dn]; exact s0, c, cells, ci, cr, ct, kk _ _ g1, g2, g3, g4, g5⟩ sub ⟨d, acc, rfl, upd_same, al.mono cellP_m kk⟩
end Th

/-! part DT -/
namespace Th
open PySem PySem.Spec PyProof.Rows L2

theorem Hand.up {S H : Hp} {hd p : Addr} {o : HO} (h : Hand S H hd) (hp : H p = none) : Hand S (upd H p o) hd := by
  obtain ⟨xs, hx⟩ := h.at_
  obtain ⟨s0, c, cells, ci, cr, ct, g1, g2, g3, g4, g5⟩ := h
  exact ⟨s0, c, cells, ci, cr, ct, g1, g2, g3, g4, by rw [upd_ne (ne_of_none hx hp)]; exact g5⟩
theorem Hand.up' {S H : Hp} {hd p : Addr} {o : HO} (h : Hand S H hd) (hp : hd ≠ p) : Hand S (upd H p o) hd := by
  obtain ⟨s0, c, cells, ci, cr, ct, g1, g2, g3, g4, g5⟩ := h
  exact ⟨s0, c, cells, ci, cr, ct, g1, g2, g3, g4, by rw [upd_ne hp]; exact g5⟩
theorem Hand.fx {S H : Hp} {hd p : Addr} {o : HO} (h : Hand S H hd) (hs : S p = none) (hp : hd ≠ p) : Hand (upd S p o) H hd := by
  obtain ⟨s0, c, cells, ci, cr, ct, g1, g2, g3, g4, g5⟩ := h
  exact ⟨by show upd S p o hd = none; rw [upd_ne hp]; exact s0, c, cells, ci, cr, ct, same_upd hs _ _ g1, g2, g3, g4, g5⟩
theorem Hand.nw {S H : Hp} {hd p : Addr} {o : HO} (h : Hand S H hd) (hS : Same S H) (hp : H p = none) : Hand (upd S p o) (upd H p o) hd := by
  obtain ⟨xs, hx⟩ := h.at_
  exact (h.up hp).fx (none_of_same hS hp) (ne_of_none hx hp)
theorem Hand.ne {S H : Hp} {hd p : Addr} (h : Hand S H hd) (hp : H p = none) : hd ≠ p := by
  obtain ⟨xs, hx⟩ := h.at_
  exact ne_of_none hx hp
theorem Hand.there {S H : Hp} {hd : Addr} (h : Hand S H hd) : ∀ b, b = hd → H b ≠ none := fun b z => by
  obtain ⟨xs, hx⟩ := h.at_
  rw [z]; exact ne_none hx
theorem tab {xs : List Int} {r : Nat} (h : r < xs.length) : atI (xs.map V.int) (r : Int) = some (.int (xs.getD r 0)) := atI_nat (by rw [List.getElem?_map, List.getElem?_eq_getElem h, List.getD_eq_getElem?_getD, List.getElem?_eq_getElem h]; rfl)
theorem tab_all {xs : List Int} {r : Nat} {P : Int → Bool} (h : r < xs.length) (ha : xs.all P = true) : P (xs.getD r 0) = true := by
  rw [List.getD_eq_getElem?_getD, List.getElem?_eq_getElem h]
  exact List.all_eq_true.mp ha _ (List.getElem_mem h)
theorem tif {c : TT} {t u : TS} {D : Ends} {σ : L2.St} {H : Hp} (P : Bool → Hp → Prop) (hc : ∀ K : Bool → Hp → Prop, (∀ b H', P b H' → K b H') → c σ H K) (ht : ∀ H', P true H' → t D σ H') (hu : ∀ H', P false H' → u D σ H') : tIfS c t u D σ H :=
  hc _ fun b H' p => by
    cases b with
    | true => exact iteT (ht H' p)
    | false => exact iteF (hu H' p)
def sp_law_many : Sp := fun vs H Q _ => ∃ a, ∃ ls : List Nat, vs = [.ref a] ∧ H a = some (.lst (ls.map fun n : Nat => V.int n)) ∧ Q (.int (manyN ls : Nat)) H
theorem ok_law_many {P : Program} {w : World} {K : PySem.W.Frag} {mg : Str → Option Value} {base : Heap} (T : Tx K mg) : FnOk P w K mg base CX0 1 A_law_many (fdAt K A_law_many) P_law_many sp_law_many := by
  refine (fn_law_many T).ok sc_law_many (fun vs H Q E h => ?_) (fun cdv A outer s H vs Q E hr h => ?_)
  · obtain ⟨a, ls, rfl, _⟩ := h; rfl
  · obtain ⟨a, ls, rfl, ha, q⟩ := h
    refine ⟨_, PSs.nox (pss_one (ps_ret (pe_ifExp (pt_truK (pv 0) (by intro _; rfl)) (pe_op op_add (pe_callB (cr_max rfl) (by rfl) (f_max T) bt_max (pa_cons (pv 0) pa_nil)) pe_int) pe_int))), ?_⟩
    refine ⟨_, rfl, !(ls.map fun n : Nat => V.int n).isEmpty, .inl ⟨_, SqL.of ha, rfl⟩, ?_⟩
    cases ls with
    | nil => exact iteF q
    | cons x l =>
      refine iteT ⟨_, rfl, a, toI (x :: l), rfl, SqL.of (by rw [toV]; exact ha), by show 0 < _ + 1; omega, fun m m1 m2 => ⟨_, _, rfl, rfl, ?_⟩⟩
      obtain ⟨k, hk, e⟩ := fresh_at (x :: l) (by intro z; cases z)
      obtain ⟨k1, hk1, e1⟩ := List.mem_map.mp m1
      have g1 := m2 (k : Int) (List.mem_map.mpr ⟨k, hk, rfl⟩)
      have g2 := fresh_le (x :: l) k1 hk1
      have : m + 1 = ((manyN (x :: l) : Nat) : Int) := by unfold manyN; omega
      show Q (.int (m + 1)) H
      rw [this]; exact q
def sp_law_letters : Sp := fun vs H Q _ => ∃ S hd, ∃ n : Nat, vs = [.ref hd, .int (n : Int)] ∧ Same S H ∧ Hand S H hd ∧ n ≤ 1000 ∧
  ∀ S' H' u ls, Ext (· = hd) S H S' H' → Hand S' H' hd → ls.length = n → LettersOk ls → natL S' u ls → Q u H'
theorem letters_snoc {ls : List Nat} {x : Nat} (h : LettersOk ls) (hx : x ≤ freshN ls) : LettersOk (ls ++ [x]) := fun i y hy => by
  by_cases hi : i < ls.length
  · rw [List.getElem?_append_left hi] at hy
    rw [List.take_append_of_le_length (by omega)]; exact h i y hy
  · rw [List.getElem?_append_right (by omega)] at hy
    have e : i - ls.length = 0 := by
      cases hz : i - ls.length with
      | zero => rfl
      | succ m => rw [hz] at hy; simp at hy
    rw [e] at hy
    cases hy
    have : i = ls.length := by
      have : i ≤ ls.length := by omega
      omega
    rw [this, List.take_left']
    · exact hx
    · rfl
theorem fresh_len {ls : List Nat} (h : LettersOk ls) : freshN ls ≤ ls.length := by
  have key : ∀ i, i ≤ ls.length → freshN (ls.take i) ≤ i := by
    intro i
    induction i with
    | zero => intro _; rw [List.take_zero]; exact Nat.le_refl _
    | succ i ih =>
      intro hi
      have e : ls[i]? = some ls[i] := List.getElem?_eq_getElem (by omega)
      rw [take_get e, fresh_snoc]
      have := ih (by omega)
      have := h i _ e
      omega
  have := key ls.length (Nat.le_refl _)
  rw [List.take_length] at this
  exact this
theorem ok_law_letters {P : Program} {w : World} {K : PySem.W.Frag} {mg : Str → Option Value} {base : Heap} (T : Tx K mg) : FnOk P w K mg base CX0 3 A_law_letters (fdAt K A_law_letters) P_law_letters sp_law_letters := by
  refine (fn_law_letters T).ok sc_law_letters (fun vs H Q E h => ?_) (fun cdv A outer s H vs Q E hr h => ?_)
  · obtain ⟨S, hd, n, rfl, _⟩ := h; rfl
  · obtain ⟨S, hd, n, rfl, hS, hH, hn, q⟩ := h
    refine ⟨_, PSs.nox (pss_cons (ps_set (i := 2) sc_law_letters.nd rfl (.inl rfl) (pe_cmpR op_eq (pe_call (ok_law_take T) hr (by rfl) (g_law_take T) (fn_law_take T).kp (b_law_take T) .nil pass0 (pa_cons (pv 0) (pa_cons pe_int pa_nil))) pe_int (nomark _)))
      (pss_cons (ps_set (i := 3) sc_law_letters.nd rfl (.inl rfl) (pe_lst pa_nil))
      (pss_cons (ps_set (i := 4) sc_law_letters.nd rfl (.inl rfl) pe_int)
      (pss_cons (ps_for PassesOwn.never rfl (pi_range1 (by rfl) (f_range T) (pa_cons (pv 1) pa_nil)) (pg_name (i := 5) sc_law_letters.nd rfl (.inl rfl))
      (pss_one (ps_if (PW.pt (pw_and (pt_val (pv 2)) (pw_and (pt_cmpR op_gt (pv 4) pe_int (nomark _)) (pw_and1 (pt_cmpR op_eq (pe_call (ok_law_take T) hr (by rfl) (g_law_take T) (fn_law_take T).kp (b_law_take T) .nil pass0 (pa_cons (pv 0) (pa_cons pe_int pa_nil))) pe_int (nomark _))))))
      (pss_one (ps_expr (pe_bm PySem.F.plainAttrs_list PySem.F.slot_list_append PySem.F.type_list_append mt_append (pv 3) (pa_cons (pe_call (ok_law_take T) hr (by rfl) (g_law_take T) (fn_law_take T).kp (b_law_take T) .nil pass0 (pa_cons (pv 0) (pa_cons (pv 4) pa_nil))) pa_nil))))
      (pss_cons (ps_expr (pe_bm PySem.F.plainAttrs_list PySem.F.slot_list_append PySem.F.type_list_append mt_append (pv 3) (pa_cons (pv 4) pa_nil)))
      (pss_one (ps_set (i := 4) sc_law_letters.nd rfl (.inl rfl) (pe_op op_add (pv 4) pe_int)))))))
      (pss_one (ps_ret (pv 3))))))), ?_⟩
    refine ⟨_, rfl, S, hd, 3, rfl, hS, hH, by decide, by decide, fun H1 r1 e1 hH1 hr1 => ?_⟩
    refine ⟨rfl, ?_⟩
    rw [dV]
    refine ⟨Nat.zero_le _, fun p2 h2 => ?_⟩
    have e2 := e1.newM (o := .lst []) h2
    have n2 := e1.none1 h2
    refine ⟨_, rfl, (n : Int), rfl, by omega, by omega, forE (S0 := S) (H0 := H) (m := (· = hd)) (σ := [some (.ref hd), some (.int (n : Int)), some (.bl (decide ((r1 : Int) = 0))), some (.ref p2), some (.int ((0 : Nat) : Int)), none]) walk0
      (fun i σ S' H' => ∃ x5, ∃ ls : List Nat, σ = [some (.ref hd), some (.int (n : Int)), some (.bl (decide ((r1 : Int) = 0))), some (.ref p2), some (.int (freshN ls : Nat)), x5] ∧ Hand S' H' hd ∧ S' p2 = none ∧ H' p2 = some (.lst (ls.map fun n : Nat => V.int n)) ∧ ls.length = i ∧ LettersOk ls)
      e2 ⟨none, [], rfl, hH1.up h2, none_of_same e1.i h2, upd_same, rfl, fun i x hx => by simp at hx⟩ (fun _ _ _ _ _ _ _ => trivial) (fun i x σ S5 H5 H6 hi e5 p5 hy => ?_) fun σ S5 H5 e5 p5 => ?_⟩
    · obtain ⟨x5, ls, rfl, hH5, s5, hp5, hll, hlo⟩ := p5
      obtain ⟨rfl, rfl⟩ := hy
      have ne2 : p2 ≠ hd := fun z => by
        obtain ⟨xs, hx⟩ := hH.at_
        rw [z] at n2; rw [n2] at hx; cases hx
      have fin : ∀ (H7 : Hp) (x : Nat), Ext (· = hd) S H S5 H7 → Hand S5 H7 hd → H7 p2 = some (.lst (ls.map fun n : Nat => V.int n)) → x ≤ freshN ls → ∃ S', Ext (· = hd) S H S' (upd H7 p2 (.lst ((ls.map fun n : Nat => V.int n) ++ [.int (x : Int)]))) ∧ ∃ x5, ∃ ls' : List Nat, [some (V.ref hd), some (.int (n : Int)), some (.bl (decide ((r1 : Int) = 0))), some (.ref p2), some (.int (freshN (ls ++ [x]) : Nat)), some (.int (i : Int))] = [some (V.ref hd), some (.int (n : Int)), some (.bl (decide ((r1 : Int) = 0))), some (.ref p2), some (.int (freshN ls' : Nat)), x5] ∧ Hand S' (upd H7 p2 (.lst ((ls.map fun n : Nat => V.int n) ++ [.int (x : Int)]))) hd ∧ S' p2 = none ∧ upd H7 p2 (.lst ((ls.map fun n : Nat => V.int n) ++ [.int (x : Int)])) p2 = some (.lst (ls'.map fun n : Nat => V.int n)) ∧ ls'.length = i + 1 ∧ LettersOk ls' := fun H7 x e7 hH7 hp7 hx =>
        ⟨S5, e7.mut (.inl n2) s5, _, ls ++ [x], rfl, hH7.up' ne2.symm, s5, by rw [upd_same, List.map_append]; rfl, by rw [List.length_append, hll]; rfl, letters_snoc hlo hx⟩
      refine tif (fun b H' => Ext (· = hd) S H S5 H' ∧ Hand S5 H' hd ∧ H' p2 = some (.lst (ls.map fun n : Nat => V.int n)) ∧ (b = true → 0 < freshN ls)) (fun Kk hK => ?_) (fun H7 p7 => ?_) (fun H7 p7 => ?_)
      · refine ⟨_, rfl, _, rfl, ?_⟩
        refine ifD (fun _ => ?_) fun _ => hK _ _ ⟨e5, hH5, hp5, fun z => by cases z⟩
        refine ⟨_, rfl, _, _, rfl, rfl, _, rfl, ifD (fun z => ?_) fun _ => hK _ _ ⟨e5, hH5, hp5, fun z => by cases z⟩⟩
        refine ⟨_, rfl, S5, hd, 3, rfl, e5.i, hH5, by decide, by decide, fun H7 r7 e7 hH7 hr7 => ?_⟩
        refine ⟨rfl, _, rfl, hK _ _ ⟨e5.trans e7, hH7, e7.h p2 _ ne2 hp5, fun _ => by omega⟩⟩
      · obtain ⟨e7, hH7, hp7, hf⟩ := p7
        refine ⟨_, rfl, .inl ⟨rfl, _, SqL.of hp7⟩, _, rfl, _, rfl, S5, hd, freshN ls, rfl, e7.i, hH7, hf rfl, by have := fresh_len hlo; omega, fun H8 r8 e8 hH8 hr8 => ?_⟩
        have hp8 := e8.h p2 _ ne2 hp7
        refine ⟨p2, _, _, rfl, rfl, hp8, szLt (by rw [List.length_map]; omega), ?_⟩
        have f := fin H8 r8 (e7.trans e8) hH8 hp8 (by omega)
        rw [fresh_snoc, Nat.max_eq_left (by omega)] at f
        exact f
      · obtain ⟨e7, hH7, hp7, hf⟩ := p7
        refine ⟨_, rfl, .inl ⟨rfl, _, SqL.of hp7⟩, _, rfl, p2, _, _, rfl, rfl, hp7, szLt (by rw [List.length_map]; omega), ?_⟩
        refine ⟨_, rfl, _, _, rfl, rfl, ?_⟩
        have f := fin H7 (freshN ls) e7 hH7 hp7 (Nat.le_refl _)
        rw [fresh_snoc, Nat.max_eq_right (Nat.le_succ _)] at f
        exact f
    · obtain ⟨x5, ls, rfl, hH5, s5, hp5, hll, hlo⟩ := p5
      have ne2 : hd ≠ p2 := hH1.ne h2
      exact ⟨_, rfl, q _ _ _ ls (e5.fix n2 s5 hp5) (hH5.fx s5 ne2) hll hlo ⟨p2, rfl, upd_same⟩⟩
end Th

/-! part DU -/
namespace Th
open PySem PySem.Spec PyProof.Rows L2

theorem ix8 {K : PySem.W.Frag} {H : Hp} {p : Addr} {xs : List Int} {r : Nat} {Q : VK} (h : H p = some (.tup (xs.map V.int))) (hr : r < xs.length) (q : Q (.int (xs.getD r 0)) H) : rIxT K (.ref p) (.int (r : Int)) H Q :=
  ⟨_, _, _, _, rfl, rfl, SqT.of h, tab hr, q⟩
def sp_law_number : Sp := fun vs H Q _ => ∃ S hd, vs = [.ref hd] ∧ Same S H ∧ Hand S H hd ∧ ∀ (H' : Hp) (n : Int), Ext (· = hd) S H S H' → Hand S H' hd → -1000000000 ≤ n → n ≤ 1000000000 → Q (.int n) H'
theorem ok_law_number {P : Program} {w : World} {K : PySem.W.Frag} {mg : Str → Option Value} {base : Heap} (T : Tx K mg) : FnOk P w K mg base CX0 3 A_law_number (fdAt K A_law_number) P_law_number sp_law_number := by
  refine (fn_law_number T).ok sc_law_number (fun vs H Q E h => ?_) (fun cdv A outer s H vs Q E hr h => ?_)
  · obtain ⟨S, hd, rfl, _⟩ := h; rfl
  · obtain ⟨S, hd, rfl, hS, hH, q⟩ := h
    refine ⟨_, PSs.nox (pss_cons (ps_set (i := 1) sc_law_number.nd rfl (.inl rfl) (pe_call (ok_law_take T) hr (by rfl) (g_law_take T) (fn_law_take T).kp (b_law_take T) .nil pass0 (pa_cons (pv 0) (pa_cons pe_int pa_nil))))
      (pss_cons (ps_if (pt_cmpR op_lt (pv 1) pe_int (nomark _))
      (pss_one (ps_ret (pe_ix ix_tup (pe_tup (pa_cons pe_int (pa_cons pe_int (pa_cons pe_int (pa_cons pe_int (pa_cons (pe_un un_neg pe_int) (pa_cons pe_int (pa_cons pe_int (pa_cons (pe_un un_neg pe_int) pa_nil))))))))) (pv 1) (fun _ _ => rfl))))
      pss_nil)
      (pss_cons (ps_if (pt_cmpR op_lt (pv 1) pe_int (nomark _))
      (pss_one (ps_ret (pe_op op_sub (pe_call (ok_law_take T) hr (by rfl) (g_law_take T) (fn_law_take T).kp (b_law_take T) .nil pass0 (pa_cons (pv 0) (pa_cons pe_int pa_nil))) pe_int)))
      pss_nil)
      (pss_one (ps_ret (pe_op op_sub (pe_call (ok_law_take T) hr (by rfl) (g_law_take T) (fn_law_take T).kp (b_law_take T) .nil pass0 (pa_cons (pv 0) (pa_cons (pe_op op_add (pe_op op_mul pe_int (pe_op op_pow pe_int pe_int)) pe_int) pa_nil))) (pe_op op_pow pe_int pe_int))))))), ?_⟩
    refine ⟨_, rfl, S, hd, 12, rfl, hS, hH, by decide, by decide, fun H1 r1 e1 hH1 hr1 => ?_⟩
    refine ⟨_, rfl, _, _, rfl, rfl, _, rfl, ifD (fun z => ?_) fun z => ?_⟩
    · refine ⟨_, rfl, _, rfl, (by show (8 : Nat) ≤ sizeLine; decide), fun p2 h2 => ?_⟩
      have e2 := (Ext.refl (m := No) e1.i).newM (o := .tup ([0, 1, 1, 0, -1, 2, 3, -2].map V.int)) h2
      have hr8 : r1 < ([0, 1, 1, 0, -1, 2, 3, -2] : List Int).length := by show r1 < 8; omega
      have tb := tab_all (P := fun n => decide (-1000000000 ≤ n) && decide (n ≤ 1000000000)) hr8 (by decide)
      obtain ⟨t1, t2⟩ := Bool.and_eq_true_iff.mp tb
      refine ⟨_, rfl, ix8 (xs := [0, 1, 1, 0, -1, 2, 3, -2]) upd_same hr8 ?_⟩
      exact q _ _ (e1.trans e2.weak) (hH1.keep e2) (of_decide_eq_true t1) (of_decide_eq_true t2)
    · refine ⟨_, rfl, _, _, rfl, rfl, _, rfl, ifD (fun z => ?_) fun z => ?_⟩
      · refine ⟨_, rfl, S, hd, 15, rfl, e1.i, hH1, by decide, by decide, fun H2 r2 e2 hH2 hr2 => ⟨_, _, rfl, rfl, ?_⟩⟩
        exact q _ _ (e1.trans e2) hH2 (by omega) (by omega)
      · refine ⟨_, rfl, _, _, rfl, rfl, ⟨by decide, by decide, by decide⟩, _, _, rfl, rfl, .inl ⟨by decide, by decide⟩, _, _, rfl, rfl, S, hd, 2000000001, rfl, e1.i, hH1, by decide, by decide, fun H2 r2 e2 hH2 hr2 => ⟨_, _, rfl, rfl, ⟨by decide, by decide, by decide⟩, _, _, rfl, rfl, ?_⟩⟩
        exact q _ _ (e1.trans e2) hH2 (by show -1000000000 ≤ (r2 : Int) - 1000000000; omega) (by show (r2 : Int) - 1000000000 ≤ 1000000000; omega)
def sp_law_thin : Sp := sp_law_number
theorem ok_law_thin {P : Program} {w : World} {K : PySem.W.Frag} {mg : Str → Option Value} {base : Heap} (T : Tx K mg) : FnOk P w K mg base CX0 3 A_law_thin (fdAt K A_law_thin) P_law_thin sp_law_thin := by
  refine (fn_law_thin T).ok sc_law_thin (fun vs H Q E h => ?_) (fun cdv A outer s H vs Q E hr h => ?_)
  · obtain ⟨S, hd, rfl, _⟩ := h; rfl
  · obtain ⟨S, hd, rfl, hS, hH, q⟩ := h
    refine ⟨_, PSs.nox (pss_one (ps_ret (pe_ix ix_tup (pe_tup (pa_cons pe_int (pa_cons pe_int (pa_cons pe_int (pa_cons pe_int (pa_cons pe_int (pa_cons (pe_un un_neg pe_int) (pa_cons pe_int (pa_cons pe_int (pa_cons pe_int (pa_cons pe_int pa_nil))))))))))) (pe_call (ok_law_take T) hr (by rfl) (g_law_take T) (fn_law_take T).kp (b_law_take T) .nil pass0 (pa_cons (pv 0) (pa_cons pe_int pa_nil))) (fun _ _ => rfl)))), ?_⟩
    refine ⟨_, rfl, (by show (10 : Nat) ≤ sizeLine; decide), fun p2 h2 => ?_⟩
    have e2 := (Ext.refl (m := No) hS).newM (o := .tup ([0, 0, 1, 1, 0, -1, 2, 1, 0, 1].map V.int)) h2
    refine ⟨_, rfl, S, hd, 10, rfl, e2.i, hH.keep e2, by decide, by decide, fun H1 r1 e1 hH1 hr1 => ?_⟩
    have hr8 : r1 < ([0, 0, 1, 1, 0, -1, 2, 1, 0, 1] : List Int).length := hr1
    have tb := tab_all (P := fun n => decide (-1000000000 ≤ n) && decide (n ≤ 1000000000)) hr8 (by decide)
    obtain ⟨t1, t2⟩ := Bool.and_eq_true_iff.mp tb
    refine ix8 (xs := [0, 0, 1, 1, 0, -1, 2, 1, 0, 1]) (e1.h _ _ (fun z => hH.ne h2 z.symm) upd_same) hr8 ?_
    exact q _ _ (e2.weak.trans e1) hH1 (of_decide_eq_true t1) (of_decide_eq_true t2)
def sp_law_ask : Sp := fun vs H Q _ => ∃ S hd, ∃ h w : Nat, vs = [.ref hd, .int (h : Int), .int (w : Int)] ∧ Same S H ∧ Hand S H hd ∧ h ≤ 100 ∧ w ≤ 100 ∧ ∀ S' H' u a, Ext (· = hd) S H S' H' → Hand S' H' hd → AskOk h w a → askT S' u a → Q u H'
theorem ok_law_ask {P : Program} {w : World} {K : PySem.W.Frag} {mg : Str → Option Value} {base : Heap} (T : Tx K mg) : FnOk P w K mg base CX0 4 A_law_ask (fdAt K A_law_ask) P_law_ask sp_law_ask := by
  refine (fn_law_ask T).ok sc_law_ask (fun vs H Q E h => ?_) (fun cdv A outer s H vs Q E hr h => ?_)
  · obtain ⟨S, hd, h, w', rfl, _⟩ := h; rfl
  · obtain ⟨S, hd, h, w', rfl, hS, hH, hh, hw, q⟩ := h
    refine ⟨_, PSs.nox (pss_cons (ps_set (i := 3) sc_law_ask.nd rfl (.inl rfl) (pe_ix ix_tup (pe_tup (pa_cons pe_str (pa_cons pe_str (pa_cons pe_str pa_nil)))) (pe_call (ok_law_take T) (hr.mono (by decide)) (by rfl) (g_law_take T) (fn_law_take T).kp (b_law_take T) .nil pass0 (pa_cons (pv 0) (pa_cons pe_int pa_nil))) (fun _ _ => rfl)))
      (pss_cons (ps_set (i := 4) sc_law_ask.nd rfl (.inl rfl) (pe_ifExp (pt_cmpR op_eq (pv 3) pe_str (nomark _)) (pv 2) (pv 1)))
      (pss_one (ps_ret (pe_tup (pa_cons (pv 3) (pa_cons (pe_callTy call_tuple_of (by rfl) (f_tuple T) bt_tuple (pa_cons (pe_lc (own := [("_law_step", 5)]) (g := gName 5) rfl sc_law_ask.nd (pi_range1 (by rfl) (f_range T) (pa_cons (pv 4) pa_nil)) (blkOk_by (N := N_law_ask) (sc := defScope st_law_ask) (by decide +kernel)) (fun _ _ _ _ _ => (pg_name (i := 5) sc_law_ask.nd rfl (.inl rfl))) (fun _ _ _ _ _ => pts_nil) (fun _ _ _ _ _ => (pe_call (ok_law_number T) hr (by rfl) (g_law_number T) (fn_law_number T).kp (b_law_number T) .nil pass0 (pa_cons (pv 0) pa_nil)))) pa_nil)) pa_nil))))))), ?_⟩
    refine ⟨(by show (3 : Nat) ≤ sizeLine; decide), fun p2 h2 => ?_⟩
    have e2 := (Ext.refl (m := No) hS).newM (o := .tup [.str (kS true), .str (kS true), .str (kS false)]) h2
    refine ⟨_, rfl, S, hd, 3, rfl, e2.i, hH.keep e2, by decide, by decide, fun H1 r1 e1 hH1 hr1 => ?_⟩
    have ex : ∃ k : Bool, [V.str (kS true), V.str (kS true), V.str (kS false)][r1]? = some (.str (kS k)) := by
      rcases r1 with _ | _ | _ | r
      · exact ⟨true, rfl⟩
      · exact ⟨true, rfl⟩
      · exact ⟨false, rfl⟩
      · omega
    obtain ⟨k, hk⟩ := ex
    have e12 := e2.weak.trans e1
    refine ⟨_, _, _, _, rfl, rfl, SqT.of (e1.h _ _ (fun z => hH.ne h2 z.symm) upd_same), atI_nat hk, ?_⟩
    refine ⟨_, rfl, rfl, _, rfl, ?_⟩
    rw [kS_col]
    refine ifE (.int ((if k = true then w' else h : Nat) : Int)) ?_ (fun hk Q hq => ⟨_, rfl, by rw [if_pos hk] at hq; exact hq⟩) (fun hk Q hq => ⟨_, rfl, by rw [if_neg (by rw [hk]; decide)] at hq; exact hq⟩)
    have ln : (if k = true then w' else h) ≤ 100 := by split <;> omega
    generalize hlen : (if k = true then w' else h) = len at ln
    refine ⟨_, rfl, _, rfl, (len : Int), rfl, by omega, by omega, lcE (m := (· = hd)) (S0 := S) (H0 := H1) (σ := [some (.ref hd), some (.int (h : Int)), some (.int (w' : Int)), some (.str (kS k)), some (.int (len : Int)), none]) walk0 (by omega) hH1.there
      (fun i acc S' H' => Hand S' H' hd ∧ ∃ ns : List Int, acc = ns.map V.int ∧ ns.length = i ∧ ∀ n ∈ ns, -1000000000 ≤ n ∧ n ≤ 1000000000) (Ext.refl e1.i) ?_ ⟨hH1, [], rfl, rfl, fun n hn => by cases hn⟩ (fun _ _ _ _ _ _ _ => trivial)
      (fun i x acc S4 H4 H5 Kt Kf hi e4 p4 hy kt kf => ?_) fun d acc S4 H4 hd4 e4 hs4 he4 _ p4 => ?_⟩
    · rintro i acc S' H' d o hd0 ⟨g, rest⟩
      exact ⟨g.up' (hH1.ne hd0), rest⟩
    · obtain ⟨rfl, rfl⟩ := hy
      obtain ⟨hH4, ns, rfl, hl, hb⟩ := p4
      refine ⟨rfl, _, rfl, S4, hd, rfl, e4.i, hH4, fun H6 n e6 hH6 n1 n2 => ?_⟩
      refine kt _ S4 _ e6 ⟨hH6, ns ++ [n], by rw [List.map_append]; rfl, by rw [List.length_append, hl]; rfl, fun x hx => ?_⟩
      rcases List.mem_append.mp hx with z | z
      · exact hb x z
      · rw [List.mem_singleton.mp z]; exact ⟨n1, n2⟩
    · obtain ⟨hH4, ns, rfl, hl, hb⟩ := p4
      refine ⟨d, _, rfl, .inl ⟨SqL.of he4, fun t ht => ⟨(by show (2 : Nat) ≤ sizeLine; decide), fun p hp => ?_⟩⟩⟩
      have e5 := (Ext.refl (m := No) e4.i).new (o := .tup (ns.map V.int)) ht
      have e6 := e5.new (o := .tup [.str (kS k), .ref t]) hp
      refine q _ _ _ (k, ns) ((e12.trans e4).trans e6.weak) (hH4.keep e6) ⟨by rw [hl]; exact hlen.symm, hb⟩ ⟨p, .ref t, rfl, upd_same, t, rfl, ?_⟩
      exact same_upd (none_of_same e5.i hp) _ _ upd_same
def sp_law_book : Sp := fun vs H Q _ => ∃ S hd, ∃ h w n : Nat, vs = [.ref hd, .int (h : Int), .int (w : Int), .int (n : Int)] ∧ Same S H ∧ Hand S H hd ∧ h ≤ 100 ∧ w ≤ 100 ∧ n ≤ 100 ∧
  ∀ S' H' u bk, Ext (· = hd) S H S' H' → Hand S' H' hd → bk.length ≤ n → (∀ a ∈ bk, AskOk h w a) → lR askT S' u bk → Q u H'
theorem ok_law_book {P : Program} {w : World} {K : PySem.W.Frag} {mg : Str → Option Value} {base : Heap} (T : Tx K mg) : FnOk P w K mg base CX0 5 A_law_book (fdAt K A_law_book) P_law_book sp_law_book := by
  refine (fn_law_book T).ok sc_law_book (fun vs H Q E h => ?_) (fun cdv A outer s H vs Q E hr h => ?_)
  · obtain ⟨S, hd, h, w', n, rfl, _⟩ := h; rfl
  · obtain ⟨S, hd, h, w', n, rfl, hS, hH, hh, hw, hn, q⟩ := h
    refine ⟨_, PSs.nox (pss_one (ps_ret (pe_lc (own := [("_law_step", 4)]) (g := gName 4) rfl sc_law_book.nd (pi_range1 (by rfl) (f_range T) (pa_cons (pe_call (ok_law_take T) (hr.mono (by decide)) (by rfl) (g_law_take T) (fn_law_take T).kp (b_law_take T) .nil pass0 (pa_cons (pv 0) (pa_cons (pe_op op_add (pv 3) pe_int) pa_nil))) pa_nil)) (blkOk_by (N := N_law_book) (sc := defScope st_law_book) (by decide +kernel)) (fun _ _ _ _ _ => (pg_name (i := 4) sc_law_book.nd rfl (.inl rfl))) (fun _ _ _ _ _ => pts_nil) (fun _ _ _ _ _ => (pe_call (ok_law_ask T) hr (by rfl) (g_law_ask T) (fn_law_ask T).kp (b_law_ask T) .nil pass0 (pa_cons (pv 0) (pa_cons (pv 1) (pa_cons (pv 2) pa_nil)))))))), ?_⟩
    refine ⟨_, rfl, _, rfl, _, _, rfl, rfl, S, hd, n + 1, rfl, hS, hH, by omega, by omega, fun H1 r1 e1 hH1 hr1 => ?_⟩
    refine ⟨(r1 : Int), rfl, by omega, by omega, lcE (m := (· = hd)) (S0 := S) (H0 := H1) (σ := [some (.ref hd), some (.int (h : Int)), some (.int (w' : Int)), some (.int (n : Int)), none]) walk0 (by omega) hH1.there
      (fun i acc S' H' => Hand S' H' hd ∧ ∃ bk : List Ask, All2 (askT S') acc bk ∧ bk.length = i ∧ ∀ a ∈ bk, AskOk h w' a) (Ext.refl e1.i) ?_ ⟨hH1, [], .nil, rfl, fun n hn => by cases hn⟩ (fun _ _ _ _ _ _ _ => trivial)
      (fun i x acc S4 H4 H5 Kt Kf hi e4 p4 hy kt kf => ?_) fun d acc S4 H4 hd4 e4 hs4 he4 _ p4 => ?_⟩
    · rintro i acc S' H' d o hd0 ⟨g, rest⟩
      exact ⟨g.up' (hH1.ne hd0), rest⟩
    · obtain ⟨rfl, rfl⟩ := hy
      obtain ⟨hH4, bk, al, hl, hb⟩ := p4
      refine ⟨rfl, _, rfl, _, rfl, _, rfl, S4, hd, h, w', rfl, e4.i, hH4, hh, hw, fun S6 H6 u a e6 hH6 ha hu => ?_⟩
      refine kt _ S6 _ e6 ⟨hH6, bk ++ [a], (al.mono askT_m e6.s).snoc hu, by rw [List.length_append, hl]; rfl, fun x hx => ?_⟩
      rcases List.mem_append.mp hx with z | z
      · exact hb x z
      · rw [List.mem_singleton.mp z]; exact ha
    · obtain ⟨hH4, bk, al, hl, hb⟩ := p4
      have fx := e4.fix hd4 hs4 he4
      exact q _ _ _ bk (e1.trans fx) (hH4.fx hs4 (hH1.ne hd4)) (by omega) hb ⟨d, acc, rfl, upd_same, al.mono askT_m (same_upd hs4)⟩
end Th

/-! part DV -/
namespace Th
open PySem PySem.Spec PyProof.Rows L2

def sp_law_either : Sp := fun us H Q _ => ∃ S hd a vs, us = [.ref hd, .ref a] ∧ Same S H ∧ Hand S H hd ∧ (S a = some (.lst vs) ∨ S a = some (.tup vs)) ∧
  ∀ S' H' p, Ext (· = hd) S H S' H' → Hand S' H' hd → (S' p = some (.lst vs) ∨ S' p = some (.tup vs)) → Q (.ref p) H'
theorem ok_law_either {P : Program} {w : World} {K : PySem.W.Frag} {mg : Str → Option Value} {base : Heap} (T : Tx K mg) : FnOk P w K mg base CX0 3 A_law_either (fdAt K A_law_either) P_law_either sp_law_either := by
  refine (fn_law_either T).ok sc_law_either (fun vs H Q E h => ?_) (fun cdv A outer s H vs Q E hr h => ?_)
  · obtain ⟨S, hd, a, vs, rfl, _⟩ := h; rfl
  · obtain ⟨S, hd, a, vs, rfl, hS, hH, ha, q⟩ := h
    refine ⟨_, PSs.nox (pss_one (ps_ret (pe_ifExp (pt_truK (pe_call (ok_law_take T) hr (by rfl) (g_law_take T) (fn_law_take T).kp (b_law_take T) .nil pass0 (pa_cons (pv 0) (pa_cons pe_int pa_nil))) (by intro _; rfl)) (pe_callTy call_list_of (by rfl) (f_list T) bt_list (pa_cons (pv 1) pa_nil)) (pe_callTy call_tuple_of (by rfl) (f_tuple T) bt_tuple (pa_cons (pv 1) pa_nil))))), ?_⟩
    refine ⟨_, rfl, S, hd, 2, rfl, hS, hH, by decide, by decide, fun H1 r1 e1 hH1 hr1 => ?_⟩
    have hq : SqL K H1 a vs ∨ SqT K H1 a vs := ha.imp (fun z => SqL.of (e1.i _ _ z)) fun z => SqT.of (e1.i _ _ z)
    refine ⟨((r1 : Int) != 0), rfl, ?_⟩
    cases hb : ((r1 : Int) != 0) with
    | true =>
      refine iteT ⟨_, rfl, a, vs, rfl, hq, fun l hl => ?_⟩
      exact q _ _ l (e1.new hl) (hH1.nw e1.i hl) (.inl upd_same)
    | false =>
      refine iteF ⟨_, rfl, a, vs, rfl, ?_⟩
      rcases ha with z | z
      · exact .inl ⟨SqL.of (e1.i _ _ z), fun l hl => q _ _ l (e1.new hl) (hH1.nw e1.i hl) (.inr upd_same)⟩
      · exact .inr ⟨SqT.of (e1.i _ _ z), q _ _ a e1 hH1 (.inr z)⟩
def sp_law_grouping : Sp := fun vs H Q _ => ∃ S hd, ∃ n : Nat, vs = [.ref hd, .int (n : Int)] ∧ Same S H ∧ Hand S H hd ∧ n ≤ 1000 ∧ ∀ S' H' u ls, Ext (· = hd) S H S' H' → Hand S' H' hd → ls.length = n → natL S' u ls → manyN ls ≤ n → Q u H'
theorem ok_law_grouping {P : Program} {w : World} {K : PySem.W.Frag} {mg : Str → Option Value} {base : Heap} (T : Tx K mg) : FnOk P w K mg base CX0 3 A_law_grouping (fdAt K A_law_grouping) P_law_grouping sp_law_grouping := by
  refine (fn_law_grouping T).ok sc_law_grouping (fun vs H Q E h => ?_) (fun cdv A outer s H vs Q E hr h => ?_)
  · obtain ⟨S, hd, n, rfl, _⟩ := h; rfl
  · obtain ⟨S, hd, n, rfl, hS, hH, hn, q⟩ := h
    refine ⟨_, PSs.nox (pss_cons (ps_set (i := 2) sc_law_grouping.nd rfl (.inl rfl) (pe_lst pa_nil))
      (pss_cons (ps_for PassesOwn.never rfl (pi_range1 (by rfl) (f_range T) (pa_cons (pv 1) pa_nil)) (pg_name (i := 3) sc_law_grouping.nd rfl (.inl rfl))
      (pss_one (ps_expr (pe_bm PySem.F.plainAttrs_list PySem.F.slot_list_append PySem.F.type_list_append mt_append (pv 2) (pa_cons (pe_call (ok_law_take T) hr (by rfl) (g_law_take T) (fn_law_take T).kp (b_law_take T) .nil pass0 (pa_cons (pv 0) (pa_cons (pe_op op_add pe_int (pe_call (ok_law_many T) (hr.mono (by decide)) (by rfl) (g_law_many T) (fn_law_many T).kp (b_law_many T) .nil pass0 (pa_cons (pv 2) pa_nil))) pa_nil))) pa_nil)))))
      (pss_one (ps_ret (pv 2))))), ?_⟩
    refine ⟨Nat.zero_le _, fun p2 h2 => ?_⟩
    have e2 := (Ext.refl (m := (· = hd)) hS).newM (o := .lst []) h2
    refine ⟨_, rfl, (n : Int), rfl, by omega, by omega, forE (S0 := S) (H0 := H) (m := (· = hd)) (σ := [some (.ref hd), some (.int (n : Int)), some (.ref p2), none]) walk0
      (fun i σ S' H' => ∃ x3, ∃ ls : List Nat, σ = [some (.ref hd), some (.int (n : Int)), some (.ref p2), x3] ∧ Hand S' H' hd ∧ S' p2 = none ∧ H' p2 = some (.lst (ls.map fun n : Nat => V.int n)) ∧ ls.length = i ∧ LettersOk ls)
      e2 ⟨none, [], rfl, hH.up h2, none_of_same hS h2, upd_same, rfl, fun i x hx => by simp at hx⟩ (fun _ _ _ _ _ _ _ => trivial) (fun i x σ S5 H5 H6 hi e5 p5 hy => ?_) fun σ S5 H5 e5 p5 => ?_⟩
    · obtain ⟨x3, ls, rfl, hH5, s5, hp5, hll, hlo⟩ := p5
      obtain ⟨rfl, rfl⟩ := hy
      have ne2 : p2 ≠ hd := (hH.ne h2).symm
      have fl := fresh_len hlo
      refine ⟨_, rfl, .inl ⟨rfl, _, SqL.of hp5⟩, _, rfl, _, rfl, p2, ls, rfl, hp5, _, _, rfl, rfl, S5, hd, manyN ls + 1, ?_, e5.i, hH5, by omega, by unfold manyN; omega, fun H7 r7 e7 hH7 hr7 => ?_⟩
      · show [V.ref hd, V.int (1 + (manyN ls : Int))] = [V.ref hd, V.int ((manyN ls + 1 : Nat) : Int)]
        rw [show (1 + (manyN ls : Int)) = ((manyN ls + 1 : Nat) : Int) by omega]
      · have hp7 := e7.h p2 _ ne2 hp5
        refine ⟨p2, _, _, rfl, rfl, hp7, szLt (by rw [List.length_map]; omega), ?_⟩
        exact ⟨S5, (e5.trans e7).mut (.inl h2) s5, some (.int (i : Int)), ls ++ [r7], rfl, hH7.up' ne2.symm, s5, by rw [upd_same, List.map_append]; rfl, by rw [List.length_append, hll]; rfl, letters_snoc hlo (by unfold manyN at hr7; omega)⟩
    · obtain ⟨x3, ls, rfl, hH5, s5, hp5, hll, hlo⟩ := p5
      refine ⟨_, rfl, q _ _ _ ls (e5.fix h2 s5 hp5) (hH5.fx s5 (hH.ne h2)) hll ⟨p2, rfl, upd_same⟩ ?_⟩
      have := fresh_len hlo
      unfold manyN; omega
structure OneR (S : Hp) (v : V) (h w : Nat) (cells : List Cell) (ls : List Nat) : Prop where
  ob : ∃ p ca la, v = .ref p ∧ S p = some (.lst [.int (h : Int), .int (w : Int), .ref ca, .ref la]) ∧ lR cellP S (.ref ca) cells ∧ natL S (.ref la) ls
structure OneOk (h w : Nat) (cells : List Cell) (ls : List Nat) : Prop where
  h1 : 1 ≤ h
  h4 : h ≤ 4
  w1 : 1 ≤ w
  w4 : w ≤ 4
  sub : List.Sublist cells (pairsOf h w)
  c5 : cells.length ≤ 5
  ll : ls.length = cells.length
  lo : LettersOk ls
theorem gName_run {i : Nat} {v : V} {σ : L2.St} {H : Hp} {Q : L2.St → Hp → Prop} (h : Q (σ.set i (some v)) H) : gName i v σ H Q := h
theorem cut_V {xs : List V} {j k : Nat} (hj : j ≤ xs.length) (h : k ≤ xs.length) : cutV xs (some (j : Int)) (some (k : Int)) = (xs.drop j).take (k - j) := by
  unfold cutV
  rw [HT.sIx_nat, HT.sIx_nat, Nat.min_eq_left h, Nat.min_eq_left hj]
def sp_law_drawn : Sp := fun vs H Q _ => ∃ S hd, vs = [.ref hd, .int 5] ∧ Same S H ∧ Hand S H hd ∧ ∀ S' H' u h w cells ls, Ext (· = hd) S H S' H' → Hand S' H' hd → OneOk h w cells ls → OneR S' u h w cells ls → Q u H'
theorem ok_law_drawn {P : Program} {w : World} {K : PySem.W.Frag} {mg : Str → Option Value} {base : Heap} (T : Tx K mg) : FnOk P w K mg base CX0 4 A_law_drawn (fdAt K A_law_drawn) P_law_drawn sp_law_drawn := by
  refine (fn_law_drawn T).ok sc_law_drawn (fun vs H Q E h => ?_) (fun cdv A outer s H vs Q E hr h => ?_)
  · obtain ⟨S, hd, rfl, _⟩ := h; rfl
  · obtain ⟨S, hd, rfl, hS, hH, q⟩ := h
    refine ⟨_, PSs.nox (pss_cons (ps_set (i := 2) sc_law_drawn.nd rfl (.inl rfl) (pe_ix ix_tup (pe_tup (pa_cons pe_int (pa_cons pe_int (pa_cons pe_int (pa_cons pe_int (pa_cons pe_int (pa_cons pe_int pa_nil))))))) (pe_call (ok_law_take T) (hr.mono (by decide)) (by rfl) (g_law_take T) (fn_law_take T).kp (b_law_take T) .nil pass0 (pa_cons (pv 0) (pa_cons pe_int pa_nil))) (fun _ _ => rfl)))
      (pss_cons (ps_set (i := 3) sc_law_drawn.nd rfl (.inl rfl) (pe_ix ix_tup (pe_tup (pa_cons pe_int (pa_cons pe_int (pa_cons pe_int (pa_cons pe_int (pa_cons pe_int (pa_cons pe_int pa_nil))))))) (pe_call (ok_law_take T) (hr.mono (by decide)) (by rfl) (g_law_take T) (fn_law_take T).kp (b_law_take T) .nil pass0 (pa_cons (pv 0) (pa_cons pe_int pa_nil))) (fun _ _ => rfl)))
      (pss_cons (ps_set (i := 4) sc_law_drawn.nd rfl (.inl rfl) (pe_call (ok_law_cells T) hr (by rfl) (g_law_cells T) (fn_law_cells T).kp (b_law_cells T) .nil pass0 (pa_cons (pv 0) (pa_cons (pv 2) (pa_cons (pv 3) pa_nil)))))
      (pss_cons (ps_if (pt_cmpR op_gt (pe_callB call_len_seq (by rfl) (f_len T) bt_len (pa_cons (pv 4) pa_nil)) (pv 1) (nomark _))
      (pss_cons (ps_set (i := 5) sc_law_drawn.nd rfl (.inl rfl) (pe_call (ok_law_take T) (hr.mono (by decide)) (by rfl) (g_law_take T) (fn_law_take T).kp (b_law_take T) .nil pass0 (pa_cons (pv 0) (pa_cons (pe_op op_add (pe_op op_sub (pe_callB call_len_seq (by rfl) (f_len T) bt_len (pa_cons (pv 4) pa_nil)) (pv 1)) pe_int) pa_nil))))
      (pss_one (ps_set (i := 4) sc_law_drawn.nd rfl (.inl rfl) (pe_slice sl_list (pv 4) (po_some (pv 5)) (po_some (pe_op op_add (pv 5) (pv 1)))))))
      pss_nil)
      (pss_one (ps_ret (pe_lst (pa_cons (pv 2) (pa_cons (pv 3) (pa_cons (pv 4) (pa_cons (pe_call (ok_law_letters T) hr (by rfl) (g_law_letters T) (fn_law_letters T).kp (b_law_letters T) .nil pass0 (pa_cons (pv 0) (pa_cons (pe_callB call_len_seq (by rfl) (f_len T) bt_len (pa_cons (pv 4) pa_nil)) pa_nil))) pa_nil))))))))))), ?_⟩
    refine ⟨(by show (6 : Nat) ≤ sizeLine; decide), fun p1 h1 => ?_⟩
    have e1 := (Ext.refl (m := No) hS).newM (o := .tup ([2, 2, 3, 1, 3, 4].map V.int)) h1
    refine ⟨_, rfl, S, hd, 6, rfl, e1.i, hH.keep e1, by decide, by decide, fun H2 r2 e2 hH2 hr2 => ?_⟩
    have hr2' : r2 < ([2, 2, 3, 1, 3, 4] : List Int).length := hr2
    have tb := tab_all (P := fun n => decide (1 ≤ n) && decide (n ≤ 4)) hr2' (by decide)
    obtain ⟨t1, t2⟩ := Bool.and_eq_true_iff.mp tb
    refine ix8 (xs := [2, 2, 3, 1, 3, 4]) (e2.h _ _ (fun z => hH.ne h1 z.symm) upd_same) hr2' ?_
    obtain ⟨h, hh⟩ : ∃ h : Nat, ([2, 2, 3, 1, 3, 4] : List Int).getD r2 0 = (h : Int) := ⟨_, (Int.toNat_of_nonneg (by have := of_decide_eq_true t1; omega)).symm⟩
    rw [hh] at t1 t2 ⊢
    have e12 := e1.weak.trans e2
    refine ⟨(by show (6 : Nat) ≤ sizeLine; decide), fun p3 h3 => ?_⟩
    have e3 := (Ext.refl (m := No) e2.i).newM (o := .tup ([2, 3, 3, 4, 1, 2].map V.int)) h3
    refine ⟨_, rfl, S, hd, 6, rfl, e3.i, hH2.keep e3, by decide, by decide, fun H4 r4 e4 hH4 hr4 => ?_⟩
    have hr4' : r4 < ([2, 3, 3, 4, 1, 2] : List Int).length := hr4
    have tb' := tab_all (P := fun n => decide (1 ≤ n) && decide (n ≤ 4)) hr4' (by decide)
    obtain ⟨t3, t4⟩ := Bool.and_eq_true_iff.mp tb'
    refine ix8 (xs := [2, 3, 3, 4, 1, 2]) (e4.h _ _ (fun z => hH2.ne h3 z.symm) upd_same) hr4' ?_
    obtain ⟨w', hw⟩ : ∃ w : Nat, ([2, 3, 3, 4, 1, 2] : List Int).getD r4 0 = (w : Int) := ⟨_, (Int.toNat_of_nonneg (by have := of_decide_eq_true t3; omega)).symm⟩
    rw [hw] at t3 t4 ⊢
    have b1 := of_decide_eq_true t1
    have b2 := of_decide_eq_true t2
    have b3 := of_decide_eq_true t3
    have b4 := of_decide_eq_true t4
    have e14 := e12.trans (e3.weak.trans e4)
    refine ⟨_, rfl, _, rfl, _, rfl, S, hd, h, w', rfl, e4.i, hH4, by omega, by omega, fun S5 H5 u5 cs e5 hH5 sub hu5 => ?_⟩
    obtain ⟨ca, cvs, rfl, hca, hcs⟩ := hu5
    have e15 := e14.trans e5
    have cl := hcs.len
    have c16 : cs.length ≤ 16 := by
      have := sub.length_le
      rw [pairsOf_len] at this
      have : h * w' ≤ 4 * 4 := Nat.mul_le_mul (by omega) (by omega)
      omega
    refine gName_run ?_
    dsimp only
    refine seqJoin (fun σ' H' => ∃ S' cb cs' x5, σ' = [some (.ref hd), some (.int 5), some (.int (h : Int)), some (.int (w' : Int)), some (.ref cb), x5] ∧ Ext (· = hd) S H S' H' ∧ Hand S' H' hd ∧ List.Sublist cs' (pairsOf h w') ∧ cs'.length ≤ 5 ∧ lR cellP S' (.ref cb) cs') (fun σ' H' p => ?_) fun nx hnx => ?_
    · obtain ⟨S7, cb, cs', x5, rfl, e7, hH7, sub', c5, hcb⟩ := p
      obtain ⟨_, cvs', z, hcb2, hcs'⟩ := id hcb
      cases z
      refine ⟨_, rfl, _, rfl, _, rfl, _, rfl, _, rfl, cb, cvs', rfl, .inl (SqL.of (e7.i _ _ hcb2)), ?_⟩
      rw [hcs'.len]
      refine ⟨S7, hd, cs'.length, rfl, e7.i, hH7, by omega, fun S8 H8 u8 ls e8 hH8 hll hlo hu8 => ⟨(by show (4 : Nat) ≤ sizeLine; decide), fun p9 h9 => ?_⟩⟩
      obtain ⟨la, rfl, hla⟩ := hu8
      have kk := same_upd (o := .lst [.int (h : Int), .int (w' : Int), .ref cb, .ref la]) (none_of_same e8.i h9)
      exact q _ _ _ h w' cs' ls (((e7.trans e8)).new h9) (hH8.nw e8.i h9) ⟨by omega, by omega, by omega, by omega, sub', c5, hll, hlo⟩ ⟨p9, cb, la, rfl, upd_same, lR_m cellP_m _ _ _ _ (e8.s.trans kk) hcb, la, rfl, kk _ _ hla⟩
    · refine ⟨_, rfl, ca, cvs, rfl, .inl (SqL.of (e5.i _ _ hca)), _, rfl, _, _, rfl, rfl, _, rfl, ifD (fun z => ?_) fun z => ?_⟩
      · refine ⟨_, rfl, _, rfl, ca, cvs, rfl, .inl (SqL.of (e5.i _ _ hca)), _, rfl, _, _, rfl, rfl, _, _, rfl, rfl, S5, hd, cvs.length - 5 + 1, ?_, e5.i, hH5, by omega, by omega, fun H7 r7 e7 hH7 hr7 => ?_⟩
        · show [V.ref hd, V.int ((cvs.length : Int) - 5 + 1)] = _
          rw [show ((cvs.length : Int) - 5 + 1) = ((cvs.length - 5 + 1 : Nat) : Int) by omega]
        · refine ⟨_, rfl, _, rfl, (r7 : Int), rfl, _, rfl, _, rfl, _, _, rfl, rfl, ((r7 + 5 : Nat) : Int), ?_, ca, cvs, rfl, SqL.of (e7.i _ _ hca), fun p8 h8 => ?_⟩
          · show V.int ((r7 : Int) + 5) = _
            rw [show ((r7 : Int) + 5) = ((r7 + 5 : Nat) : Int) by omega]
          · rw [cut_V (by omega) (by omega), show r7 + 5 - r7 = 5 by omega]
            have E8 := (e15.trans e7).new (o := .lst ((cvs.drop r7).take 5)) h8
            have kk := same_upd (o := .lst ((cvs.drop r7).take 5)) (none_of_same e7.i h8)
            refine hnx _ _ ⟨_, p8, (cs.drop r7).take 5, some (.int (r7 : Int)), rfl, E8, hH7.nw e7.i h8, ?_, ?_, p8, _, rfl, upd_same, ?_⟩
            · exact List.Sublist.trans (List.take_sublist _ _) (List.Sublist.trans (List.drop_sublist _ _) sub)
            · rw [List.length_take]; omega
            · exact ((hcs.drop r7).take 5).mono cellP_m kk
      · exact hnx _ _ ⟨S5, ca, cs, none, rfl, e15, hH5, sub, by omega, ca, cvs, rfl, hca, hcs⟩
end Th

/-! part DW -/
namespace Th
open PySem PySem.Spec PyProof.Rows L2

def NumOk (ns : List Int) : Prop := ∀ n ∈ ns, -1000000000 ≤ n ∧ n ≤ 1000000000
theorem num_snoc {ns : List Int} {n : Int} (h : NumOk ns) (h1 : -1000000000 ≤ n) (h2 : n ≤ 1000000000) : NumOk (ns ++ [n]) := fun x hx => by
  rcases List.mem_append.mp hx with z | z
  · exact h x z
  · rw [List.mem_singleton.mp z]; exact ⟨h1, h2⟩
def sp_law_asked : Sp := fun vs H Q _ => ∃ S hd, ∃ h w n : Nat, vs = [.ref hd, .int (h : Int), .int (w : Int), .int (n : Int)] ∧ Same S H ∧ Hand S H hd ∧ h ≤ 100 ∧ w ≤ 100 ∧ n ≤ 100 ∧
  ∀ S' H' u bk, Ext (· = hd) S H S' H' → Hand S' H' hd → bk.length ≤ n → (∀ a ∈ bk, AskOk h w a) → lR askT S' u bk → Q u H'
def AkI (hd : Addr) (H0 : Hp) (S' H' : Hp) (p : Addr) (h w : Nat) (i : Nat) : Prop := Hand S' H' hd ∧ H0 p = none ∧ S' p = none ∧ ∃ acc bk, H' p = some (.lst acc) ∧ All2 (askT S') acc bk ∧ bk.length = i ∧ ∀ a ∈ bk, AskOk h w a
theorem AkI.snoc {hd : Addr} {H0 S' H' S2 H2 : Hp} {p : Addr} {h w i : Nat} (x : AkI hd H0 S' H' p h w i) (hH0 : H0 hd ≠ none) (e : Ext (· = hd) S' H' S2 H2) (hH : Hand S2 H2 hd) {u : V} {a : Ask} (ha : AskOk h w a) (hu : askT S2 u a) :
    ∃ acc, H2 p = some (.lst acc) ∧ acc.length = i ∧ S2 p = none ∧ AkI hd H0 S2 (upd H2 p (.lst (acc ++ [u]))) p h w (i + 1) := by
  obtain ⟨hH', n0, s0, acc, bk, hp, al, hl, hok⟩ := x
  have np : p ≠ hd := fun z => hH0 (by rw [← z]; exact n0)
  have hp2 := e.h p _ np hp
  have s2 := e.n p (ne_none hp) s0
  refine ⟨acc, hp2, by rw [al.len, hl], s2, hH.up' np.symm, n0, s2, acc ++ [u], bk ++ [a], upd_same, (al.mono askT_m e.s).snoc hu, by rw [List.length_append, hl]; rfl, fun y hy => ?_⟩
  rcases List.mem_append.mp hy with z | z
  · exact hok y z
  · rw [List.mem_singleton.mp z]; exact ha
theorem AkI.fin {hd : Addr} {S H S' H' : Hp} {p : Addr} {h w i : Nat} (x : AkI hd H S' H' p h w i) (hH0 : H hd ≠ none) (e : Ext (· = hd) S H S' H') : ∃ S2 bk, Ext (· = hd) S H S2 H' ∧ Hand S2 H' hd ∧ bk.length = i ∧ (∀ a ∈ bk, AskOk h w a) ∧ lR askT S2 (.ref p) bk := by
  obtain ⟨hH', n0, s0, acc, bk, hp, al, hl, hok⟩ := x
  have np : p ≠ hd := fun z => hH0 (by rw [← z]; exact n0)
  exact ⟨_, bk, e.fix n0 s0 hp, hH'.fx s0 np.symm, hl, hok, p, acc, rfl, upd_same, al.mono askT_m (same_upd s0)⟩
theorem ok_law_asked {P : Program} {w : World} {K : PySem.W.Frag} {mg : Str → Option Value} {base : Heap} (T : Tx K mg) : FnOk P w K mg base CX0 6 A_law_asked (fdAt K A_law_asked) P_law_asked sp_law_asked := by
  refine (fn_law_asked T).ok sc_law_asked (fun vs H Q E h => ?_) (fun cdv A outer s H vs Q E hr h => ?_)
  · obtain ⟨S, hd, h, w', n, rfl, _⟩ := h; rfl
  · obtain ⟨S, hd, h, w', n, rfl, hS, hH, hh, hw, hn, q⟩ := h
    refine ⟨_, PSs.nox (pss_cons (ps_set (i := 4) sc_law_asked.nd rfl (.inl rfl) (pe_call (ok_law_take T) (hr.mono (by decide)) (by rfl) (g_law_take T) (fn_law_take T).kp (b_law_take T) .nil pass0 (pa_cons (pv 0) (pa_cons pe_int pa_nil))))
      (pss_cons (ps_if (pt_cmpR op_eq (pv 4) pe_int (nomark _))
      (pss_one (ps_ret (pe_call (ok_law_book T) hr (by rfl) (g_law_book T) (fn_law_book T).kp (b_law_book T) .nil pass0 (pa_cons (pv 0) (pa_cons (pv 1) (pa_cons (pv 2) (pa_cons (pv 3) pa_nil)))))))
      pss_nil)
      (pss_cons (ps_if (pt_cmpR op_eq (pv 4) pe_int (nomark _))
      (pss_cons (ps_set (i := 5) sc_law_asked.nd rfl (.inl rfl) (pe_call (ok_law_grouping T) (hr.mono (by decide)) (by rfl) (g_law_grouping T) (fn_law_grouping T).kp (b_law_grouping T) .nil pass0 (pa_cons (pv 0) (pa_cons (pv 2) pa_nil))))
      (pss_cons (ps_set (i := 6) sc_law_asked.nd rfl (.inl rfl) (pe_lst pa_nil))
      (pss_cons (ps_for PassesOwn.never rfl (pi_range1 (by rfl) (f_range T) (pa_cons (pe_callB (call_min2 rfl) (by rfl) (f_min T) bt_min (pa_cons (pv 3) (pa_cons (pe_call (ok_law_many T) (hr.mono (by decide)) (by rfl) (g_law_many T) (fn_law_many T).kp (b_law_many T) .nil pass0 (pa_cons (pv 5) pa_nil)) pa_nil))) pa_nil)) (pg_name (i := 7) sc_law_asked.nd rfl (.inr rfl))
      (pss_one (ps_expr (pe_bm PySem.F.plainAttrs_list PySem.F.slot_list_append PySem.F.type_list_append mt_append (pv 6) (pa_cons (pe_tup (pa_cons pe_str (pa_cons (pe_callTy call_tuple_of (by rfl) (f_tuple T) bt_tuple (pa_cons (pe_lc (own := [("_law_mark", 11)]) (g := gName 11) rfl sc_law_asked.nd (pi_list (pv 5)) (blkOk_by (N := N_law_asked) (sc := defScope st_law_asked) (by decide +kernel)) (fun _ _ _ _ _ => (pg_name (i := 11) sc_law_asked.nd rfl (.inl rfl))) (fun _ _ _ _ _ => pts_nil) (fun _ _ _ _ _ => (pe_callTy call_int1 (by rfl) (f_int T) bt_int (pa_cons (pe_cmpR op_eq (pv 11) (pv 7) (nomark _)) pa_nil)))) pa_nil)) pa_nil))) pa_nil)))))
      (pss_one (ps_ret (pv 6))))))
      pss_nil)
      (pss_cons (ps_set (i := 6) sc_law_asked.nd rfl (.inl rfl) (pe_lst pa_nil))
      (pss_cons (ps_for PassesOwn.never rfl (pi_range1 (by rfl) (f_range T) (pa_cons (pe_callB (call_max2 rfl) (by rfl) (f_max T) bt_max (pa_cons (pe_call (ok_law_take T) (hr.mono (by decide)) (by rfl) (g_law_take T) (fn_law_take T).kp (b_law_take T) .nil pass0 (pa_cons (pv 0) (pa_cons (pe_op op_add (pv 3) pe_int) pa_nil))) (pa_cons (pe_call (ok_law_take T) (hr.mono (by decide)) (by rfl) (g_law_take T) (fn_law_take T).kp (b_law_take T) .nil pass0 (pa_cons (pv 0) (pa_cons (pe_op op_add (pv 3) pe_int) pa_nil))) pa_nil))) pa_nil)) (pg_name (i := 8) sc_law_asked.nd rfl (.inl rfl))
      (pss_cons (ps_set (i := 9) sc_law_asked.nd rfl (.inl rfl) (pe_ix ix_tup (pe_tup (pa_cons pe_str (pa_cons pe_str pa_nil))) (pe_call (ok_law_take T) (hr.mono (by decide)) (by rfl) (g_law_take T) (fn_law_take T).kp (b_law_take T) .nil pass0 (pa_cons (pv 0) (pa_cons pe_int pa_nil))) (fun _ _ => rfl)))
      (pss_cons (ps_set (i := 10) sc_law_asked.nd rfl (.inl rfl) (pe_ifExp (pt_cmpR op_eq (pv 9) pe_str (nomark _)) (pv 2) (pv 1)))
      (pss_one (ps_if (pt_cmpR op_eq (pv 4) pe_int (nomark _))
      (pss_one (ps_expr (pe_bm PySem.F.plainAttrs_list PySem.F.slot_list_append PySem.F.type_list_append mt_append (pv 6) (pa_cons (pe_tup (pa_cons (pv 9) (pa_cons (pe_callTy call_tuple_of (by rfl) (f_tuple T) bt_tuple (pa_cons (pe_lc (own := [("_law_place", 12)]) (g := gName 12) rfl sc_law_asked.nd (pi_range1 (by rfl) (f_range T) (pa_cons (pv 10) pa_nil)) (blkOk_by (N := N_law_asked) (sc := defScope st_law_asked) (by decide +kernel)) (fun _ _ _ _ _ => (pg_name (i := 12) sc_law_asked.nd rfl (.inl rfl))) (fun _ _ _ _ _ => pts_nil) (fun _ _ _ _ _ => (pe_ix (show IxR _ (rIxT K) from ix_tup) (pe_tup (pa_cons pe_int (pa_cons pe_int (pa_cons pe_int (pa_cons pe_int (pa_cons (pe_un un_neg pe_int) (pa_cons pe_int (pa_cons pe_int (pa_cons pe_int pa_nil))))))))) (pe_call (ok_law_take T) (hr.mono (by decide)) (by rfl) (g_law_take T) (fn_law_take T).kp (b_law_take T) .nil pass0 (pa_cons (pv 0) (pa_cons pe_int pa_nil))) (fun _ _ => rfl)))) pa_nil)) pa_nil))) pa_nil))))
      (pss_one (ps_expr (pe_bm PySem.F.plainAttrs_list PySem.F.slot_list_append PySem.F.type_list_append mt_append (pv 6) (pa_cons (pe_tup (pa_cons (pv 9) (pa_cons (pe_callTy call_tuple_of (by rfl) (f_tuple T) bt_tuple (pa_cons (pe_lc (own := [("_law_place", 12)]) (g := gName 12) rfl sc_law_asked.nd (pi_range1 (by rfl) (f_range T) (pa_cons (pv 10) pa_nil)) (blkOk_by (N := N_law_asked) (sc := defScope st_law_asked) (by decide +kernel)) (fun _ _ _ _ _ => (pg_name (i := 12) sc_law_asked.nd rfl (.inl rfl))) (fun _ _ _ _ _ => pts_nil) (fun _ _ _ _ _ => (pe_call (ok_law_thin T) (hr.mono (by decide)) (by rfl) (g_law_thin T) (fn_law_thin T).kp (b_law_thin T) .nil pass0 (pa_cons (pv 0) pa_nil)))) pa_nil)) pa_nil))) pa_nil)))))))))
      (pss_one (ps_ret (pv 6)))))))), ?_⟩
    have hH0 : H hd ≠ none := hH.there hd rfl
    refine ⟨_, rfl, S, hd, 6, rfl, hS, hH, by decide, by decide, fun H1 r1 e1 hH1 hr1 => ?_⟩
    refine ⟨_, rfl, rfl, _, rfl, ?_⟩
    rw [dV]
    refine ifD (fun z => ⟨_, rfl, _, rfl, _, rfl, _, rfl, S, hd, h, w', n, rfl, e1.i, hH1, hh, hw, hn, fun S2 H2 u bk e2 hH2 h1 h2 h3 => q S2 H2 u bk (e1.trans e2) hH2 h1 h2 h3⟩) fun _ => ?_
    refine ⟨_, rfl, rfl, _, rfl, ?_⟩
    rw [dV]
    refine ifD (fun _ => ?_) fun _ => ?_
    · refine ⟨_, rfl, _, rfl, S, hd, w', rfl, e1.i, hH1, by omega, fun S2 H2 u2 gs e2 hH2 hgl hgu hgm => ?_⟩
      obtain ⟨ga, rfl, hga⟩ := hgu
      have e12 := e1.trans e2
      refine ⟨Nat.zero_le _, fun p3 h3 => ?_⟩
      have e3 := e12.newM (o := .lst []) h3
      have mj : (if ((manyN gs : Nat) : Int) < (n : Int) then ((manyN gs : Nat) : Int) else (n : Int)) = ((min n (manyN gs) : Nat) : Int) := by split <;> omega
      refine ⟨_, rfl, _, rfl, ga, gs, rfl, (upd_ne (ne_of_none (e2.i _ _ hga) h3)).trans (e2.i _ _ hga), _, _, rfl, ((min n (manyN gs) : Nat) : Int), congrArg (fun z => [V.int z]) mj, by omega, by omega, forE (S0 := S) (H0 := H) (m := (· = hd)) (σ := [some (.ref hd), some (.int (h : Int)), some (.int (w' : Int)), some (.int (n : Int)), some (.int (r1 : Int)), some (.ref ga), some (.ref p3), none, none, none, none, none, none]) walk0
        (fun i σ S' H' => ∃ x7, σ = [some (.ref hd), some (.int (h : Int)), some (.int (w' : Int)), some (.int (n : Int)), some (.int (r1 : Int)), some (.ref ga), some (.ref p3), x7, none, none, none, none, none] ∧ Same S2 S' ∧ AkI hd H S' H' p3 h w' i) e3 ⟨none, rfl, Same.refl _, hH2.up h3, e12.none1 h3, none_of_same e2.i h3, [], [], upd_same, .nil, rfl, fun a ha => by cases ha⟩ (fun _ _ _ _ _ _ _ => trivial)
        (fun i x σ S5 H5 H6 hi e5 p5 hy => ?_) fun σ S5 H5 e5 p5 => ?_⟩
      · obtain ⟨x7, rfl, sm, ak⟩ := p5
        obtain ⟨rfl, rfl⟩ := hy
        obtain ⟨hH5, n0, s0, acc, bk, hp, al, hl, hok⟩ := id ak
        refine ⟨_, rfl, .inl ⟨rfl, _, SqL.of hp⟩, _, rfl, ga, rfl, ⟨_, SqL.of (e5.i _ _ (sm _ _ hga))⟩, lcP (S0 := S5) (H0 := H6) (σ := [some (.ref hd), some (.int (h : Int)), some (.int (w' : Int)), some (.int (n : Int)), some (.int (r1 : Int)), some (.ref ga), some (.ref p3), some (.int (i : Int)), none, none, none, none, none]) (walk_list (xs := gs.map fun n : Nat => V.int n)) (by rw [List.length_map]; omega)
          (fun j acc S' => ∃ ns : List Int, acc = ns.map V.int ∧ ns.length = j ∧ NumOk ns) (Ext.refl e5.i) ⟨[], rfl, rfl, fun n hn => by cases hn⟩ (fun _ _ _ _ _ e _ => SqL.of (e.i _ _ (e.s _ _ (sm _ _ hga)))) (fun j x acc S7 H7 H8 Kt Kf hj e7 p7 hy kt kf => ?_) fun d acc7 S7 H7 hd7 e7 hs7 he7 _ p7 => ?_⟩
        · obtain ⟨rfl, hx⟩ := hy
          obtain ⟨ns, rfl, hnl, hnb⟩ := p7
          obtain ⟨g, f1, rfl⟩ := nat_get hx
          refine ⟨rfl, _, rfl, _, rfl, rfl, .inr ⟨_, rfl, ?_⟩⟩
          refine kt _ S7 _ (Ext.refl e7.i) ⟨ns ++ [if decide (V.int (g : Int) = V.int (i : Int)) = true then 1 else 0], by rw [List.map_append]; rfl, by rw [List.length_append, hnl]; rfl, num_snoc hnb (by split <;> decide) (by split <;> decide)⟩
        · obtain ⟨ns, rfl, hnl, hnb⟩ := p7
          rw [List.length_map] at hnl
          refine ⟨d, _, rfl, .inl ⟨SqL.of he7, fun t ht => ⟨(by show (2 : Nat) ≤ sizeLine; decide), fun p hp' => ?_⟩⟩⟩
          have e8 := (e7.new (o := .tup (ns.map V.int)) ht)
          have e9 := e8.new (o := .tup [.str (kS true), .ref t]) hp'
          obtain ⟨acc2, g1, g2, g3, g4⟩ := ak.snoc hH0 e9.weak (hH5.keep e9) (a := (true, ns)) ⟨by rw [hnl]; exact hgl, hnb⟩ (u := .ref p) ⟨p, .ref t, rfl, upd_same, t, rfl, same_upd (none_of_same e8.i hp') _ _ upd_same⟩
          exact ⟨p3, acc2, .ref p, rfl, rfl, g1, szLt (by omega), _, (e5.trans e9.weak).mut (.inl n0) g3, _, rfl, sm.trans e9.s, g4⟩
      · obtain ⟨x7, rfl, sm, ak⟩ := p5
        obtain ⟨S6, bk, e6, hH6, b1, b2, b3⟩ := ak.fin hH0 e5
        exact ⟨_, rfl, q S6 _ _ bk e6 hH6 (by omega) b2 b3⟩
    · refine ⟨Nat.zero_le _, fun p3 h3 => ?_⟩
      have e3 := e1.newM (o := .lst []) h3
      refine ⟨_, rfl, _, rfl, _, _, rfl, rfl, S, hd, n + 1, rfl, e3.i, hH1.up h3, by omega, by omega, fun H4 r4 e4 hH4 hr4 => ?_⟩
      refine ⟨_, rfl, _, rfl, _, _, rfl, rfl, S, hd, n + 1, rfl, e4.i, hH4, by omega, by omega, fun H5 r5 e5 hH5 hr5 => ?_⟩
      have e35 := (e3.trans e4).trans e5
      have mj : (if ((r5 : Nat) : Int) > ((r4 : Nat) : Int) then ((r5 : Nat) : Int) else ((r4 : Nat) : Int)) = ((max r4 r5 : Nat) : Int) := by split <;> omega
      have hp5 : H5 p3 = some (.lst []) := e5.h _ _ (hH1.ne h3).symm (e4.h _ _ (hH1.ne h3).symm upd_same)
      refine ⟨_, _, rfl, ((max r4 r5 : Nat) : Int), congrArg (fun z => [V.int z]) mj, by omega, by omega, forE (S0 := S) (H0 := H) (m := (· = hd)) (σ := [some (.ref hd), some (.int (h : Int)), some (.int (w' : Int)), some (.int (n : Int)), some (.int (r1 : Int)), none, some (.ref p3), none, none, none, none, none, none]) walk0
        (fun i σ S' H' => ∃ x8 x9 x10, σ = [some (.ref hd), some (.int (h : Int)), some (.int (w' : Int)), some (.int (n : Int)), some (.int (r1 : Int)), none, some (.ref p3), none, x8, x9, x10, none, none] ∧ AkI hd H S' H' p3 h w' i) e35 ⟨none, none, none, rfl, hH5, e1.none1 h3, none_of_same e1.i h3, [], [], hp5, .nil, rfl, fun a ha => by cases ha⟩ (fun _ _ _ _ _ _ _ => trivial)
        (fun i x σ S6 H6 H7 hi e6 p6 hy => ?_) fun σ S6 H6 e6 p6 => ?_⟩
      · obtain ⟨x8, x9, x10, rfl, ak⟩ := p6
        obtain ⟨rfl, rfl⟩ := hy
        obtain ⟨hH6, n0, s0, acc, bk, hp, al, hl, hok⟩ := id ak
        have np : p3 ≠ hd := fun z => hH0 (by rw [← z]; exact n0)
        refine ⟨(by show (2 : Nat) ≤ sizeLine; decide), fun p8 h8 => ?_⟩
        have e8 := (Ext.refl (m := No) e6.i).newM (o := .tup [.str (kS true), .str (kS false)]) h8
        refine ⟨_, rfl, S6, hd, 2, rfl, e8.i, hH6.keep e8, by decide, by decide, fun H9 r9 e9 hH9 hr9 => ?_⟩
        have ex : ∃ k : Bool, [V.str (kS true), V.str (kS false)][r9]? = some (.str (kS k)) := by
          rcases r9 with _ | _ | r
          · exact ⟨true, rfl⟩
          · exact ⟨false, rfl⟩
          · omega
        obtain ⟨k, hk⟩ := ex
        have e89 := e8.weak.trans e9
        refine ⟨_, _, _, _, rfl, rfl, SqT.of (e9.h _ _ (fun z => hH6.ne h8 z.symm) upd_same), atI_nat hk, ?_⟩
        refine ⟨_, rfl, rfl, _, rfl, ?_⟩
        rw [kS_col]
        refine ifE (.int ((if k = true then w' else h : Nat) : Int)) ?_ (fun hk Q hq => ⟨_, rfl, by rw [if_pos hk] at hq; exact hq⟩) (fun hk Q hq => ⟨_, rfl, by rw [if_neg (by rw [hk]; decide)] at hq; exact hq⟩)
        have ln : (if k = true then w' else h) ≤ 100 := by split <;> omega
        generalize hlen : (if k = true then w' else h) = len at ln
        have hp9 := e89.h p3 _ np hp
        refine ⟨_, rfl, rfl, _, rfl, ?_⟩
        rw [dV]
        refine ifD (fun _ => ?_) fun _ => ?_
        · refine ⟨_, rfl, .inl ⟨rfl, _, SqL.of hp9⟩, _, rfl, _, rfl, (len : Int), rfl, by omega, by omega, lcE (m := (· = hd)) (S0 := S6) (H0 := H9) (σ := [some (.ref hd), some (.int (h : Int)), some (.int (w' : Int)), some (.int (n : Int)), some (.int (r1 : Int)), none, some (.ref p3), none, some (.int (i : Int)), some (.str (kS k)), some (.int (len : Int)), none, none]) walk0 (by omega) hH9.there
            (fun i acc S' H' => Hand S' H' hd ∧ ∃ ns : List Int, acc = ns.map V.int ∧ ns.length = i ∧ NumOk ns) (Ext.refl e9.i) ?_ ⟨hH9, [], rfl, rfl, fun n hn => by cases hn⟩ (fun _ _ _ _ _ _ _ => trivial)
            (fun i x acc S10 H10 H11 Kt Kf hi e10 p10 hy kt kf => ?_) fun d acc7 S10 H10 hd10 e10 hs10 he10 _ p10 => ?_⟩
          · rintro i acc S' H' d o hd0 ⟨g, rest⟩
            exact ⟨g.up' (hH9.ne hd0), rest⟩
          · obtain ⟨rfl, rfl⟩ := hy
            obtain ⟨hH10, ns, rfl, hnl, hnb⟩ := p10
            refine ⟨rfl, _, rfl, (by show (8 : Nat) ≤ sizeLine; decide), fun q2 hq2 => ?_⟩
            have e11 := (Ext.refl (m := No) e10.i).newM (o := .tup ([1, 2, 1, 3, -1, 1, 5, 0].map V.int)) hq2
            refine ⟨_, rfl, S10, hd, 8, rfl, e11.i, hH10.keep e11, by decide, by decide, fun H12 r12 e12 hH12 hr12 => ?_⟩
            have hr12' : r12 < ([1, 2, 1, 3, -1, 1, 5, 0] : List Int).length := hr12
            have tb := tab_all (P := fun n => decide (-1000000000 ≤ n) && decide (n ≤ 1000000000)) hr12' (by decide)
            obtain ⟨t1, t2⟩ := Bool.and_eq_true_iff.mp tb
            refine ix8 (xs := [1, 2, 1, 3, -1, 1, 5, 0]) (e12.h _ _ (fun z => hH10.ne hq2 z.symm) upd_same) hr12' ?_
            exact kt _ S10 _ (e11.weak.trans e12) ⟨hH12, ns ++ [_], by rw [List.map_append]; rfl, by rw [List.length_append, hnl]; rfl, num_snoc hnb (of_decide_eq_true t1) (of_decide_eq_true t2)⟩
          · obtain ⟨hH10, ns, rfl, hnl, hnb⟩ := p10
            refine ⟨d, _, rfl, .inl ⟨SqL.of he10, fun t ht => ⟨(by show (2 : Nat) ≤ sizeLine; decide), fun p hp' => ?_⟩⟩⟩
            have e11 := (Ext.refl (m := No) e10.i).new (o := .tup (ns.map V.int)) ht
            have e12 := e11.new (o := .tup [.str (kS k), .ref t]) hp'
            obtain ⟨acc2, g1, g2, g3, g4⟩ := ak.snoc hH0 ((e89.trans e10).trans e12.weak) (hH10.keep e12) (a := (k, ns)) ⟨by rw [hnl]; exact hlen.symm, hnb⟩ (u := .ref p) ⟨p, .ref t, rfl, upd_same, t, rfl, same_upd (none_of_same e11.i hp') _ _ upd_same⟩
            exact ⟨p3, acc2, .ref p, rfl, rfl, g1, szLt (by omega), _, (((e6.trans e89).trans e10).trans e12.weak).mut (.inl n0) g3, _, _, _, rfl, g4⟩
        · refine ⟨_, rfl, .inl ⟨rfl, _, SqL.of hp9⟩, _, rfl, _, rfl, (len : Int), rfl, by omega, by omega, lcE (m := (· = hd)) (S0 := S6) (H0 := H9) (σ := [some (.ref hd), some (.int (h : Int)), some (.int (w' : Int)), some (.int (n : Int)), some (.int (r1 : Int)), none, some (.ref p3), none, some (.int (i : Int)), some (.str (kS k)), some (.int (len : Int)), none, none]) walk0 (by omega) hH9.there
            (fun i acc S' H' => Hand S' H' hd ∧ ∃ ns : List Int, acc = ns.map V.int ∧ ns.length = i ∧ NumOk ns) (Ext.refl e9.i) ?_ ⟨hH9, [], rfl, rfl, fun n hn => by cases hn⟩ (fun _ _ _ _ _ _ _ => trivial)
            (fun i x acc S10 H10 H11 Kt Kf hi e10 p10 hy kt kf => ?_) fun d acc7 S10 H10 hd10 e10 hs10 he10 _ p10 => ?_⟩
          · rintro i acc S' H' d o hd0 ⟨g, rest⟩
            exact ⟨g.up' (hH9.ne hd0), rest⟩
          · obtain ⟨rfl, rfl⟩ := hy
            obtain ⟨hH10, ns, rfl, hnl, hnb⟩ := p10
            refine ⟨rfl, _, rfl, S10, hd, rfl, e10.i, hH10, fun H12 n12 e12 hH12 n1 n2 => ?_⟩
            exact kt _ S10 _ e12 ⟨hH12, ns ++ [n12], by rw [List.map_append]; rfl, by rw [List.length_append, hnl]; rfl, num_snoc hnb n1 n2⟩
          · obtain ⟨hH10, ns, rfl, hnl, hnb⟩ := p10
            refine ⟨d, _, rfl, .inl ⟨SqL.of he10, fun t ht => ⟨(by show (2 : Nat) ≤ sizeLine; decide), fun p hp' => ?_⟩⟩⟩
            have e11 := (Ext.refl (m := No) e10.i).new (o := .tup (ns.map V.int)) ht
            have e12 := e11.new (o := .tup [.str (kS k), .ref t]) hp'
            obtain ⟨acc2, g1, g2, g3, g4⟩ := ak.snoc hH0 ((e89.trans e10).trans e12.weak) (hH10.keep e12) (a := (k, ns)) ⟨by rw [hnl]; exact hlen.symm, hnb⟩ (u := .ref p) ⟨p, .ref t, rfl, upd_same, t, rfl, same_upd (none_of_same e11.i hp') _ _ upd_same⟩
            exact ⟨p3, acc2, .ref p, rfl, rfl, g1, szLt (by omega), _, (((e6.trans e89).trans e10).trans e12.weak).mut (.inl n0) g3, _, _, _, rfl, g4⟩
      · obtain ⟨x8, x9, x10, rfl, ak⟩ := p6
        obtain ⟨S7, bk, e7, hH7, b1, b2, b3⟩ := ak.fin hH0 e6
        exact ⟨_, rfl, q S7 _ _ bk e7 hH7 (by omega) b2 b3⟩
end Th

/-! part DX -/
namespace Th
open PySem PySem.Spec PyProof.Rows L2

theorem eqv_ints : ∀ as bs : List Int, PyData.eqvAll (as.map PyData.int) (bs.map PyData.int) = decide (as = bs)
  | [], [] => rfl
  | [], _ :: _ => rfl
  | _ :: _, [] => rfl
  | a :: as, b :: bs => by
    show (PyData.eqv (.int a) (.int b) && PyData.eqvAll (as.map PyData.int) (bs.map PyData.int)) = _
    rw [eqv_ints as bs]
    have e : PyData.eqv (.int a) (.int b) = decide (a = b) := by
      show (a == b) = _
      rfl
    rw [e]
    by_cases h1 : a = b
    · by_cases h2 : as = bs
      · subst h1 h2; simp
      · simp [h1, h2]
    · simp [h1]
theorem dp_ints {K : PySem.W.Frag} {H : Hp} : ∀ ns : List Int, DpAll K H (ns.map V.int) (ns.map PyData.int)
  | [] => .nil
  | n :: l => .cons (.int n) (dp_ints l)
theorem pairs_lex (h w : Nat) : List.Pairwise (fun c d : Cell => c.1 < d.1 ∨ (c.1 = d.1 ∧ c.2 < d.2)) (pairsOf h w) := by
  unfold pairsOf
  induction h with
  | zero => exact List.Pairwise.nil
  | succ i ih =>
    rw [List.range_succ, List.flatMap_append, List.flatMap_cons, List.flatMap_nil, List.append_nil]
    refine List.pairwise_append.mpr ⟨ih, ?_, fun a ha b hb => ?_⟩
    · refine List.pairwise_map.mpr ?_
      have : List.Pairwise (fun a b : Nat => a < b) (List.range w) := List.pairwise_lt_range
      exact List.Pairwise.imp (fun {a b} h => .inr ⟨rfl, h⟩) this
    · obtain ⟨r, hr, h2⟩ := List.mem_flatMap.mp ha
      obtain ⟨c, _, rfl⟩ := List.mem_map.mp h2
      obtain ⟨d, _, rfl⟩ := List.mem_map.mp hb
      exact .inl (List.mem_range.mp hr)
theorem pairs_mem {h w : Nat} {c : Cell} (hc : c ∈ pairsOf h w) : c.1 < h ∧ c.2 < w := by
  obtain ⟨r, hr, h2⟩ := List.mem_flatMap.mp hc
  obtain ⟨d, hd, rfl⟩ := List.mem_map.mp h2
  exact ⟨List.mem_range.mp hr, List.mem_range.mp hd⟩
theorem cells_of {h w : Nat} {cells : List Cell} (s : List.Sublist cells (pairsOf h w)) : CellsOk h w cells := by
  refine ⟨fun c hc => pairs_mem (s.subset hc), fun i c d h1 h2 => ?_⟩
  have pw := List.Pairwise.sublist s (pairs_lex h w)
  obtain ⟨a1, a2⟩ := List.getElem?_eq_some_iff.mp h1
  obtain ⟨b1, b2⟩ := List.getElem?_eq_some_iff.mp h2
  have := List.pairwise_iff_getElem.mp pw i (i + 1) a1 b1 (by omega)
  rw [a2, b2] at this; exact this
theorem all2_plC {S : Hp} {p : Addr} {c : Cell} (h : S p = some (.lst [.int (c.1 : Nat), .int (c.2 : Nat)]) ∨ S p = some (.tup [.int (c.1 : Nat), .int (c.2 : Nat)])) : sI S (.ref p) (plC c) := h.imp (fun z => ⟨p, rfl, z⟩) fun z => ⟨p, rfl, z⟩
def sp_law_built : Sp := fun vs H Q _ => ∃ S hd v h w cells ls, vs = [.ref hd, v] ∧ Same S H ∧ Hand S H hd ∧ OneR S v h w cells ls ∧ OneOk h w cells ls ∧ ∀ S' H' u, Ext (· = hd) S H S' H' → Hand S' H' hd → MouldR S' u h w cells ls → Q u H'
theorem ok_law_built {P : Program} {w : World} {K : PySem.W.Frag} {mg : Str → Option Value} {base : Heap} (T : Tx K mg) : FnOk P w K mg base CX0 6 A_law_built (fdAt K A_law_built) P_law_built sp_law_built := by
  refine (fn_law_built T).ok sc_law_built (fun vs H Q E h => ?_) (fun cdv A outer s H vs Q E hr h => ?_)
  · obtain ⟨S, hd, v, h, w', cells, ls, rfl, _⟩ := h; rfl
  · obtain ⟨S, hd, v, h, w', cells, ls, rfl, hS, hH, ⟨po, ca, la, rfl, hpo, ⟨_, cvs, z, hca, hcs⟩, ⟨_, z2, hla⟩⟩, ok, q⟩ := h
    cases z
    cases z2
    refine ⟨_, PSs.nox (pss_cons (ps_set (i := 2) sc_law_built.nd rfl (.inl rfl) (pe_call (ok_law_either T) (hr.mono (by decide)) (by rfl) (g_law_either T) (fn_law_either T).kp (b_law_either T) .nil pass0 (pa_cons (pv 0) (pa_cons (pe_lc (own := [("_law_cell", 3)]) (g := gName 3) rfl sc_law_built.nd (pi_list (pe_ix ix_list (pv 1) pe_int (fun _ _ => rfl))) (blkOk_by (N := N_law_built) (sc := defScope st_law_built) (by decide +kernel)) (fun _ _ _ _ _ => (pg_name (i := 3) sc_law_built.nd rfl (.inl rfl))) (fun _ _ _ _ _ => pts_nil) (fun _ _ _ _ _ => (pe_call (ok_law_either T) (hr.mono (by decide)) (by rfl) (g_law_either T) (fn_law_either T).kp (b_law_either T) .nil pass0 (pa_cons (pv 0) (pa_cons (pv 3) pa_nil))))) pa_nil))))
      (pss_cons (ps_if (PW.pt (pw_and (pt_cmpR (op_eqD hr.units) (pe_ix ix_list (pv 1) pe_int (fun _ _ => rfl)) (pe_listRg rfl (by rfl) (f_list T) (prg_1 (by rfl) (f_range T) (pe_callB call_len_seq (by rfl) (f_len T) bt_len (pa_cons (pe_ix ix_list (pv 1) pe_int (fun _ _ => rfl)) pa_nil)))) (nomark _)) (pw_and1 (pt_truK (pe_call (ok_law_take T) (hr.mono (by decide)) (by rfl) (g_law_take T) (fn_law_take T).kp (b_law_take T) .nil pass0 (pa_cons (pv 0) (pa_cons pe_int pa_nil))) (by intro _; rfl)))))
      (pss_one (ps_ret (pe_make (mk_Mould T) (ok_Mould_init T) hr (by rfl) (g_Mould T) (b1_Mould_init T).choose_spec.2 (b1_Mould_init T).choose_spec.1 pass0 (pa_cons (pe_ix ix_list (pv 1) pe_int (fun _ _ => rfl)) (pa_cons (pe_ix ix_list (pv 1) pe_int (fun _ _ => rfl)) (pa_cons (pv 2) pa_nil))))))
      pss_nil)
      (pss_one (ps_ret (pe_make (mk_Mould T) (ok_Mould_init T) hr (by rfl) (g_Mould T) (b0_Mould_init T) .nil pass0 (pa_cons (pe_ix ix_list (pv 1) pe_int (fun _ _ => rfl)) (pa_cons (pe_ix ix_list (pv 1) pe_int (fun _ _ => rfl)) (pa_cons (pv 2) (pa_cons (pe_call (ok_law_either T) (hr.mono (by decide)) (by rfl) (g_law_either T) (fn_law_either T).kp (b_law_either T) .nil pass0 (pa_cons (pv 0) (pa_cons (pe_ix ix_list (pv 1) pe_int (fun _ _ => rfl)) pa_nil))) pa_nil))))))))), ?_⟩
    have cl := hcs.len
    have c5 := ok.c5
    have o1 : ∀ H', Same S H' → SqL K H' po [.int (h : Int), .int (w' : Int), .ref ca, .ref la] := fun H' k => SqL.of (k _ _ hpo)
    refine ⟨_, rfl, _, rfl, _, _, _, _, rfl, rfl, o1 _ hS, atI_nat (j := 2) rfl, ca, rfl, ⟨_, SqL.of (hS _ _ hca)⟩, lcE (m := (· = hd)) (S0 := S) (H0 := H) (σ := [some (.ref hd), some (.ref po), none, none]) (walk_list (xs := cvs)) (by omega) hH.there
      (fun i acc S' H' => Hand S' H' hd ∧ All2 (sI S') acc ((cells.take i).map plC)) (Ext.refl hS) ?_ ⟨hH, .nil⟩ (fun _ _ _ _ _ e _ => SqL.of (e.i _ _ (e.s _ _ hca))) (fun i x acc S4 H4 H5 Kt Kf hi e4 p4 hy kt kf => ?_) fun d acc S4 H4 hd4 e4 hs4 he4 _ p4 => ?_⟩
    · rintro i acc S' H' d o hd0 ⟨g, rest⟩
      exact ⟨g.up' (hH.ne hd0), rest⟩
    · obtain ⟨rfl, hx⟩ := hy
      obtain ⟨hH4, al⟩ := p4
      obtain ⟨c, f1, t, rfl, ht⟩ := hcs.get hx
      refine ⟨rfl, _, rfl, _, rfl, S4, hd, t, _, rfl, e4.i, hH4, .inr (e4.s _ _ ht), fun S6 H6 p e6 hH6 hp => kt _ S6 _ e6 ⟨hH6, ?_⟩⟩
      rw [take_get f1, List.map_append]
      exact (al.mono sI_m e6.s).snoc (all2_plC hp)
    · obtain ⟨hH4, al⟩ := p4
      rw [take_all cl] at al
      have fx := e4.fix hd4 hs4 he4
      have hHf := hH4.fx (o := .lst acc) hs4 (hH.ne hd4)
      refine ⟨_, hd, d, acc, rfl, fx.i, hHf, .inl upd_same, fun S5 H5 p5 e5 hH5 hp5 => ?_⟩
      have e45 := fx.trans e5
      have hcells : sR sI S5 (.ref p5) (cells.map plC) := by
        have al5 := al.mono sI_m ((same_upd (o := .lst acc) hs4).trans e5.s)
        exact hp5.imp (fun z => ⟨p5, acc, rfl, z, al5⟩) fun z => ⟨p5, acc, rfl, z, al5⟩
      have mk : ∀ (S6 H6 : Hp) (lv : V), Ext (· = hd) S H S6 H6 → Hand S6 H6 hd → Same S5 S6 → ((lv = .non ∧ ls = List.range cells.length) ∨ sI S6 lv (toI ls)) → ∀ x dx, H6 x = none → H6 dx = none → dx ≠ x →
          sp_Mould_init (.ref x :: [.int (h : Int), .int (w' : Int), .ref p5, lv]) (upd (upd H6 dx (.own x)) x (.ins C_Mould dx [])) (fun v H2 => v = .non ∧ Q (.ref x) H2) E0 := fun S6 H6 lv e6 hH6 k56 hlv x dx hx hdx hne => by
        have hx' : upd H6 dx (.own x) x = none := by rw [upd_ne hne.symm]; exact hx
        have E1 := (Ext.refl (m := No) e6.i).newM (o := .own x) hdx
        have E2 := E1.newM (o := .ins C_Mould dx []) hx'
        have nx := none_of_same e6.i hx
        refine ⟨S6, x, dx, .ref p5, lv, h, w', cells, ls, rfl, E2.i, nx, upd_same, by have := ok.h1; omega, by have := ok.h4; omega, by have := ok.w1; omega, by have := ok.w4; omega, sR_m sI_m _ _ _ _ k56 hcells, cells_of ok.sub, hlv, ok.ll, by omega, ok.lo, fun S7 H7 e7 s7 h7 hm => ⟨rfl, ?_⟩⟩
        cases hxx : H7 x with
        | none => exact absurd hxx h7
        | some ob =>
          have E3 : Ext No S6 H6 S7 H7 := by
            refine ⟨e7.s, e7.i, fun b o z hb => ?_, fun b hb => e7.d b ?_, fun b hb hs => e7.n b ?_ hs⟩
            · have hbx : b ≠ x := ne_of_none hb hx
              exact e7.h b o hbx (E2.h b o z hb)
            · exact E2.d b hb
            · exact E2.d b hb
          have E4 := E3.fix hx s7 hxx
          exact q _ _ _ (e6.trans E4.weak) (hH6.keep E4) (hm ob hxx)
      have kla : ∀ S' H', Ext (· = hd) S H S' H' → S' la = some (.lst ((toI ls).map V.int)) := fun S' H' e => by rw [toV]; exact e.s _ _ hla
      refine gName_run ?_
      dsimp only
      refine tif (fun b H' => Ext (· = hd) S H S5 H' ∧ Hand S5 H' hd ∧ (b = true → ls = List.range cells.length)) (fun Kk hK => ?_) (fun H6 p6 => ?_) (fun H6 p6 => ?_)
      · have h5 := o1 _ (e45.s.trans e45.i)
        refine ⟨_, rfl, _, _, _, _, rfl, rfl, h5, atI_nat (j := 3) rfl, _, rfl, _, _, _, _, rfl, rfl, h5, atI_nat (j := 2) rfl, ca, cvs, rfl, .inl (SqL.of (e45.i _ _ (e45.s _ _ hca))), _, rfl, RgOk.of_le (by omega) (by omega) (by omega) (by omega), fun p7 h7 => ?_⟩
        have e7 := (Ext.refl (m := No) e45.i).newM (o := .lst (rgV 0 (cvs.length : Nat))) h7
        have e57 := e45.trans e7.weak
        have hH7 := hH5.keep e7
        refine ⟨.list ((toI ls).map PyData.int), .list ((toI (List.range cells.length)).map PyData.int), .lst (SqL.of (e57.i _ _ (kla _ _ e57))) (dp_ints _), .lst (SqL.of (by rw [upd_same, rgV0, cl, toV])) (dp_ints _), PySem.W.ke_shaped_ints _, PySem.W.ke_shaped_ints _, _, rfl, ?_⟩
        show if PyData.eqvAll ((toI ls).map PyData.int) ((toI (List.range cells.length)).map PyData.int) = true then _ else _
        rw [eqv_ints]
        refine ifD (fun z => ?_) fun _ => hK _ _ ⟨e57, hH7, fun z => by cases z⟩
        have lsr : ls = List.range cells.length := by
          have inj : ∀ a b : List Nat, toI a = toI b → a = b := by
            intro a
            induction a with
            | nil => intro b hb; cases b with | nil => rfl | cons => cases hb
            | cons x a ih =>
              intro b hb
              cases b with
              | nil => cases hb
              | cons y b =>
                have h1 : (x : Int) :: toI a = (y : Int) :: toI b := hb
                obtain ⟨h2, h3⟩ := List.cons.inj h1
                rw [Int.ofNat.inj h2, ih b h3]
          exact inj _ _ z
        refine ⟨_, rfl, S5, hd, 2, rfl, e57.i, hH7, by decide, by decide, fun H8 r8 e8 hH8 hr8 => ⟨((r8 : Int) != 0), rfl, hK _ _ ⟨e57.trans e8, hH8, fun _ => lsr⟩⟩⟩
      · obtain ⟨e6, hH6, hl⟩ := p6
        have h6 := o1 _ (e6.s.trans e6.i)
        refine ⟨_, rfl, _, _, _, _, rfl, rfl, h6, atI_nat (j := 0) rfl, _, rfl, _, _, _, _, rfl, rfl, h6, atI_nat (j := 1) rfl, _, rfl, fun x dx hx hdx hne => ?_⟩
        exact mk S5 H6 .non e6 hH6 (Same.refl _) (.inl ⟨rfl, hl rfl⟩) x dx hx hdx hne
      · obtain ⟨e6, hH6, hl⟩ := p6
        have h6 := o1 _ (e6.s.trans e6.i)
        refine ⟨_, rfl, _, _, _, _, rfl, rfl, h6, atI_nat (j := 0) rfl, _, rfl, _, _, _, _, rfl, rfl, h6, atI_nat (j := 1) rfl, _, rfl, _, rfl, _, rfl, _, _, _, _, rfl, rfl, h6, atI_nat (j := 3) rfl, S5, hd, la, _, rfl, e6.i, hH6, .inl (kla _ _ e6), fun S8 H8 p8 e8 hH8 hp8 x dx hx hdx hne => ?_⟩
        exact mk S8 H8 (.ref p8) (e6.trans e8) hH8 e8.s (.inr (hp8.imp (fun z => ⟨p8, rfl, z⟩) fun z => ⟨p8, rfl, z⟩)) x dx hx hdx hne
end Th

/-! part DY -/
namespace Th
open PySem PySem.Spec PyProof.Rows L2

def sp_law_passed : Sp := fun vs H Q _ => ∃ S hd v bk, vs = [.ref hd, v] ∧ Same S H ∧ Hand S H hd ∧ lR askT S v bk ∧ bk.length ≤ 1000 ∧ ∀ S' H' u, Ext (· = hd) S H S' H' → Hand S' H' hd → sR askIn S' u bk → Q u H'
theorem ok_law_passed {P : Program} {w : World} {K : PySem.W.Frag} {mg : Str → Option Value} {base : Heap} (T : Tx K mg) : FnOk P w K mg base CX0 4 A_law_passed (fdAt K A_law_passed) P_law_passed sp_law_passed := by
  refine (fn_law_passed T).ok sc_law_passed (fun vs H Q E h => ?_) (fun cdv A outer s H vs Q E hr h => ?_)
  · obtain ⟨S, hd, v, bk, rfl, _⟩ := h; rfl
  · obtain ⟨S, hd, v, bk, rfl, hS, hH, ⟨ba, bvs, rfl, hba, hbs⟩, hl, q⟩ := h
    refine ⟨_, PSs.nox (pss_one (ps_ret (pe_call (ok_law_either T) hr (by rfl) (g_law_either T) (fn_law_either T).kp (b_law_either T) .nil pass0 (pa_cons (pv 0) (pa_cons (pe_lc (own := [("_law_ask_here", 2)]) (g := gName 2) rfl sc_law_passed.nd (pi_list (pv 1)) (blkOk_by (N := N_law_passed) (sc := defScope st_law_passed) (by decide +kernel)) (fun _ _ _ _ _ => (pg_name (i := 2) sc_law_passed.nd rfl (.inl rfl))) (fun _ _ _ _ _ => pts_nil) (fun _ _ _ _ _ => (pe_call (ok_law_either T) hr (by rfl) (g_law_either T) (fn_law_either T).kp (b_law_either T) .nil pass0 (pa_cons (pv 0) (pa_cons (pe_lst (pa_cons (pe_ix (show IxR _ (rIxT K) from ix_tup) (pv 2) pe_int (fun _ _ => rfl)) (pa_cons (pe_call (ok_law_either T) hr (by rfl) (g_law_either T) (fn_law_either T).kp (b_law_either T) .nil pass0 (pa_cons (pv 0) (pa_cons (pe_ix (show IxR _ (rIxT K) from ix_tup) (pv 2) pe_int (fun _ _ => rfl)) pa_nil))) pa_nil))) pa_nil))))) pa_nil))))), ?_⟩
    have bl := hbs.len
    refine ⟨_, rfl, _, rfl, ba, rfl, ⟨_, SqL.of (hS _ _ hba)⟩, lcE (m := (· = hd)) (S0 := S) (H0 := H) (σ := [some (.ref hd), some (.ref ba), none]) (walk_list (xs := bvs)) (by omega) hH.there
      (fun i acc S' H' => Hand S' H' hd ∧ All2 (askIn S') acc (bk.take i)) (Ext.refl hS) ?_ ⟨hH, .nil⟩ (fun _ _ _ _ _ e _ => SqL.of (e.i _ _ (e.s _ _ hba))) (fun i x acc S4 H4 H5 Kt Kf hi e4 p4 hy kt kf => ?_) fun d acc S4 H4 hd4 e4 hs4 he4 _ p4 => ?_⟩
    · rintro i acc S' H' d o hd0 ⟨g, rest⟩
      exact ⟨g.up' (hH.ne hd0), rest⟩
    · obtain ⟨rfl, hx⟩ := hy
      obtain ⟨hH4, al⟩ := p4
      obtain ⟨ak, f1, t, nv, rfl, ht, na, rfl, hna⟩ := hbs.get hx
      have ht4 := e4.i _ _ (e4.s _ _ ht)
      refine ⟨rfl, _, rfl, _, rfl, _, _, _, _, rfl, rfl, SqT.of ht4, atI_nat (j := 0) rfl, _, rfl, _, rfl, _, _, _, _, rfl, rfl, SqT.of ht4, atI_nat (j := 1) rfl, S4, hd, na, _, rfl, e4.i, hH4, .inr (e4.s _ _ hna), fun S6 H6 p6 e6 hH6 hp6 => ⟨(by show (2 : Nat) ≤ sizeLine; decide), fun p7 h7 => ?_⟩⟩
      have e7 := (Ext.refl (m := No) e6.i).new (o := .lst [.str (kS ak.1), .ref p6]) h7
      have kk := e7.s
      refine ⟨_, hd, p7, _, rfl, e7.i, hH6.keep e7, .inl upd_same, fun S8 H8 p8 e8 hH8 hp8 => kt _ S8 _ ((e6.trans e7.weak).trans e8) ⟨hH8, ?_⟩⟩
      rw [take_get f1]
      refine (al.mono askIn_m ((e6.s.trans kk).trans e8.s)).snoc ⟨p8, .ref p6, rfl, hp8, ?_⟩
      exact sI_m _ _ _ _ (kk.trans e8.s) (hp6.imp (fun z => ⟨p6, rfl, z⟩) fun z => ⟨p6, rfl, z⟩)
    · obtain ⟨hH4, al⟩ := p4
      rw [take_all bl] at al
      have fx := e4.fix hd4 hs4 he4
      refine ⟨_, hd, d, acc, rfl, fx.i, hH4.fx hs4 (hH.ne hd4), .inl upd_same, fun S5 H5 p5 e5 hH5 hp5 => ?_⟩
      have al5 := al.mono askIn_m ((same_upd (o := .lst acc) hs4).trans e5.s)
      exact q _ _ _ (fx.trans e5) hH5 (hp5.imp (fun z => ⟨p5, acc, rfl, z, al5⟩) fun z => ⟨p5, acc, rfl, z, al5⟩)
end Th

/-! part DZ -/
namespace Th
open PySem PySem.Spec PyProof.Rows L2

def sp_law_divisor : Sp := fun vs H Q _ => ∃ S v row, vs = [v] ∧ Same S H ∧ lI S v row ∧ Q (.int (gcdRow 0 row)) H
theorem ok_law_divisor {P : Program} {w : World} {K : PySem.W.Frag} {mg : Str → Option Value} {base : Heap} (T : Tx K mg) : FnOk P w K mg base CX0 1 A_law_divisor (fdAt K A_law_divisor) P_law_divisor sp_law_divisor := by
  refine (fn_law_divisor T).ok sc_law_divisor (fun vs H Q E h => ?_) (fun cdv A outer s H vs Q E hr h => ?_)
  · obtain ⟨S, v, row, rfl, _⟩ := h; rfl
  · obtain ⟨S, v, row, rfl, hS, ⟨a, rfl, ha⟩, q⟩ := h
    refine ⟨_, PSs.nox (pss_cons (ps_set (i := 1) sc_law_divisor.nd rfl (.inl rfl) pe_int)
      (pss_cons (ps_for PassesOwn.never rfl (pi_list (pv 0)) (pg_name (i := 2) sc_law_divisor.nd rfl (.inl rfl))
      (pss_cons (ps_set (i := 3) sc_law_divisor.nd rfl (.inl rfl) (pe_callB call_abs (by rfl) (f_abs T) bt_abs (pa_cons (pv 2) pa_nil)))
      (pss_one (ps_while PassesOwn.never (pt_cmpR op_ne (pv 3) pe_int (nomark _)) (pss_one (ps_par (i := 1) (j := 3) (by rfl) sc_law_divisor.nd rfl rfl (by decide) rfl rfl (pa_cons (pv 3) (pa_cons (pe_op op_modN (pv 1) (pv 3)) pa_nil)) (by rfl)))))))
      (pss_one (ps_ret (pv 1))))), ?_⟩
    refine ⟨_, rfl, a, rfl, ⟨_, SqL.of (hS _ _ ha)⟩, forE (S0 := S) (H0 := H) (m := No) (σ := [some (.ref a), some (.int 0), none, none]) (walk_list (xs := row.map V.int))
      (fun i σ S' H' => H' = H ∧ ∃ x2 x3, σ = [some (.ref a), some (.int (gcdRow 0 (row.take i))), x2, x3]) (Ext.refl hS) ⟨rfl, _, _, rfl⟩ (fun _ _ _ _ _ e _ => SqL.of (e.i _ _ (e.s _ _ ha))) (fun i x σ S5 H5 H6 hi e5 p5 hy => ?_) fun σ S5 H5 e5 p5 => ?_⟩
    · obtain ⟨rfl, x2, x3, rfl⟩ := p5
      obtain ⟨rfl, hx⟩ := hy
      obtain ⟨n, f1, rfl⟩ := map_get hx
      have g0 := gcdRow_nn (row.take i) (Int.le_refl 0)
      have gs : gcdRow 0 (row.take (i + 1)) = gI (gcdRow 0 (row.take i)) n := by rw [take_get f1, gcdRow_app]
      generalize gcdRow 0 (row.take i) = g at g0 gs
      refine ⟨_, rfl, _, rfl, ?_⟩
      refine ⟨fun k σ H' => H' = H6 ∧ ∃ x y : Int, 0 ≤ x ∧ 0 ≤ y ∧ σ = [some (.ref a), some (.int x), some (.int n), some (.int y)] ∧ k = y.natAbs ∧ gI x y = gI g n, ⟨_, rfl, _, _, g0, abs_nn n, rfl, rfl, ?_⟩, fun k σ H' hW => ?_⟩
      · have := gI_abs g n
        rw [if_neg (by omega)] at this; exact this
      obtain ⟨rfl, x, y, hx, hy, rfl, rfl, e⟩ := hW
      refine ⟨_, rfl, rfl, _, rfl, ?_⟩
      rw [dV]
      refine ifN (fun z => ?_) fun z => ?_
      · refine ⟨fun σ' H2 => H2 = H' ∧ ∃ x' y' : Int, 0 ≤ x' ∧ 0 ≤ y' ∧ σ' = [some (.ref a), some (.int x'), some (.int n), some (.int y')] ∧ y'.natAbs < y.natAbs ∧ gI x' y' = gI g n, fun σ' H2 ⟨h1, x', y', h2, h3, h4, h5, h6⟩ => ⟨_, h5, h1, x', y', h2, h3, h4, rfl, h6⟩, ?_⟩
        refine ⟨_, rfl, _, rfl, _, rfl, _, _, rfl, rfl, z, _, _, rfl, ?_⟩
        exact ⟨rfl, _, _, hy, (fmod_nn hx hy z).1, rfl, (fmod_nn hx hy z).2, (gI_step hx hy).trans e⟩
      · subst z
        rw [gI_zero_r hx] at e
        exact ⟨S5, e5, rfl, _, _, by rw [gs, ← e]⟩
    · obtain ⟨rfl, x2, x3, rfl⟩ := p5
      refine ⟨_, rfl, ?_⟩
      rw [List.length_map, List.take_length]; exact q
def sp_law_ratio : Sp := fun vs H Q _ => ∃ S, ∃ a b : Int, vs = [.int a, .int b] ∧ Same S H ∧ 0 < b ∧ b.natAbs < 2 ^ 8999 ∧ ∀ S' H' u, Ext No S H S' H' → ratR S' u (mkR a b) → Q u H'
theorem ok_law_ratio {P : Program} {w : World} {K : PySem.W.Frag} {mg : Str → Option Value} {base : Heap} (T : Tx K mg) : FnOk P w K mg base CX0 1 A_law_ratio (fdAt K A_law_ratio) P_law_ratio sp_law_ratio := by
  refine (fn_law_ratio T).ok sc_law_ratio (fun vs H Q E h => ?_) (fun cdv A outer s H vs Q E hr h => ?_)
  · obtain ⟨S, a, b, rfl, _⟩ := h; rfl
  · obtain ⟨S, a, b, rfl, hS, hb, hb9, q⟩ := h
    refine ⟨_, PSs.nox (pss_cons (ps_set (i := 2) sc_law_ratio.nd rfl (.inl rfl) (pe_callB call_abs (by rfl) (f_abs T) bt_abs (pa_cons (pv 0) pa_nil)))
      (pss_cons (ps_set (i := 3) sc_law_ratio.nd rfl (.inl rfl) (pv 1))
      (pss_cons (ps_while PassesOwn.never (pt_cmpR op_ne (pv 3) pe_int (nomark _)) (pss_one (ps_par (i := 2) (j := 3) (by rfl) sc_law_ratio.nd rfl rfl (by decide) rfl rfl (pa_cons (pv 3) (pa_cons (pe_op op_modN (pv 2) (pv 3)) pa_nil)) (by rfl))))
      (pss_one (ps_ret (pe_tup (pa_cons (pe_op op_fdivW (pv 0) (pv 2)) (pa_cons (pe_op op_fdivW (pv 1) (pv 2)) pa_nil)))))))), ?_⟩
    refine ⟨_, rfl, _, rfl, _, rfl, ?_⟩
    refine ⟨fun k σ H' => H' = H ∧ ∃ x y : Int, 0 ≤ x ∧ 0 ≤ y ∧ σ = [some (.int a), some (.int b), some (.int x), some (.int y)] ∧ k = y.natAbs ∧ gI x y = gI a b, ⟨_, rfl, _, _, abs_nn a, Int.le_of_lt hb, rfl, rfl, ?_⟩, fun k σ H' hW => ?_⟩
    · have := gI_abs a b
      rw [show (if b < 0 then -b else b) = b from if_neg (by omega)] at this; exact this
    obtain ⟨rfl, x, y, hx, hy, rfl, rfl, e⟩ := hW
    refine ⟨_, rfl, rfl, _, rfl, ?_⟩
    rw [dV]
    refine ifN (fun z => ?_) fun z => ?_
    · refine ⟨fun σ' H2 => H2 = H' ∧ ∃ x' y' : Int, 0 ≤ x' ∧ 0 ≤ y' ∧ σ' = [some (.int a), some (.int b), some (.int x'), some (.int y')] ∧ y'.natAbs < y.natAbs ∧ gI x' y' = gI a b, fun σ' H2 ⟨h1, x', y', h2, h3, h4, h5, h6⟩ => ⟨_, h5, h1, x', y', h2, h3, h4, rfl, h6⟩, ?_⟩
      refine ⟨_, rfl, _, rfl, _, rfl, _, _, rfl, rfl, z, _, _, rfl, ?_⟩
      exact ⟨rfl, _, _, hy, (fmod_nn hx hy z).1, rfl, (fmod_nn hx hy z).2, (gI_step hx hy).trans e⟩
    · subst z
      rw [gI_zero_r hx] at e
      subst e
      obtain ⟨g0, g9⟩ := gI_lt (a := a) (show b ≠ 0 by omega) hb9
      have w := fun i : Int => wide_div (i := i) g0 g9 (by decide) (by decide)
      refine ⟨_, rfl, _, rfl, _, _, rfl, rfl, w _, _, rfl, _, rfl, _, _, rfl, rfl, w _, two_le, fun p hp => ?_⟩
      refine q _ _ _ ((Ext.refl hS).new hp) ⟨p, _, _, rfl, upd_same, ?_, ?_⟩
      · rw [mkR_pos hb]; rfl
      · rw [mkR_pos hb]; rfl
def oN : Option Nat → V
  | none => .non
  | some c => .int (c : Int)
def sp_law_lead : Sp := fun vs H Q _ => ∃ S v row, vs = [v] ∧ Same S H ∧ lI S v row ∧ row.length ≤ 1000 ∧ Q (oN (lLead row)) H
theorem ok_law_lead {P : Program} {w : World} {K : PySem.W.Frag} {mg : Str → Option Value} {base : Heap} (T : Tx K mg) : FnOk P w K mg base CX0 1 A_law_lead (fdAt K A_law_lead) P_law_lead sp_law_lead := by
  refine (fn_law_lead T).ok sc_law_lead (fun vs H Q E h => ?_) (fun cdv A outer s H vs Q E hr h => ?_)
  · obtain ⟨S, v, row, rfl, _⟩ := h; rfl
  · obtain ⟨S, v, row, rfl, hS, ⟨a, rfl, ha⟩, hl, q⟩ := h
    refine ⟨_, PSs.nox (pss_cons (ps_for PassesOwn.never rfl (pi_range1 (by rfl) (f_range T) (pa_cons (pe_callB call_len_seq (by rfl) (f_len T) bt_len (pa_cons (pv 0) pa_nil)) pa_nil)) (pg_name (i := 1) sc_law_lead.nd rfl (.inl rfl))
      (pss_one (ps_if (pt_cmpR op_ne (pe_ix ix_list (pv 0) (pv 1) (fun _ _ => rfl)) pe_int (nomark _))
      (pss_one (ps_ret (pv 1)))
      pss_nil)))
      (pss_one (ps_ret pe_non))), ?_⟩
    refine ⟨_, rfl, a, _, rfl, .inl (SqL.of (hS _ _ ha)), ?_⟩
    rw [List.length_map]
    refine ⟨(row.length : Int), rfl, by omega, by omega, forE (S0 := S) (H0 := H) (m := No) (σ := [some (.ref a), none]) walk0 (fun i σ S' H' => H' = H ∧ (∃ x1, σ = [some (.ref a), x1]) ∧ ∀ j, j < i → row.getD j 0 = 0) (Ext.refl hS) ⟨rfl, ⟨_, rfl⟩, fun j hj => by omega⟩ (fun _ _ _ _ _ _ _ => trivial)
      (fun i x σ S5 H5 H6 hi e5 p5 hy => ?_) fun σ S5 H5 e5 p5 => ?_⟩
    · obtain ⟨rfl, ⟨x1, rfl⟩, hz⟩ := p5
      obtain ⟨rfl, rfl⟩ := hy
      obtain ⟨y1, y2⟩ := int_ix (K := K) hS ha hi
      refine ⟨_, rfl, _, rfl, _, _, _, _, rfl, rfl, y1, y2, rfl, _, rfl, ?_⟩
      rw [dV]
      refine ifN (fun z => ?_) fun z => ?_
      · refine ⟨_, rfl, ?_⟩
        have : lLead row = some i := by
          unfold lLead
          refine List.findIdx?_eq_some_iff_getElem.mpr ⟨hi, ?_, fun j hj => ?_⟩
          · rw [List.getD_eq_getElem?_getD, List.getElem?_eq_getElem hi] at z
            exact decide_eq_true z
          · have := hz j hj
            rw [List.getD_eq_getElem?_getD, List.getElem?_eq_getElem (by omega)] at this
            intro y
            exact of_decide_eq_true y this
        rw [this] at q
        exact q
      · exact ⟨S5, e5, rfl, ⟨_, rfl⟩, fun j hj => by
          rcases Nat.lt_succ_iff_lt_or_eq.mp hj with w | w
          · exact hz j w
          · rw [w]; exact z⟩
    · obtain ⟨rfl, ⟨x1, rfl⟩, hz⟩ := p5
      have : lLead row = none := by
        unfold lLead
        refine List.findIdx?_eq_none_iff.mpr fun y hy => ?_
        obtain ⟨j, hj⟩ := List.mem_iff_getElem?.mp hy
        have := hz j (List.getElem?_eq_some_iff.mp hj).1
        rw [List.getD_eq_getElem?_getD, hj] at this
        exact decide_eq_false fun w => w this
      rw [this] at q
      exact q
def sp_law_unit : Sp := fun vs H Q _ => ∃ S, ∃ m l : Nat, vs = [.int (m : Int), .int (l : Int)] ∧ Same S H ∧ m ≤ 1000 ∧ ∀ S' H' u, Ext No S H S' H' → lI S' u (unitRow m l) → Q u H'
theorem ok_law_unit {P : Program} {w : World} {K : PySem.W.Frag} {mg : Str → Option Value} {base : Heap} (T : Tx K mg) : FnOk P w K mg base CX0 1 A_law_unit (fdAt K A_law_unit) P_law_unit sp_law_unit := by
  refine (fn_law_unit T).ok sc_law_unit (fun vs H Q E h => ?_) (fun cdv A outer s H vs Q E hr h => ?_)
  · obtain ⟨S, m, l, rfl, _⟩ := h; rfl
  · obtain ⟨S, m, l, rfl, hS, hm, q⟩ := h
    refine ⟨_, PSs.nox (pss_one (ps_ret (pe_lc (own := [("_law_other", 2)]) (g := gName 2) rfl sc_law_unit.nd (pi_range1 (by rfl) (f_range T) (pa_cons (pv 0) pa_nil)) (blkOk_by (N := N_law_unit) (sc := defScope st_law_unit) (by decide +kernel)) (fun _ _ _ _ _ => (pg_name (i := 2) sc_law_unit.nd rfl (.inl rfl))) (fun _ _ _ _ _ => pts_nil) (fun _ _ _ _ _ => (pe_ifExp (pt_cmpR op_eq (pv 2) (pv 1) (nomark _)) pe_int pe_int))))), ?_⟩
    refine ⟨_, rfl, (m : Int), rfl, by omega, by omega, lcP (σ := [some (.int (m : Int)), some (.int (l : Int)), none]) walk0 (by omega) (fun i acc _ => acc = ((List.range i).map fun i => if i = l then (1 : Int) else 0).map V.int) (Ext.refl hS) rfl (fun _ _ _ _ _ _ _ => trivial) (fun i x acc S2 H2 H3 Kt Kf hi e p hy kt kf => ?_) fun d acc S2 H2 hd e hs he _ p => ?_⟩
    · obtain ⟨rfl, rfl⟩ := hy
      subst p
      have fin : ∀ n : Int, n = (if i = l then (1 : Int) else 0) → Kt (.int n) H3 := fun n hn => kt _ S2 _ (Ext.refl e.i) (by rw [range_snoc, List.map_append, hn]; rfl)
      refine ⟨rfl, _, rfl, _, rfl, rfl, _, rfl, ?_⟩
      rw [dV]
      exact ifD (fun z => fin 1 (by rw [if_pos (by omega)])) fun z => fin 0 (by rw [if_neg (by omega)])
    · exact q _ _ _ (e.fix hd hs he) ⟨d, rfl, by rw [upd_same, p]; rfl⟩
end Th

/-! part EA -/
namespace Th
open PySem PySem.Spec PyProof.Rows L2

def keptR : Rp (Nat × List Int) := pR rN lI
theorem keptR_m : MonoR keptR := pR_m rN_m lI_m
theorem kept_at {S : Hp} {vs : List V} {K : Kept} {i : Nat} {v : V} (h : All2 (keptR S) vs K) (e : vs[i]? = some v) : ∃ t ra x, v = .ref t ∧ K[i]? = some x ∧ S t = some (.tup [.int (x.1 : Nat), .ref ra]) ∧ S ra = some (.lst (x.2.map V.int)) := by
  obtain ⟨x, f1, t, v1, v2, rfl, ht, hv1, ⟨ra, rfl, hra⟩⟩ := h.get e
  cases hv1
  exact ⟨t, ra, x, rfl, f1, ht, hra⟩
def sp_law_reduce : Sp := fun vs H Q _ => ∃ S ka kvs w K row, ∃ n b : Nat, vs = [.ref ka, w] ∧ Same S H ∧ H ka = some (.lst kvs) ∧ All2 (keptR S) kvs K ∧ lI S w row ∧ KeptOk n b K ∧ row.length = n ∧ Bd b row ∧ n ≤ 1000 ∧ K.length ≤ 1000 ∧ (b + 1) * 2 ^ K.length ≤ 8000 ∧
  ∀ S' H' u, Ext No S H S' H' → lI S' u (lReduce K row) → Q u H'
theorem ok_law_reduce {P : Program} {w : World} {K : PySem.W.Frag} {mg : Str → Option Value} {base : Heap} (T : Tx K mg) : FnOk P w K mg base CX0 2 A_law_reduce (fdAt K A_law_reduce) P_law_reduce sp_law_reduce := by
  refine (fn_law_reduce T).ok sc_law_reduce (fun vs H Q E h => ?_) (fun cdv A outer s H vs Q E hr h => ?_)
  · obtain ⟨S, ka, kvs, w, K, row, n, b, rfl, _⟩ := h; rfl
  · obtain ⟨S, ka, kvs, w', KK, row, n, b, rfl, hS, hka, hkv, ⟨ra, rfl, hra⟩, hK, hl, hb, hn, hkl, hsz, q⟩ := h
    refine ⟨_, PSs.nox (pss_cons (ps_set (i := 2) sc_law_reduce.nd rfl (.inl rfl) (pe_callTy call_list_of (by rfl) (f_list T) bt_list (pa_cons (pv 1) pa_nil)))
      (pss_cons (ps_for PassesOwn.never rfl (pi_list (pv 0)) (pg_tup (by rfl) (pgs_cons (pg_name (i := 3) sc_law_reduce.nd rfl (.inr rfl)) (pgs_cons (pg_name (i := 4) sc_law_reduce.nd rfl (.inr rfl)) pgs_nil)))
      (pss_one (ps_if (pt_cmpR op_ne (pe_ix ix_list (pv 2) (pv 3) (fun _ _ => rfl)) pe_int (nomark _))
      (pss_cons (ps_set (i := 5) sc_law_reduce.nd rfl (.inr rfl) (pe_ix ix_list (pv 2) (pv 3) (fun _ _ => rfl)))
      (pss_cons (ps_setLc (i := 2) (own := [("_law_number_here", 7), ("_law_mate", 8)]) (g := gTup K 2 (gCons (gName 7) (gCons (gName 8) (gNil)))) rfl sc_law_reduce.nd rfl rfl (sw_true rfl rfl rfl (by decide +kernel)) (pi_zip (by rfl) (f_zip T) (pa_cons (pv 2) (pa_cons (pv 4) pa_nil))) (blkOk_by (N := N_law_reduce) (sc := defScope st_law_reduce) (by decide +kernel)) (fun _ _ _ _ _ => (pg_tup (by rfl) (pgs_cons (pg_name (i := 7) sc_law_reduce.nd rfl (.inl rfl)) (pgs_cons (pg_name (i := 8) sc_law_reduce.nd rfl (.inl rfl)) pgs_nil)))) (fun _ _ _ _ _ => pts_nil) (fun _ _ _ _ _ => (pe_op op_sub (pe_op op_mulW (pv 7) (pe_ix (show IxR _ (rIxL K) from ix_list) (pv 4) (pv 3) (fun _ _ => rfl))) (pe_op op_mulW (pv 5) (pv 8)))))
      (pss_cons (ps_set (i := 6) sc_law_reduce.nd rfl (.inr rfl) (pe_call (ok_law_divisor T) hr (by rfl) (g_law_divisor T) (fn_law_divisor T).kp (b_law_divisor T) .nil pass0 (pa_cons (pv 2) pa_nil)))
      (pss_one (ps_if (pt_cmpR op_gt (pv 6) pe_int (nomark _))
      (pss_one (ps_setLc (i := 2) (own := [("_law_number_here", 7)]) (g := gName 7) rfl sc_law_reduce.nd rfl rfl (sw_true rfl rfl rfl (by decide +kernel)) (pi_list (pv 2)) (blkOk_by (N := N_law_reduce) (sc := defScope st_law_reduce) (by decide +kernel)) (fun _ _ _ _ _ => (pg_name (i := 7) sc_law_reduce.nd rfl (.inl rfl))) (fun _ _ _ _ _ => pts_nil) (fun _ _ _ _ _ => (pe_op op_fdivW (pv 7) (pv 6)))))
      pss_nil)))))
      pss_nil)))
      (pss_one (ps_ret (pv 2))))), ?_⟩
    have kl := hkv.len
    refine ⟨_, rfl, ra, _, rfl, .inl (SqL.of (hS _ _ hra)), fun p1 h1 => ?_⟩
    have e1 := (Ext.refl (m := No) hS).new (o := .lst (row.map V.int)) h1
    have hka1 := e1.h _ _ (fun z => z) hka
    refine ⟨_, rfl, ka, rfl, ⟨_, SqL.of hka1⟩, forE (S0 := S) (H0 := H) (m := No) (σ := [some (.ref ka), some (.ref ra), some (.ref p1), none, none, none, none, none, none]) (walk_list (xs := kvs))
      (fun i σ S' H' => ∃ t x3 x4 x5 x6, σ = [some (.ref ka), some (.ref ra), some (.ref t), x3, x4, x5, x6, none, none] ∧ S' t = some (.lst ((lReduce (KK.take i) row).map V.int))) e1 ⟨p1, _, _, _, _, rfl, upd_same⟩ (fun _ _ _ _ _ e _ => SqL.of (e.h _ _ (fun z => z) hka)) (fun i x σ S5 H5 H6 hi e5 p5 hy => ?_) fun σ S5 H5 e5 p5 => ?_⟩
    · obtain ⟨t, x3, x4, x5, x6, rfl, ht⟩ := p5
      obtain ⟨rfl, hx⟩ := hy
      obtain ⟨pt, oa, pr, rfl, f1, hpt, hoa⟩ := kept_at (hkv.mono keptR_m e5.s) hx
      have il := (List.getElem?_eq_some_iff.mp f1).1
      obtain ⟨g1, g2, g3, g4⟩ := hK.row i pr f1
      obtain ⟨r1, r2, _⟩ := red_ok hK hl hb i (by omega)
      have rs : lReduce (KK.take (i + 1)) row = lStep (lReduce (KK.take i) row) pr := by unfold lReduce; rw [take_snoc f1, List.foldl_append]; rfl
      have szi : (b + 1) * 2 ^ i * 2 ≤ 8000 := by
        have h1 : (b + 1) * 2 ^ (i + 1) ≤ (b + 1) * 2 ^ KK.length := Nat.mul_le_mul_left _ (Nat.pow_le_pow_right (by decide) il)
        rw [Nat.pow_succ, ← Nat.mul_assoc] at h1
        omega
      generalize lReduce (KK.take i) row = left at ht r1 r2 rs
      obtain ⟨y1, y2⟩ := int_ix (K := K) e5.i ht (show pr.1 < left.length by omega)
      refine ⟨pt, _, rfl, SqT.of (e5.i _ _ hpt), rfl, _, _, rfl, _, _, rfl, rfl, ?_⟩
      refine ⟨_, rfl, _, rfl, _, _, _, _, rfl, rfl, y1, y2, rfl, _, rfl, ?_⟩
      rw [dV]
      refine ifN (fun z => ?_) fun z => ?_
      · refine ⟨_, rfl, _, rfl, _, _, _, _, rfl, rfl, y1, y2, ?_⟩
        obtain ⟨z1, z2⟩ := int_ix (K := K) e5.i hoa (show pr.1 < pr.2.length by omega)
        have es : lStep left pr = plainRow (lMix left pr) := if_pos z
        have mb := lMix_bd (p := pr) r2 g3
        have mlen := lMix_len (left := left) (p := pr) (by omega)
        have pos : 0 < (b + 1) * 2 ^ i := Nat.mul_pos (by omega) (Nat.two_pow_pos _)
        refine ⟨_, rfl, _, rfl, t, oa, _, _, rfl, SqL.of (e5.i _ _ ht), SqL.of (e5.i _ _ hoa), lcP (S0 := S5) (H0 := H6) (σ := [some (.ref ka), some (.ref ra), some (.ref t), some (.int (pr.1 : Nat)), some (.ref oa), some (.int (left.getD pr.1 0)), x6, none, none]) (walk_zip (xs := left.map V.int) (ys := pr.2.map V.int) (n := n) (by rw [List.length_map, List.length_map]; omega)) (by omega)
          (fun j acc _ => acc = (List.zipWith (fun a b => a * pr.2.getD pr.1 0 - left.getD pr.1 0 * b) (left.take j) (pr.2.take j)).map V.int) (Ext.refl e5.i) rfl (fun _ _ _ _ _ e _ => ⟨SqL.of (e.i _ _ (e.s _ _ ht)), SqL.of (e.i _ _ (e.s _ _ hoa))⟩) (fun j x acc S2 H2 H3 Kt Kf hj e p hy kt kf => ?_) fun d acc S2 H2 hd e hs he _ p => ?_⟩
        · obtain ⟨tt, x', y', rfl, hT, rfl, q1, q2⟩ := hy
          subst p
          obtain ⟨n1, f1', rfl⟩ := map_get q1
          obtain ⟨n2, f2', rfl⟩ := map_get q2
          have m1 := r2 _ (List.mem_of_getElem? f1')
          have m2 := g3 _ (List.mem_of_getElem? f2')
          have e7 := (Ext.refl (m := No) e.i).newM (o := .tup [.int n1, .int n2]) hT
          have z1' : SqL K (upd H2 tt (.tup [.int n1, .int n2])) oa (pr.2.map V.int) := SqL.of (e7.i _ _ (e.s _ _ hoa))
          refine ⟨tt, _, rfl, SqT.of upd_same, rfl, _, _, rfl, _, _, rfl, rfl, wipe2 rfl rfl, ?_⟩
          refine ⟨_, rfl, _, rfl, _, rfl, _, _, _, _, rfl, rfl, z1', z2, _, _, rfl, rfl, mulW m1 (g3.at_ _) (by omega), _, rfl, _, rfl, _, _, rfl, rfl, mulW (r2.at_ _) m2 (by omega), _, _, rfl, rfl, ?_⟩
          refine kt _ S2 _ e7 ?_
          rw [zipWith_take _ f1' f2', List.map_append]; rfl
        · rw [take_all (show n = left.length by omega), take_all (show n = pr.2.length by omega)] at p
          have pm : acc = (lMix left pr).map V.int := p
          have fx := e.fix hd hs he
          have hdd : upd S2 d (.lst acc) d = some (.lst acc) := upd_same
          generalize upd S2 d (.lst acc) = S3 at fx hdd
          rw [pm] at hdd
          have E := e5.trans fx
          refine ⟨_, rfl, S3, _, lMix left pr, rfl, fx.i, ⟨d, rfl, hdd⟩, ?_⟩
          refine ⟨_, rfl, _, _, rfl, rfl, _, rfl, ifD (fun zg => ?_) fun zg => ?_⟩
          · have w : ∀ i, CDivW i (gcdRow 0 (lMix left pr)) := fun i => wide_div (b := 9000) (i := i) (by omega) (Nat.lt_of_lt_of_le (gcdRow_bd mb) (Nat.pow_le_pow_right (by decide) (by omega))) (by decide) (by decide)
            refine ⟨_, rfl, d, rfl, ⟨_, SqL.of (fx.i _ _ hdd)⟩, lcP (S0 := S3) (H0 := H2) (σ := [some (.ref ka), some (.ref ra), some (.ref d), some (.int (pr.1 : Nat)), some (.ref oa), some (.int (left.getD pr.1 0)), some (.int (gcdRow 0 (lMix left pr))), none, none]) (walk_list (xs := (lMix left pr).map V.int)) (by rw [List.length_map]; omega)
              (fun j acc _ => acc = ((lMix left pr).take j).map fun n => V.int (n / gcdRow 0 (lMix left pr))) (Ext.refl fx.i) rfl (fun _ _ _ _ _ e _ => SqL.of (e.i _ _ (e.s _ _ hdd))) (fun j x acc S7 H7 H8 Kt Kf hj e7 p7 hy kt kf => ?_) fun d2 acc7 S7 H7 hd7 e7 hs7 he7 _ p7 => ?_⟩
            · obtain ⟨rfl, hx2⟩ := hy
              subst p7
              obtain ⟨n1, f3, rfl⟩ := map_get hx2
              refine ⟨rfl, _, rfl, _, rfl, _, _, rfl, rfl, w _, ?_⟩
              exact kt _ S7 _ (Ext.refl e7.i) (by rw [take_get f3, List.map_append]; rfl)
            · rw [take_all (show ((lMix left pr).map V.int).length = (lMix left pr).length from List.length_map ..)] at p7
              refine ⟨_, E.trans (e7.fix hd7 hs7 he7), d2, _, _, _, _, rfl, ?_⟩
              rw [upd_same, p7, rs, es]
              unfold plainRow
              rw [if_neg (by omega), List.map_map]; rfl
          · refine ⟨S3, E, d, _, _, _, _, rfl, ?_⟩
            rw [rs, es]
            unfold plainRow
            rw [if_pos (by omega)]; exact hdd
      · refine ⟨S5, e5, t, _, _, _, _, rfl, ?_⟩
        rw [rs, show lStep left pr = left from if_neg (fun y => y z)]; exact ht
    · obtain ⟨t, x3, x4, x5, x6, rfl, ht⟩ := p5
      rw [take_all kl] at ht
      exact ⟨_, rfl, q S5 _ _ e5 ⟨t, rfl, ht⟩⟩
def sp_law_echelon : Sp := fun vs H Q _ => ∃ S v rows, ∃ n : Nat, vs = [v] ∧ Same S H ∧ lR lI S v rows ∧ (∀ r ∈ rows, r.length = n ∧ Bd 33 r) ∧ n ≤ 5 ∧ rows.length ≤ 1000 ∧ ∀ S' H' u kvs, Ext No S H S' H' → S' u = some (.lst kvs) → All2 (keptR S') kvs (lEchelon rows) → Q (.ref u) H'
theorem kept_count {n b : Nat} {K : Kept} (h : KeptOk n b K) : K.length ≤ n := by
  have nd : (K.map Prod.fst).Nodup := by
    rw [List.nodup_iff_pairwise_ne]
    refine List.pairwise_iff_getElem.mpr fun i j hi hj hij e => ?_
    rw [List.length_map] at hi hj
    rw [List.getElem_map, List.getElem_map] at e
    have t := h.tri i j K[i] K[j] (List.getElem?_eq_getElem hi) (List.getElem?_eq_getElem hj) hij
    rw [e] at t
    exact (h.row j K[j] (List.getElem?_eq_getElem hj)).2.2.2 t
  have := nodup_le n _ nd fun x hx => by
    obtain ⟨p, hp, rfl⟩ := List.mem_map.mp hx
    obtain ⟨i, hi⟩ := List.mem_iff_getElem?.mp hp
    exact (h.row i p hi).2.1
  rw [List.length_map] at this
  exact this
theorem kept_sz {K : Kept} {n : Nat} (h : KeptOk n 33 K) (hn : n ≤ 5) : (33 + 1) * 2 ^ K.length ≤ 8000 := by
  have := kept_count h
  have h1 : (33 + 1) * 2 ^ K.length ≤ (33 + 1) * 2 ^ 5 := Nat.mul_le_mul_left _ (Nat.pow_le_pow_right (by decide) (by omega))
  omega
theorem ech_snoc (rows : List (List Int)) (r : List Int) : lEchelon (rows ++ [r]) = lAdd (lEchelon rows) r := by unfold lEchelon; rw [List.foldl_append]; rfl
theorem ok_law_echelon {P : Program} {w : World} {K : PySem.W.Frag} {mg : Str → Option Value} {base : Heap} (T : Tx K mg) : FnOk P w K mg base CX0 3 A_law_echelon (fdAt K A_law_echelon) P_law_echelon sp_law_echelon := by
  refine (fn_law_echelon T).ok sc_law_echelon (fun vs H Q E h => ?_) (fun cdv A outer s H vs Q E hr h => ?_)
  · obtain ⟨S, v, rows, n, rfl, _⟩ := h; rfl
  · obtain ⟨S, v, rows, n, rfl, hS, ⟨va, vs, rfl, hva, hvs⟩, hr2, hn, hl, q⟩ := h
    refine ⟨_, PSs.nox (pss_cons (ps_set (i := 1) sc_law_echelon.nd rfl (.inl rfl) (pe_lst pa_nil))
      (pss_cons (ps_for PassesOwn.never rfl (pi_list (pv 0)) (pg_name (i := 2) sc_law_echelon.nd rfl (.inl rfl))
      (pss_cons (ps_set (i := 3) sc_law_echelon.nd rfl (.inl rfl) (pe_call (ok_law_reduce T) hr (by rfl) (g_law_reduce T) (fn_law_reduce T).kp (b_law_reduce T) .nil pass0 (pa_cons (pv 1) (pa_cons (pv 2) pa_nil))))
      (pss_cons (ps_set (i := 4) sc_law_echelon.nd rfl (.inl rfl) (pe_call (ok_law_lead T) (hr.mono (by decide)) (by rfl) (g_law_lead T) (fn_law_lead T).kp (b_law_lead T) .nil pass0 (pa_cons (pv 3) pa_nil)))
      (pss_one (ps_if (pt_cmpR op_notN (pv 4) pe_non (nomark _))
      (pss_cons (ps_set (i := 5) sc_law_echelon.nd rfl (.inr rfl) (pe_call (ok_law_divisor T) (hr.mono (by decide)) (by rfl) (g_law_divisor T) (fn_law_divisor T).kp (b_law_divisor T) .nil pass0 (pa_cons (pv 3) pa_nil)))
      (pss_one (ps_expr (pe_bm PySem.F.plainAttrs_list PySem.F.slot_list_append PySem.F.type_list_append mt_append (pv 1) (pa_cons (pe_tup (pa_cons (pv 4) (pa_cons (pe_lc (own := [("_law_number_here", 6)]) (g := gName 6) rfl sc_law_echelon.nd (pi_list (pv 3)) (blkOk_by (N := N_law_echelon) (sc := defScope st_law_echelon) (by decide +kernel)) (fun _ _ _ _ _ => (pg_name (i := 6) sc_law_echelon.nd rfl (.inl rfl))) (fun _ _ _ _ _ => pts_nil) (fun _ _ _ _ _ => (pe_op op_fdivW (pv 6) (pv 5)))) pa_nil))) pa_nil)))))
      pss_nil)))))
      (pss_one (ps_ret (pv 1))))), ?_⟩
    have vl := hvs.len
    refine ⟨Nat.zero_le _, fun p1 h1 => ?_⟩
    have e1 := (Ext.refl (m := No) hS).newM (o := .lst []) h1
    refine ⟨_, rfl, va, rfl, ⟨_, SqL.of (e1.i _ _ hva)⟩, forE (S0 := S) (H0 := H) (m := No) (σ := [some (.ref va), some (.ref p1), none, none, none, none, none]) (walk_list (xs := vs))
      (fun i σ S' H' => ∃ x2 x3 x4 x5 kvs, σ = [some (.ref va), some (.ref p1), x2, x3, x4, x5, none] ∧ S' p1 = none ∧ H' p1 = some (.lst kvs) ∧ All2 (keptR S') kvs (lEchelon (rows.take i))) e1 ⟨_, _, _, _, [], rfl, none_of_same hS h1, upd_same, .nil⟩ (fun _ _ _ _ _ e _ => SqL.of (e.i _ _ (e.s _ _ hva))) (fun i x σ S5 H5 H6 hi e5 p5 hy => ?_) fun σ S5 H5 e5 p5 => ?_⟩
    · obtain ⟨x2, x3, x4, x5, kvs, rfl, s5, hp5, al⟩ := p5
      obtain ⟨rfl, hx⟩ := hy
      obtain ⟨row, f1, ra, rfl, hra⟩ := hvs.get hx
      obtain ⟨rl, rb⟩ := hr2 row (List.mem_of_getElem? f1)
      have hK := kept_all (n := n) (b := 33) (rows := rows.take i) fun r hr => hr2 r (List.mem_of_mem_take hr)
      have ksz := kept_sz hK hn
      have kc := kept_count hK
      have es := ech_snoc (rows.take i) row
      rw [← take_get f1] at es
      generalize lEchelon (rows.take i) = KK at al hK ksz kc es
      refine ⟨_, rfl, _, rfl, S5, p1, kvs, _, KK, row, n, 33, rfl, e5.i, hp5, al, ⟨ra, rfl, e5.s _ _ hra⟩, hK, rl, rb, by omega, by omega, ksz, fun S6 H7 u6 e6 hu6 => ?_⟩
      obtain ⟨r1, r2, _⟩ := red_ok hK rl rb KK.length (Nat.le_refl _)
      rw [List.take_length] at r1 r2
      have ead : lAdd KK row = match lLead (lReduce KK row) with
        | none => KK
        | some c => KK ++ [(c, (lReduce KK row).map fun n => n / gcdRow 0 (lReduce KK row))] := rfl
      generalize lReduce KK row = left at hu6 r1 r2 ead
      have s6 := e6.n p1 (ne_none hp5) s5
      have hp6 := e6.h p1 _ (fun z => z) hp5
      have al6 := al.mono keptR_m e6.s
      have e56 := e5.trans e6
      refine ⟨_, rfl, S6, u6, left, rfl, e6.i, hu6, by omega, ?_⟩
      cases hlead : lLead left with
      | none =>
        rw [hlead] at ead
        refine ⟨_, rfl, rfl, _, rfl, iteF ?_⟩
        refine ⟨S6, e56, _, _, _, _, kvs, rfl, s6, hp6, ?_⟩
        rw [es, ead]; exact al6
      | some c =>
        rw [hlead] at ead
        dsimp only at ead
        obtain ⟨l1, l2⟩ := lead_some hlead
        have g0 := gcd_pos l2
        have w : ∀ i, CDivW i (gcdRow 0 left) := fun i => wide_div (b := 9000) (i := i) g0 (Nat.lt_of_lt_of_le (gcdRow_bd r2) (Nat.pow_le_pow_right (by decide) (by omega))) (by decide) (by decide)
        refine ⟨_, rfl, rfl, _, rfl, iteT ?_⟩
        refine ⟨_, rfl, S6, u6, left, rfl, e6.i, hu6, ?_⟩
        obtain ⟨ua, rfl, hua⟩ := hu6
        refine ⟨_, rfl, .inl ⟨rfl, _, SqL.of hp6⟩, _, rfl, _, rfl, ua, rfl, ⟨_, SqL.of (e6.i _ _ hua)⟩, lcP (S0 := S6) (H0 := H7) (σ := [some (.ref va), some (.ref p1), some (.ref ra), some (.ref ua), some (.int (c : Int)), some (.int (gcdRow 0 left)), none]) (walk_list (xs := left.map V.int)) (by rw [List.length_map]; omega)
          (fun j acc _ => acc = (left.take j).map fun n => V.int (n / gcdRow 0 left)) (Ext.refl e6.i) rfl (fun _ _ _ _ _ e _ => SqL.of (e.i _ _ (e.s _ _ hua))) (fun j x acc S8 H8 H9 Kt Kf hj e8 p8 hy kt kf => ?_) fun d acc8 S8 H8 hd8 e8 hs8 he8 _ p8 => ?_⟩
        · obtain ⟨rfl, hx2⟩ := hy
          subst p8
          obtain ⟨n1, f3, rfl⟩ := map_get hx2
          refine ⟨rfl, _, rfl, _, rfl, _, _, rfl, rfl, w _, ?_⟩
          exact kt _ S8 _ (Ext.refl e8.i) (by rw [take_get f3, List.map_append]; rfl)
        · rw [take_all (show (left.map V.int).length = left.length from List.length_map ..)] at p8
          refine ⟨(by show (2 : Nat) ≤ sizeLine; decide), fun t ht => ?_⟩
          have fx := e8.fix hd8 hs8 he8
          have e9 := fx.new (o := .tup [.int (c : Int), .ref d]) ht
          have s9 := e9.n p1 (ne_none hp6) s6
          have hp9 := e9.h p1 _ (fun z => z) hp6
          have all := al.len
          refine ⟨p1, kvs, .ref t, rfl, rfl, hp9, szLt (by omega), ?_⟩
          refine ⟨_, (e56.trans e9).mut (.inl h1) s9, _, _, _, _, _, rfl, s9, upd_same, ?_⟩
          rw [es, ead]
          refine (al6.mono keptR_m e9.s).snoc ⟨t, _, _, rfl, upd_same, rfl, d, rfl, ?_⟩
          have tne := ne_of_none he8 ht
          rw [upd_ne tne, upd_same, p8, List.map_map]; rfl
    · obtain ⟨x2, x3, x4, x5, kvs, rfl, s5, hp5, al⟩ := p5
      rw [take_all vl] at al
      exact ⟨_, rfl, q _ _ _ _ (e5.fix h1 s5 hp5) upd_same (al.mono keptR_m (same_upd s5))⟩
def sp_law_tells : Sp := fun vs H Q _ => ∃ S v rows, ∃ n l : Nat, vs = [v, .int (n : Int), .int (l : Int)] ∧ Same S H ∧ lR lI S v rows ∧ (∀ r ∈ rows, r.length = n ∧ Bd 33 r) ∧ n ≤ 5 ∧ rows.length ≤ 1000 ∧ ∀ S' H', Ext No S H S' H' → Q (.bl (lTells rows n l)) H'
theorem ok_law_tells {P : Program} {w : World} {K : PySem.W.Frag} {mg : Str → Option Value} {base : Heap} (T : Tx K mg) : FnOk P w K mg base CX0 4 A_law_tells (fdAt K A_law_tells) P_law_tells sp_law_tells := by
  refine (fn_law_tells T).ok sc_law_tells (fun vs H Q E h => ?_) (fun cdv A outer s H vs Q E hr h => ?_)
  · obtain ⟨S, v, rows, n, l, rfl, _⟩ := h; rfl
  · obtain ⟨S, v, rows, n, l, rfl, hS, hv, hr2, hn, hl, q⟩ := h
    refine ⟨_, PSs.nox (pss_one (ps_ret (pe_cmpR op_isN (pe_call (ok_law_lead T) (hr.mono (by decide)) (by rfl) (g_law_lead T) (fn_law_lead T).kp (b_law_lead T) .nil pass0 (pa_cons (pe_call (ok_law_reduce T) (hr.mono (by decide)) (by rfl) (g_law_reduce T) (fn_law_reduce T).kp (b_law_reduce T) .nil pass0 (pa_cons (pe_call (ok_law_echelon T) hr (by rfl) (g_law_echelon T) (fn_law_echelon T).kp (b_law_echelon T) .nil pass0 (pa_cons (pv 0) pa_nil)) (pa_cons (pe_call (ok_law_unit T) (hr.mono (by decide)) (by rfl) (g_law_unit T) (fn_law_unit T).kp (b_law_unit T) .nil pass0 (pa_cons (pv 1) (pa_cons (pv 2) pa_nil))) pa_nil))) pa_nil)) pe_non (nomark _)))), ?_⟩
    refine ⟨_, rfl, S, v, rows, n, rfl, hS, hv, hr2, hn, hl, fun S1 H1 ka kvs e1 hka hkv => ?_⟩
    refine ⟨_, rfl, _, rfl, S1, n, l, rfl, e1.i, by omega, fun S2 H2 u2 e2 hu2 => ?_⟩
    have hK := kept_all hr2
    have ub : Bd 33 (unitRow n l) := (unit_ok n l).2.mono (by decide)
    obtain ⟨r1, r2, _⟩ := red_ok hK (unit_len n l) ub (lEchelon rows).length (Nat.le_refl _)
    rw [List.take_length] at r1 r2
    refine ⟨S2, ka, kvs, u2, lEchelon rows, unitRow n l, n, 33, rfl, e2.i, e2.i _ _ (e2.s _ _ hka), hkv.mono keptR_m e2.s, hu2, hK, unit_len n l, ub, by omega, by have := kept_count hK; omega, kept_sz hK hn, fun S3 H3 u3 e3 hu3 => ?_⟩
    refine ⟨S3, u3, _, rfl, e3.i, hu3, by omega, rfl, ?_⟩
    have e : decide (oN (lLead (lReduce (lEchelon rows) (unitRow n l))) = V.non) = lTells rows n l := by
      unfold lTells
      cases lLead (lReduce (lEchelon rows) (unitRow n l)) with
      | none => rfl
      | some c => rfl
    rw [e]
    exact q S3 H3 ((e1.trans e2).trans e3)
end Th

/-! part EB -/
namespace Th
open PySem PySem.Spec PyProof.Rows L2

def lineStep (a : Ask) (line : Nat) (r : List Int) (p : Cell × Nat) : List Int := if sideOf a.1 p.1 = line then r.set p.2 (r.getD p.2 0 + a.2.getD (othOf a.1 p.1) 0) else r
def lineRow (a : Ask) (many : Nat) (ps : List (Cell × Nat)) (line : Nat) : List Int := ps.foldl (lineStep a line) (List.replicate many 0)
theorem mat_lines (a : Ask) (L : Nat) : ∀ (ps : List (Cell × Nat)) (R : Nat → List Int), ps.foldl (matStep a) ((List.range L).map R) = (List.range L).map fun i => ps.foldl (lineStep a i) (R i)
  | [], _ => rfl
  | p :: ps, R => by
    rw [List.foldl_cons]
    have e : matStep a ((List.range L).map R) p = (List.range L).map fun i => lineStep a i (R i) p := by
      unfold matStep
      refine List.ext_getElem? fun j => ?_
      by_cases hj : j < L
      · by_cases hs : sideOf a.1 p.1 = j
        · subst hs
          rw [List.getElem?_set_self (by rw [List.length_map, List.length_range]; exact hj), List.getElem?_map, List.getElem?_range hj, List.getD_eq_getElem?_getD (l := (List.range L).map R), List.getElem?_map, List.getElem?_range hj]
          show some _ = some (lineStep a (sideOf a.1 p.1) (R (sideOf a.1 p.1)) p)
          unfold lineStep
          rw [if_pos rfl]; rfl
        · rw [List.getElem?_set_ne hs, List.getElem?_map, List.getElem?_map, List.getElem?_range hj]
          show some (R j) = some (lineStep a j (R j) p)
          unfold lineStep
          rw [if_neg hs]
      · rw [List.getElem?_eq_none (by rw [List.length_set, List.length_map, List.length_range]; omega), List.getElem?_eq_none (by rw [List.length_map, List.length_range]; omega)]
    rw [e, mat_lines a L ps]
    rfl
theorem askMat_lines (h w : Nat) (cells : List Cell) (ls : List Nat) (a : Ask) : askMat h w cells ls a = (List.range (linesOf h w a)).map (lineRow a (manyN ls) (cells.zip ls)) := by
  unfold askMat lineRow
  rw [← mat_lines, List.map_const']
  rw [List.length_range]
theorem line_len (a : Ask) (line : Nat) : ∀ (ps : List (Cell × Nat)) (r : List Int), (ps.foldl (lineStep a line) r).length = r.length
  | [], _ => rfl
  | p :: l, r => by
    rw [List.foldl_cons, line_len a line l]
    unfold lineStep
    split
    · exact List.length_set ..
    · rfl
theorem ifE2 {k : Bool} {ta tb : TE} {σ : L2.St} {H : Hp} {Q : VK} (P : V → Hp → Prop) (main : ∀ x H', P x H' → Q x H') (h1 : k = true → ∀ Q : VK, (∀ x H', P x H' → Q x H') → ta σ H Q) (h2 : k = false → ∀ Q : VK, (∀ x H', P x H' → Q x H') → tb σ H Q) : if k = true then ta σ H Q else tb σ H Q := by
  cases k with
  | true => exact iteT (h1 rfl Q main)
  | false => exact iteF (h2 rfl Q main)
def sp_law_span : Sp := fun vs H Q _ => ∃ S cv lv bv, ∃ h w : Nat, ∃ cells ls book, vs = [.int (h : Int), .int (w : Int), cv, lv, bv] ∧ Same S H ∧ lR cellP S cv cells ∧ natL S lv ls ∧ lR askT S bv book ∧ (∀ a ∈ book, AskOk h w a) ∧ CellsOk h w cells ∧ ls.length = cells.length ∧ h ≤ 100 ∧ w ≤ 100 ∧ manyN ls ≤ 100 ∧ cells.length ≤ 1000 ∧ book.length ≤ 100 ∧
  ∀ S' H' u, Ext No S H S' H' → lR lI S' u (spanRows h w cells ls book) → Q u H'
theorem ok_law_span {P : Program} {w : World} {K : PySem.W.Frag} {mg : Str → Option Value} {base : Heap} (T : Tx K mg) : FnOk P w K mg base CX0 2 A_law_span (fdAt K A_law_span) P_law_span sp_law_span := by
  refine (fn_law_span T).ok sc_law_span (fun vs H Q E h => ?_) (fun cdv A outer s H vs Q E hr h => ?_)
  · obtain ⟨S, cv, lv, bv, h, w', cells, ls, book, rfl, _⟩ := h; rfl
  · obtain ⟨S, cv, lv, bv, h, w', cells, ls, book, rfl, hS, ⟨ca, cvs, rfl, hca, hcs⟩, ⟨la, rfl, hla⟩, ⟨ba, bvs, rfl, hba, hbs⟩, hok, hco, hll, hh, hw, hmn, hcl, hbl, q⟩ := h
    refine ⟨_, PSs.nox (pss_cons (ps_set (i := 5) sc_law_span.nd rfl (.inl rfl) (pe_call (ok_law_many T) hr (by rfl) (g_law_many T) (fn_law_many T).kp (b_law_many T) .nil pass0 (pa_cons (pv 3) pa_nil)))
      (pss_cons (ps_set (i := 6) sc_law_span.nd rfl (.inl rfl) (pe_lst pa_nil))
      (pss_cons (ps_for PassesOwn.never rfl (pi_list (pv 4)) (pg_tup (by rfl) (pgs_cons (pg_name (i := 7) sc_law_span.nd rfl (.inl rfl)) (pgs_cons (pg_name (i := 8) sc_law_span.nd rfl (.inl rfl)) pgs_nil)))
      (pss_one (ps_for PassesOwn.never rfl (pi_range1 (by rfl) (f_range T) (pa_cons (pe_ifExp (pt_cmpR op_eq (pv 7) pe_str (nomark _)) (pv 0) (pv 1)) pa_nil)) (pg_name (i := 9) sc_law_span.nd rfl (.inl rfl))
      (pss_cons (ps_set (i := 10) sc_law_span.nd rfl (.inl rfl) (pe_op op_rep (pe_lst (pa_cons pe_int pa_nil)) (pv 5)))
      (pss_cons (ps_for PassesOwn.never rfl (pi_range1 (by rfl) (f_range T) (pa_cons (pe_callB call_len_seq (by rfl) (f_len T) bt_len (pa_cons (pv 2) pa_nil)) pa_nil)) (pg_name (i := 11) sc_law_span.nd rfl (.inl rfl))
      (pss_cons (ps_asg (pe_ifExp (pt_cmpR op_eq (pv 7) pe_str (nomark _)) (pe_ix ix_list (pv 2) (pv 11) (fun _ _ => rfl)) (pe_tup (pa_cons (pe_ix ix_tup (pe_ix ix_list (pv 2) (pv 11) (fun _ _ => rfl)) pe_int (fun _ _ => rfl)) (pa_cons (pe_ix ix_tup (pe_ix ix_list (pv 2) (pv 11) (fun _ _ => rfl)) pe_int (fun _ _ => rfl)) pa_nil)))) (pg_tup (by rfl) (pgs_cons (pg_name (i := 12) sc_law_span.nd rfl (.inl rfl)) (pgs_cons (pg_name (i := 13) sc_law_span.nd rfl (.inl rfl)) pgs_nil))))
      (pss_one (ps_if (pt_cmpR op_eq (pv 12) (pv 9) (nomark _))
      (pss_one (ps_asg (pe_op op_add (pe_ix ix_list (pv 10) (pe_ix ix_list (pv 3) (pv 11) (fun _ _ => rfl)) (fun _ _ => rfl)) (pe_ix ix_tup (pv 8) (pv 13) (fun _ _ => rfl))) (pg_sub (pv 10) (pe_ix ix_list (pv 3) (pv 11) (fun _ _ => rfl)) set_list)))
      pss_nil))))
      (pss_one (ps_expr (pe_bm PySem.F.plainAttrs_list PySem.F.slot_list_append PySem.F.type_list_append mt_append (pv 6) (pa_cons (pv 10) pa_nil)))))))))
      (pss_one (ps_ret (pv 6)))))), ?_⟩
    have cl := hcs.len
    refine ⟨_, rfl, la, ls, rfl, hS _ _ hla, Nat.zero_le _, fun p1 h1 => ?_⟩
    have e1 := (Ext.refl (m := No) hS).newM (o := .lst []) h1
    refine ⟨_, rfl, ba, rfl, ⟨_, SqL.of (e1.i _ _ hba)⟩, forE (S0 := S) (H0 := H) (m := No) (σ := [some (.int (h : Int)), some (.int (w' : Int)), some (.ref ca), some (.ref la), some (.ref ba), some (.int (manyN ls : Nat)), some (.ref p1), none, none, none, none, none, none, none]) (walk_list (xs := bvs))
      (fun i σ S' H' => ∃ x7 x8 x9 x10 x11 x12 x13 acc, σ = [some (.int (h : Int)), some (.int (w' : Int)), some (.ref ca), some (.ref la), some (.ref ba), some (.int (manyN ls : Nat)), some (.ref p1), x7, x8, x9, x10, x11, x12, x13] ∧ S' p1 = none ∧ H' p1 = some (.lst acc) ∧ All2 (lI S') acc ((book.take i).flatMap (askMat h w' cells ls)) ∧ acc.length ≤ i * 100)
      e1 ⟨_, _, _, _, _, _, _, [], rfl, none_of_same hS h1, upd_same, .nil, Nat.zero_le _⟩ (fun _ _ _ _ _ e _ => SqL.of (e.i _ _ (e.s _ _ hba))) (fun i x σ S5 H5 H6 hi e5 p5 hy => ?_) fun σ S5 H5 e5 p5 => ?_⟩
    · obtain ⟨x7, x8, x9, x10, x11, x12, x13, acc, rfl, s5, hp5, al, acl⟩ := p5
      obtain ⟨rfl, hx⟩ := hy
      obtain ⟨ak, f1, t, nv, rfl, ht, na, rfl, hna⟩ := hbs.get hx
      obtain ⟨akl, akn⟩ := hok ak (List.mem_of_getElem? f1)
      have bil : i < 100 := by have := (List.getElem?_eq_some_iff.mp f1).1; omega
      refine ⟨t, _, rfl, SqT.of (e5.i _ _ (e5.s _ _ ht)), rfl, _, _, rfl, _, _, rfl, rfl, ?_⟩
      refine ⟨_, rfl, rfl, _, rfl, ?_⟩
      rw [kS_col]
      refine ifE (.int ((linesOf h w' ak : Nat) : Int)) ?_ (fun hk Q hq => ⟨_, rfl, by unfold linesOf at hq; rw [if_pos hk] at hq; exact hq⟩) (fun hk Q hq => ⟨_, rfl, by unfold linesOf at hq; rw [if_neg (by rw [hk]; decide)] at hq; exact hq⟩)
      have ln : linesOf h w' ak ≤ 100 := by unfold linesOf; split <;> omega
      refine ⟨((linesOf h w' ak : Nat) : Int), rfl, by omega, by omega, forE (S0 := S) (H0 := H) (m := No) (σ := [some (.int (h : Int)), some (.int (w' : Int)), some (.ref ca), some (.ref la), some (.ref ba), some (.int (manyN ls : Nat)), some (.ref p1), some (.str (kS ak.1)), some (.ref na), x9, x10, x11, x12, x13]) walk0
        (fun j σ S' H' => ∃ x9 x10 x11 x12 x13 acc, σ = [some (.int (h : Int)), some (.int (w' : Int)), some (.ref ca), some (.ref la), some (.ref ba), some (.int (manyN ls : Nat)), some (.ref p1), some (.str (kS ak.1)), some (.ref na), x9, x10, x11, x12, x13] ∧ S' p1 = none ∧ H' p1 = some (.lst acc) ∧ All2 (lI S') acc ((book.take i).flatMap (askMat h w' cells ls) ++ (List.range j).map (lineRow ak (manyN ls) (cells.zip ls))) ∧ acc.length ≤ i * 100 + j)
        e5 ⟨_, _, _, _, _, acc, rfl, s5, hp5, by rw [List.range_zero, List.map_nil, List.append_nil]; exact al, acl⟩ (fun _ _ _ _ _ _ _ => trivial) (fun j x σ S7 H7 H8 hj e7 p7 hy => ?_) fun σ S7 H7 e7 p7 => ?_⟩
      · obtain ⟨y9, y10, y11, y12, y13, acc7, rfl, s7, hp7, al7, acl7⟩ := p7
        obtain ⟨rfl, rfl⟩ := hy
        refine ⟨(by show (1 : Nat) ≤ sizeLine; decide), fun p8 h8 => ⟨_, rfl, p8, _, _, rfl, rfl, upd_same, by omega, by omega, ?_, fun p9 h9 => ?_⟩⟩
        · rw [Int.toNat_natCast]
          have := szLt (n := manyN ls) (by omega)
          show 1 * manyN ls ≤ _
          omega
        · rw [Int.toNat_natCast, flat1]
          have e8 := (Ext.refl (m := No) e7.i).newM (o := .lst [.int 0]) h8
          have e9 := e8.newM (o := .lst (List.replicate (manyN ls) (.int 0))) h9
          have E9 := e7.trans e9
          have n9 := e8.none1 h9
          refine ⟨_, rfl, ca, cvs, rfl, .inl (SqL.of (e9.i _ _ (e7.s _ _ hca))), ((cells.length : Nat) : Int), by rw [cl], by omega, by omega, forE (S0 := S) (H0 := H) (m := No) (σ := [some (.int (h : Int)), some (.int (w' : Int)), some (.ref ca), some (.ref la), some (.ref ba), some (.int (manyN ls : Nat)), some (.ref p1), some (.str (kS ak.1)), some (.ref na), some (.int (j : Int)), some (.ref p9), y11, y12, y13]) walk0
            (fun k σ S' H' => Same S7 S' ∧ (∃ x11 x12 x13, σ = [some (.int (h : Int)), some (.int (w' : Int)), some (.ref ca), some (.ref la), some (.ref ba), some (.int (manyN ls : Nat)), some (.ref p1), some (.str (kS ak.1)), some (.ref na), some (.int (j : Int)), some (.ref p9), x11, x12, x13]) ∧ S' p1 = none ∧ H' p1 = some (.lst acc7) ∧ S' p9 = none ∧ H' p9 = some (.lst ((lineRow ak (manyN ls) ((cells.zip ls).take k) j).map V.int)))
            E9 ⟨Same.refl _, ⟨_, _, _, rfl⟩, s7, e9.h _ _ (fun z => z) hp7, none_of_same e8.i h9, by rw [upd_same, List.take_zero]; unfold lineRow; rw [List.foldl_nil, List.map_replicate]⟩ (fun _ _ _ _ _ _ _ => trivial) (fun k x σ S10 H10 H11 hk e10 p10 hy => ?_) fun σ S10 H10 e10 p10 => ?_⟩
          · obtain ⟨sm, ⟨z11, z12, z13, rfl⟩, s10, hp10, s9, hp9⟩ := p10
            obtain ⟨rfl, rfl⟩ := hy
            have hck : cells[k]? = some cells[k] := List.getElem?_eq_getElem hk
            have hlk : ls[k]? = some ls[k] := List.getElem?_eq_getElem (by omega)
            obtain ⟨cv, g1, ct, rfl, hct⟩ := hcs.get2 hck
            have zk : (cells.zip ls)[k]? = some (cells[k], ls[k]) := List.getElem?_zip_eq_some.mpr ⟨hck, hlk⟩
            obtain ⟨cb1, cb2⟩ := hco.1 _ (List.mem_of_getElem? hck)
            have ltm : ls[k] < manyN ls := fresh_le ls _ (List.mem_of_getElem? hlk)
            have rs : lineRow ak (manyN ls) ((cells.zip ls).take (k + 1)) j = lineStep ak j (lineRow ak (manyN ls) ((cells.zip ls).take k) j) (cells[k], ls[k]) := by unfold lineRow; rw [take_get zk, List.foldl_append]; rfl
            have rlen : (lineRow ak (manyN ls) ((cells.zip ls).take k) j).length = manyN ls := by unfold lineRow; rw [line_len, List.length_replicate]
            generalize lineRow ak (manyN ls) ((cells.zip ls).take k) j = row at hp9 rs rlen
            generalize cells[k] = c at hck hct cb1 cb2 rs zk
            generalize ls[k] = lt at hlk ltm rs zk
            have hca10 := SqL.of (K := K) (e10.i _ _ (e10.s _ _ hca))
            have hct10 := e10.i _ _ (e10.s _ _ hct)
            refine ⟨_, rfl, rfl, _, rfl, ?_⟩
            rw [kS_col]
            refine ifE2 (fun x H' => ∃ t, x = .ref t ∧ Ext No S10 H11 S10 H' ∧ H' t = some (.tup [.int (sideOf ak.1 c : Nat), .int (othOf ak.1 c : Nat)])) (fun x H' hx => ?_) (fun hk' Q hq => ?_) (fun hk' Q hq => ?_)
            · obtain ⟨tt, rfl, e12, htt⟩ := hx
              have E12 := e10.trans e12
              refine ⟨tt, _, rfl, SqT.of htt, rfl, _, _, rfl, _, _, rfl, rfl, ?_⟩
              refine ⟨_, rfl, _, rfl, rfl, _, rfl, ?_⟩
              rw [dV]
              have hp9' := e12.h _ _ (fun z => z) hp9
              have hp1' := e12.h _ _ (fun z => z) hp10
              refine ifD (fun z => ?_) fun z => ?_
              · have sj : sideOf ak.1 c = j := by omega
                have otl : othOf ak.1 c < ak.2.length := by rw [akl]; unfold othOf; split <;> omega
                have hla' := SqL.of (K := K) (E12.i _ _ (E12.s _ _ hla))
                have hlx : atI (ls.map fun n : Nat => V.int n) (k : Int) = some (.int (lt : Int)) := atI_nat (by rw [List.getElem?_map, hlk]; rfl)
                refine ⟨_, rfl, _, rfl, _, rfl, _, _, _, _, rfl, rfl, hla', hlx, _, _, _, _, rfl, rfl, SqL.of hp9', atI_nat (by rw [List.getElem?_map, List.getElem?_eq_getElem (show lt < row.length by omega)]; rfl), _, rfl, _, rfl, _, _, _, _, rfl, rfl, SqT.of (E12.i _ _ (E12.s _ _ hna)), atI_nat (by rw [List.getElem?_map, List.getElem?_eq_getElem otl]; rfl), _, _, rfl, rfl, ?_⟩
                refine ⟨_, rfl, _, rfl, _, rfl, _, _, _, _, rfl, rfl, hla', hlx, p9, _, (lt : Int), lt, rfl, rfl, hp9', ixN_nat (by rw [List.length_map]; omega), ?_⟩
                have p19 : p1 ≠ p9 := fun y => by rw [y] at h1; have := e9.h _ _ (fun z => z) hp7; rw [y] at hp7; rw [n9] at hp7; cases hp7
                refine ⟨S10, E12.mut (.inl (e7.none1 n9)) s9, sm, ⟨_, _, _, rfl⟩, s10, (upd_ne p19).trans hp1', s9, ?_⟩
                rw [upd_same, rs]
                unfold lineStep
                rw [if_pos sj, ← List.map_set]
                have q1 : row.getD lt 0 = row[lt]'(by omega) := by rw [List.getD_eq_getElem?_getD, List.getElem?_eq_getElem (by omega)]; rfl
                have q2 : ak.2.getD (othOf ak.1 c) 0 = ak.2[othOf ak.1 c] := by rw [List.getD_eq_getElem?_getD, List.getElem?_eq_getElem otl]; rfl
                rw [q1, q2]
              · refine ⟨S10, E12, sm, ⟨_, _, _, rfl⟩, s10, hp1', s9, ?_⟩
                rw [rs]
                unfold lineStep
                rw [if_neg (show ¬ sideOf ak.1 c = j by omega)]; exact hp9'
            · refine ⟨_, rfl, _, rfl, _, _, _, _, rfl, rfl, hca10, atI_nat g1, hq _ _ ⟨ct, rfl, Ext.refl e10.i, ?_⟩⟩
              rw [hct10]; unfold sideOf othOf; rw [if_pos hk', if_pos hk']
            · refine ⟨_, rfl, _, rfl, _, _, _, _, rfl, rfl, hca10, atI_nat g1, _, _, _, _, rfl, rfl, SqT.of hct10, atI_nat (j := 1) rfl, _, rfl, _, rfl, _, _, _, _, rfl, rfl, hca10, atI_nat g1, _, _, _, _, rfl, rfl, SqT.of hct10, atI_nat (j := 0) rfl, (by show (2 : Nat) ≤ sizeLine; decide), fun p hp => hq _ _ ⟨p, rfl, (Ext.refl e10.i).newM hp, ?_⟩⟩
              rw [upd_same]; unfold sideOf othOf; rw [if_neg (by rw [hk']; decide), if_neg (by rw [hk']; decide)]
          · obtain ⟨sm, ⟨z11, z12, z13, rfl⟩, s10, hp10, s9, hp9⟩ := p10
            rw [take_all (show cells.length = (cells.zip ls).length by rw [List.length_zip]; omega)] at hp9
            have p19 : p1 ≠ p9 := fun y => by rw [y] at hp7; rw [n9] at hp7; cases hp7
            have fx := e10.fix (e7.none1 n9) s9 hp9
            have s1' : upd S10 p9 (.lst ((lineRow ak (manyN ls) (cells.zip ls) j).map V.int)) p1 = none := by rw [upd_ne p19]; exact s10
            refine ⟨_, rfl, .inl ⟨rfl, _, SqL.of hp10⟩, _, rfl, p1, acc7, .ref p9, rfl, rfl, hp10, szLt (by omega), ?_⟩
            refine ⟨_, fx.mut (.inl h1) s1', _, _, _, _, _, _, rfl, s1', upd_same, ?_, ?_⟩
            · rw [range_snoc, ← List.append_assoc]
              exact (al7.mono lI_m (sm.trans (same_upd s9))).snoc ⟨p9, rfl, upd_same⟩
            · rw [List.length_append]; show acc7.length + 1 ≤ _; omega
      · obtain ⟨y9, y10, y11, y12, y13, acc7, rfl, s7, hp7, al7, acl7⟩ := p7
        refine ⟨S7, e7, _, _, _, _, _, _, _, acc7, rfl, s7, hp7, ?_, by omega⟩
        rw [take_get f1, List.flatMap_append, List.flatMap_cons, List.flatMap_nil, List.append_nil, askMat_lines h w' cells ls ak]
        exact al7
    · obtain ⟨x7, x8, x9, x10, x11, x12, x13, acc, rfl, s5, hp5, al, acl⟩ := p5
      rw [take_all hbs.len] at al
      exact ⟨_, rfl, q _ _ _ (e5.fix h1 s5 hp5) ⟨p1, acc, rfl, upd_same, al.mono lI_m (same_upd s5)⟩⟩
end Th

/-! part EC -/
namespace Th
open PySem PySem.Spec PyProof.Rows L2

def sp_law_seq : Sp := fun vs H Q _ => ∃ x t, vs = [x] ∧ tyN H x = some t ∧ Q (.bl (t == "list" || t == "tuple")) H
theorem ok_law_seq {P : Program} {w : World} {K : PySem.W.Frag} {mg : Str → Option Value} {base : Heap} (T : Tx K mg) : FnOk P w K mg base CX0 1 A_law_seq (fdAt K A_law_seq) P_law_seq sp_law_seq := by
  refine (fn_law_seq T).ok sc_law_seq (fun vs H Q E h => ?_) (fun cdv A outer s H vs Q E hr h => ?_)
  · obtain ⟨x, t, rfl, _⟩ := h; rfl
  · obtain ⟨x, t, rfl, ht, q⟩ := h
    obtain ⟨h1, h2⟩ := tyN_ok (K := K) ht
    have k1 := kit1 K "list" (by decide) h2
    have k2 := kit1 K "tuple" (by decide) h2
    have e1 : (t == "list" || (t == "bool" && ("list" : String) == "int")) = (t == "list") := by
      rw [show (("list" : String) == "int") = false by decide, Bool.and_false, Bool.or_false]
    have e2 : (t == "tuple" || (t == "bool" && ("tuple" : String) == "int")) = (t == "tuple") := by
      rw [show (("tuple" : String) == "int") = false by decide, Bool.and_false, Bool.or_false]
    rw [e1] at k1
    rw [e2] at k2
    refine ⟨_, PSs.nox (pss_one (ps_ret (pe_or (pe_callB call_isi (by rfl) (f_isinstance T) bt_isinstance (pa_cons (pv 0) (pa_cons (pe_bltn (v := .ty "list") (by rfl) (f_list T) bt_list rfl) pa_nil))) (pe_one (pe_callB call_isi (by rfl) (f_isinstance T) bt_isinstance (pa_cons (pv 0) (pa_cons (pe_bltn (v := .ty "tuple") (by rfl) (f_tuple T) bt_tuple rfl) pa_nil))))))), ?_⟩
    refine ⟨_, rfl, _, _, _, _, _, rfl, .ty _, h1, k1, _, rfl, ?_⟩
    cases hb : (t == "list") with
    | true => rw [hb] at q; exact iteT q
    | false =>
      rw [hb] at q
      exact iteF ⟨_, rfl, _, _, _, _, _, rfl, .ty _, h1, k2, q⟩
def sp_law_int : Sp := fun vs H Q _ => ∃ x t, vs = [x] ∧ tyN H x = some t ∧ Q (.bl (wh none none x)) H
theorem ok_law_int {P : Program} {w : World} {K : PySem.W.Frag} {mg : Str → Option Value} {base : Heap} (T : Tx K mg) : FnOk P w K mg base CX0 1 A_law_int (fdAt K A_law_int) P_law_int sp_law_int := by
  refine (fn_law_int T).ok sc_law_int (fun vs H Q E h => ?_) (fun cdv A outer s H vs Q E hr h => ?_)
  · obtain ⟨x, t, rfl, _⟩ := h; rfl
  · obtain ⟨x, t, rfl, ht, q⟩ := h
    obtain ⟨h1, h2⟩ := tyN_ok (K := K) ht
    have k1 := kit1 K "int" (by decide) h2
    have k2 := kit1 K "bool" (by decide) h2
    refine ⟨_, PSs.nox (pss_one (ps_ret (pe_and (pe_callB call_isi (by rfl) (f_isinstance T) bt_isinstance (pa_cons (pv 0) (pa_cons (pe_bltn (v := .ty "int") (by rfl) (f_int T) bt_int rfl) pa_nil))) (pe_one (pe_not (pe_callB call_isi (by rfl) (f_isinstance T) bt_isinstance (pa_cons (pv 0) (pa_cons (pe_bltn (v := .ty "bool") (by rfl) (f_bool T) bt_bool rfl) pa_nil)))))))), ?_⟩
    refine ⟨_, rfl, _, _, _, _, _, rfl, .ty _, h1, k1, _, rfl, ?_⟩
    by_cases hti : t = "int"
    · subst hti
      obtain ⟨n, rfl⟩ := tyN_int ht
      refine iteT ⟨_, rfl, _, _, _, _, _, rfl, .ty _, h1, k2, _, rfl, ?_⟩
      exact q
    · rw [wh_of_not ht hti] at q
      by_cases htb : t = "bool"
      · subst htb
        refine iteT ⟨_, rfl, _, _, _, _, _, rfl, .ty _, h1, k2, _, rfl, ?_⟩
        exact q
      · have : (t == "int" || (t == "bool" && ("int" : String) == "int")) = false := by
          rw [beq_false_of_ne hti, beq_false_of_ne htb]; rfl
        rw [this]
        exact iteF q
def sp_law_is_ratio : Sp := fun vs H Q _ => ∃ S v x, vs = [v] ∧ Same S H ∧ nmR S v x ∧ (∀ a b, x = .pair a b → b.natAbs < 2 ^ 8999) ∧ ∀ H', Ext No S H S H' → Q (.bl (isRat x)) H'
theorem ok_law_is_ratio {P : Program} {w : World} {K : PySem.W.Frag} {mg : Str → Option Value} {base : Heap} (T : Tx K mg) : FnOk P w K mg base CX0 2 A_law_is_ratio (fdAt K A_law_is_ratio) P_law_is_ratio sp_law_is_ratio := by
  refine (fn_law_is_ratio T).ok sc_law_is_ratio (fun vs H Q E h => ?_) (fun cdv A outer s H vs Q E hr h => ?_)
  · obtain ⟨S, v, x, rfl, _⟩ := h; rfl
  · obtain ⟨S, v, x, rfl, hS, hx, hsz, q⟩ := h
    have ht := nm_ty hS hx
    obtain ⟨h1, h2⟩ := tyN_ok (K := K) ht
    have k1 := kit1 K "tuple" (by decide) h2
    have e1 : (nmT x == "tuple" || (nmT x == "bool" && ("tuple" : String) == "int")) = (nmT x == "tuple") := by
      rw [show (("tuple" : String) == "int") = false by decide, Bool.and_false, Bool.or_false]
    rw [e1] at k1
    refine ⟨_, PSs.nox (pss_cons (ps_if (PW.pt (pw_or (pt_not (pt_val (pe_callB call_isi (by rfl) (f_isinstance T) bt_isinstance (pa_cons (pv 0) (pa_cons (pe_bltn (v := .ty "tuple") (by rfl) (f_tuple T) bt_tuple rfl) pa_nil))))) (pw_or (pt_cmpR op_ne (pe_callB call_len_seq (by rfl) (f_len T) bt_len (pa_cons (pv 0) pa_nil)) pe_int (nomark _)) (pw_or (pt_not (pt_val (pe_call (ok_law_int T) hr (by rfl) (g_law_int T) (fn_law_int T).kp (b_law_int T) .nil pass0 (pa_cons (pe_ix ix_tup (pv 0) pe_int (fun _ _ => rfl)) pa_nil)))) (pw_or1 (pt_not (pt_val (pe_call (ok_law_int T) hr (by rfl) (g_law_int T) (fn_law_int T).kp (b_law_int T) .nil pass0 (pa_cons (pe_ix ix_tup (pv 0) pe_int (fun _ _ => rfl)) pa_nil)))))))))
      (pss_one (ps_ret pe_bl))
      pss_nil)
      (pss_one (ps_ret (pe_and (pe_cmpR op_gt (pe_ix ix_tup (pv 0) pe_int (fun _ _ => rfl)) pe_int (nomark _)) (pe_one (pe_cmpR (op_eqD hr.units) (pe_call (ok_law_ratio T) hr (by rfl) (g_law_ratio T) (fn_law_ratio T).kp (b_law_ratio T) .nil pass0 (pa_cons (pe_ix ix_tup (pv 0) pe_int (fun _ _ => rfl)) (pa_cons (pe_ix ix_tup (pv 0) pe_int (fun _ _ => rfl)) pa_nil))) (pv 0) (nomark _))))))), ?_⟩
    refine ⟨_, rfl, _, _, _, _, _, rfl, .ty _, h1, k1, _, rfl, ?_⟩
    have e0 := Ext.refl (m := No) hS
    cases x with
    | int n => exact iteT (iteT (q H e0))
    | non => exact iteT (iteT (q H e0))
    | str z => exact iteT (iteT (q H e0))
    | bl b => exact iteT (iteT (q H e0))
    | pair a b =>
      obtain ⟨p, rfl, tp⟩ := rat_ix (K := K) hS (show ratR S v (a, b) from hx)
      refine iteF ⟨_, rfl, p, _, rfl, .inr tp, rfl, _, rfl, iteF ?_⟩
      refine ⟨_, rfl, _, _, _, _, rfl, rfl, tp, atI_nat (j := 0) rfl, .int a, "int", rfl, rfl, _, rfl, iteF ?_⟩
      refine ⟨_, rfl, _, _, _, _, rfl, rfl, tp, atI_nat (j := 1) rfl, .int b, "int", rfl, rfl, _, rfl, iteF ?_⟩
      refine ⟨_, rfl, _, _, _, _, rfl, rfl, tp, atI_nat (j := 1) rfl, _, _, rfl, rfl, _, rfl, ifD (fun z => ?_) fun z => ?_⟩
      · refine ⟨_, rfl, _, _, _, _, rfl, rfl, tp, atI_nat (j := 0) rfl, _, rfl, _, _, _, _, rfl, rfl, tp, atI_nat (j := 1) rfl, S, a, b, rfl, hS, z, hsz a b rfl, fun S1 H1 u1 e1 hu1 => ?_⟩
        obtain ⟨p1, rfl, tp1⟩ := rat_ix (K := K) e1.i hu1
        have tp' := rat_ix (K := K) (e1.s.trans e1.i) (show ratR S (.ref p) (a, b) from hx)
        obtain ⟨_, z2, tp2⟩ := tp'
        cases z2
        refine ⟨_, rfl, .tuple ([(mkR a b).1, (mkR a b).2].map PyData.int), .tuple ([a, b].map PyData.int), .tup tp1 (dp_ints [(mkR a b).1, (mkR a b).2]), .tup tp2 (dp_ints [a, b]), rfl, rfl, ?_⟩
        show Q (.bl (PyData.eqvAll ([(mkR a b).1, (mkR a b).2].map PyData.int) ([a, b].map PyData.int))) H1
        rw [eqv_ints]
        have : decide ([(mkR a b).1, (mkR a b).2] = [a, b]) = isRat (.pair a b) := by
          show _ = (decide (1 ≤ b) && decide (gI a b = 1))
          rw [decide_eq_true (show 1 ≤ b by omega), Bool.true_and, mkR_pos z]
          by_cases hg : gI a b = 1
          · rw [hg, decide_eq_true rfl, Int.ediv_one, Int.ediv_one]; exact decide_eq_true rfl
          · rw [decide_eq_false hg]
            refine decide_eq_false fun y => hg ?_
            have hb2 : b / gI a b = b := by
              have := (List.cons.inj y).2
              exact (List.cons.inj this).1
            have g0 := gI_pos_r a (show b ≠ 0 by omega)
            have hm := Int.mul_ediv_cancel' (gI_dr a b)
            rw [hb2] at hm
            have : gI a b * b = 1 * b := by omega
            exact Int.eq_of_mul_eq_mul_right (by omega) this
        rw [this]
        exact q H1 (by
          refine ⟨Same.refl _, e1.s.trans e1.i, e1.h, e1.d, fun _ _ z => z⟩)
      · have : isRat (.pair a b) = false := by
          show (decide (1 ≤ b) && _) = false
          rw [decide_eq_false (show ¬ 1 ≤ b by omega)]; rfl
        have qq := q H e0
        rw [this] at qq
        exact qq
end Th

/-! part ED -/
namespace Th
open PySem PySem.Spec PyProof.Rows L2

theorem Ext.bk {S H S1 H1 : Hp} (e : Ext No S H S1 H1) : Ext No S H S H1 := ⟨Same.refl _, e.s.trans e.i, e.h, e.d, fun _ _ z => z⟩
def sp_law_without : Sp := fun vs H Q _ => ∃ S v w rows lot, vs = [v, w] ∧ Same S H ∧ lR lI S v rows ∧ tN S w lot ∧ rows.length ≤ 1000 ∧ ∀ S' H' u, Ext No S H S' H' → lR lI S' u (keptRows rows lot) → Q u H'
theorem ok_law_without {P : Program} {w : World} {K : PySem.W.Frag} {mg : Str → Option Value} {base : Heap} (T : Tx K mg) : FnOk P w K mg base CX0 1 A_law_without (fdAt K A_law_without) P_law_without sp_law_without := by
  refine (fn_law_without T).ok sc_law_without (fun vs H Q E h => ?_) (fun cdv A outer s H vs Q E hr h => ?_)
  · obtain ⟨S, v, w, rows, lot, rfl, _⟩ := h; rfl
  · obtain ⟨S, v, w', rows, lot, rfl, hS, ⟨ra, rvs, rfl, hra, hrs⟩, ⟨la, rfl, hla⟩, hl, q⟩ := h
    refine ⟨_, PSs.nox (pss_one (ps_ret (pe_lc (own := [("_law_at", 2)]) (g := gName 2) rfl sc_law_without.nd (pi_range1 (by rfl) (f_range T) (pa_cons (pe_callB call_len_seq (by rfl) (f_len T) bt_len (pa_cons (pv 0) pa_nil)) pa_nil)) (blkOk_by (N := N_law_without) (sc := defScope st_law_without) (by decide +kernel)) (fun _ _ _ _ _ => (pg_name (i := 2) sc_law_without.nd rfl (.inl rfl))) (fun _ _ _ _ _ => (pts_one (pt_cmpR (show OpR _ (compareOp .NotIn) (rIn K true) from op_notIn_seq) (pv 2) (pv 1) (by rfl)))) (fun _ _ _ _ _ => (pe_ix (show IxR _ (rIxL K) from ix_list) (pv 0) (pv 2) (fun _ _ => rfl)))))), ?_⟩
    have rl := hrs.len
    refine ⟨_, rfl, ra, rvs, rfl, .inl (SqL.of (hS _ _ hra)), ((rows.length : Nat) : Int), by rw [rl], by omega, by omega, lcP (S0 := S) (H0 := H) (σ := [some (.ref ra), some (.ref la), none]) walk0 (by omega)
      (fun j acc S' => All2 (lI S') acc (((List.range j).filter fun i => decide (i ∉ lot)).map fun i => rows.getD i [])) (Ext.refl hS) .nil (fun _ _ _ _ _ _ _ => trivial) (fun j x acc S2 H2 H3 Kt Kf hj e p hy kt kf => ?_) fun d acc S2 H2 hd e hs he _ p => ?_⟩
    · obtain ⟨rfl, rfl⟩ := hy
      refine ⟨rfl, _, rfl, _, rfl, la, _, rfl, .inr (SqT.of (e.i _ _ (e.s _ _ hla))), rfl, flat_nats _, _, rfl, ?_⟩
      rw [inV_nat]
      have fl : ((List.range (j + 1)).filter fun c => decide (c ∉ lot)) = ((List.range j).filter fun c => decide (c ∉ lot)) ++ (if decide (j ∉ lot) = true then [j] else []) := by
        rw [List.range_succ, List.filter_append, List.filter_cons, List.filter_nil]
      have f1 : rvs[j]? = some (rvs[j]'(by omega)) := List.getElem?_eq_getElem _
      obtain ⟨row, f2, f3⟩ := hrs.get f1
      refine ifN (fun z => ?_) fun z => ?_
      · refine ⟨_, rfl, _, rfl, _, _, _, _, rfl, rfl, SqL.of (e.i _ _ (e.s _ _ hra)), atI_nat f1, kt _ S2 _ (Ext.refl e.i) ?_⟩
        rw [fl, if_pos (decide_eq_true z), List.map_append]
        refine p.snoc ?_
        show lI S2 _ (rows.getD j [])
        rw [List.getD_eq_getElem?_getD, f2]
        exact lI_m _ _ _ _ e.s f3
      · refine kf S2 _ (Ext.refl e.i) ?_
        rw [fl, if_neg (by rw [decide_eq_false (fun y => y z)]; decide), List.append_nil]
        exact p
    · exact q _ _ _ (e.fix hd hs he) ⟨d, acc, rfl, upd_same, p.mono lI_m (same_upd hs)⟩
def sp_law_wholes : Sp := fun vs H Q _ => ∃ S v xs, ∃ n : Nat, vs = [v, .int (n : Int)] ∧ Same S H ∧ tI S v xs ∧ xs.length = n ∧ n ≤ 1000 ∧ ∀ H', Ext No S H S H' → Q (.bl true) H'
theorem ok_law_wholes {P : Program} {w : World} {K : PySem.W.Frag} {mg : Str → Option Value} {base : Heap} (T : Tx K mg) : FnOk P w K mg base CX0 2 A_law_wholes (fdAt K A_law_wholes) P_law_wholes sp_law_wholes := by
  refine (fn_law_wholes T).ok sc_law_wholes (fun vs H Q E h => ?_) (fun cdv A outer s H vs Q E hr h => ?_)
  · obtain ⟨S, v, xs, n, rfl, _⟩ := h; rfl
  · obtain ⟨S, v, xs, n, rfl, hS, ⟨a, rfl, ha⟩, hl, hn, q⟩ := h
    refine ⟨_, PSs.nox (pss_one (ps_ret (pe_and (pe_callB call_isi (by rfl) (f_isinstance T) bt_isinstance (pa_cons (pv 0) (pa_cons (pe_bltn (v := .ty "tuple") (by rfl) (f_tuple T) bt_tuple rfl) pa_nil))) (pe_and (pe_cmpR op_eq (pe_callB call_len_seq (by rfl) (f_len T) bt_len (pa_cons (pv 0) pa_nil)) (pv 1) (nomark _)) (pe_one (pe_notT (pe_lc (own := [("_law_one", 2)]) (g := gName 2) rfl sc_law_wholes.nd (pi_tup (pv 0)) (blkOk_by (N := N_law_wholes) (sc := defScope st_law_wholes) (by decide +kernel)) (fun _ _ _ _ _ => (pg_name (i := 2) sc_law_wholes.nd rfl (.inl rfl))) (fun _ _ _ _ _ => (pts_one (pt_not (pt_val (pe_call (ok_law_int T) hr (by rfl) (g_law_int T) (fn_law_int T).kp (b_law_int T) .nil pass0 (pa_cons (pv 2) pa_nil)))))) (fun _ _ _ _ _ => (pv 2))))))))), ?_⟩
    have ht : tyN H (.ref a) = some "tuple" := by show tyO (H a) = _; rw [hS _ _ ha]; rfl
    obtain ⟨h1, h2⟩ := tyN_ok (K := K) ht
    have k1 := kit1 K "tuple" (by decide) h2
    refine ⟨_, rfl, _, _, _, _, _, rfl, .ty _, h1, k1, _, rfl, ?_⟩
    refine iteT ⟨_, rfl, a, _, rfl, .inr (SqT.of (hS _ _ ha)), _, rfl, rfl, _, rfl, ?_⟩
    rw [dV, List.length_map, hl, decide_eq_true rfl]
    refine iteT ⟨_, rfl, a, rfl, ⟨_, SqT.of (hS _ _ ha)⟩, lcP (S0 := S) (H0 := H) (σ := [some (.ref a), some (.int (n : Int)), none]) (walk_tup (xs := xs.map V.int)) (by rw [List.length_map]; omega)
      (fun j acc _ => acc = []) (Ext.refl hS) rfl (fun _ _ _ _ _ e _ => SqT.of (e.i _ _ (e.s _ _ ha))) (fun j x acc S2 H2 H3 Kt Kf hj e p hy kt kf => ?_) fun d acc S2 H2 hd e hs he _ p => ?_⟩
    · obtain ⟨rfl, hx⟩ := hy
      obtain ⟨m, f1, rfl⟩ := map_get hx
      refine ⟨rfl, _, rfl, .int m, "int", rfl, rfl, _, rfl, iteF (kf S2 _ (Ext.refl e.i) p)⟩
    · subst p
      exact ⟨false, .inl ⟨[], SqL.of he, rfl⟩, q H2 e.bk⟩
def sp_law_made : Sp := fun vs H Q _ => ∃ S v w row xs, ∃ b : Nat, vs = [v, w] ∧ Same S H ∧ lI S v row ∧ tI S w xs ∧ row.length = xs.length ∧ row.length ≤ 1000 ∧ Bd 33 row ∧ Bd 9000 xs ∧ ∀ H', Ext No S H S H' → Q (.int (dot row fun j => xs.getD j 0)) H'
theorem dot_sum (xs : List Int) : ∀ (row : List Int) (s : Nat), ((List.range row.length).map fun j => row.getD j 0 * xs.getD (s + j) 0).sum = dot row fun j => xs.getD (s + j) 0
  | [], _ => rfl
  | a :: r, s => by
    rw [List.length_cons, List.range_succ_eq_map, List.map_cons, List.map_map, List.sum_cons]
    have := dot_sum xs r (s + 1)
    show a * xs.getD (s + 0) 0 + _ = a * xs.getD (s + 0) 0 + dot r fun j => xs.getD (s + (j + 1)) 0
    rw [dot_congr r (y := fun j => xs.getD (s + 1 + j) 0) fun j _ => by rw [show s + (j + 1) = s + 1 + j by omega], ← this]
    congr 2
    refine List.map_congr_left fun j _ => ?_
    show r.getD j 0 * xs.getD (s + (j + 1)) 0 = _
    rw [show s + (j + 1) = s + 1 + j by omega]
theorem ok_law_made {P : Program} {w : World} {K : PySem.W.Frag} {mg : Str → Option Value} {base : Heap} (T : Tx K mg) : FnOk P w K mg base CX0 1 A_law_made (fdAt K A_law_made) P_law_made sp_law_made := by
  refine (fn_law_made T).ok sc_law_made (fun vs H Q E h => ?_) (fun cdv A outer s H vs Q E hr h => ?_)
  · obtain ⟨S, v, w, row, xs, b, rfl, _⟩ := h; rfl
  · obtain ⟨S, v, w', row, xs, b, rfl, hS, ⟨a, rfl, ha⟩, ⟨c, rfl, hc⟩, hl, hn, b1, b2, q⟩ := h
    refine ⟨_, PSs.nox (pss_one (ps_ret (pe_callB (cr_sum rfl) (by rfl) (f_sum T) bt_sum (pa_cons (pe_lc (own := [("_law_at", 2)]) (g := gName 2) rfl sc_law_made.nd (pi_range1 (by rfl) (f_range T) (pa_cons (pe_callB call_len_seq (by rfl) (f_len T) bt_len (pa_cons (pv 0) pa_nil)) pa_nil)) (blkOk_by (N := N_law_made) (sc := defScope st_law_made) (by decide +kernel)) (fun _ _ _ _ _ => (pg_name (i := 2) sc_law_made.nd rfl (.inl rfl))) (fun _ _ _ _ _ => pts_nil) (fun _ _ _ _ _ => (pe_op op_mulW (pe_ix (show IxR _ (rIxL K) from ix_list) (pv 0) (pv 2) (fun _ _ => rfl)) (pe_ix (show IxR _ (rIxT K) from ix_tup) (pv 1) (pv 2) (fun _ _ => rfl))))) pa_nil)))), ?_⟩
    refine ⟨_, rfl, a, _, rfl, .inl (SqL.of (hS _ _ ha)), ((row.length : Nat) : Int), by rw [List.length_map], by omega, by omega, lcP (S0 := S) (H0 := H) (σ := [some (.ref a), some (.ref c), none]) walk0 (by omega)
      (fun j acc _ => acc = ((List.range j).map fun j => row.getD j 0 * xs.getD (0 + j) 0).map V.int) (Ext.refl hS) rfl (fun _ _ _ _ _ _ _ => trivial) (fun j x acc S2 H2 H3 Kt Kf hj e p hy kt kf => ?_) fun d acc S2 H2 hd e hs he _ p => ?_⟩
    · obtain ⟨rfl, rfl⟩ := hy
      subst p
      obtain ⟨x1, x2⟩ := int_ix (K := K) (e.s.trans e.i) ha hj
      have y2 : atI (xs.map V.int) (j : Int) = some (.int (xs.getD j 0)) := tab (by omega)
      refine ⟨rfl, _, rfl, _, rfl, _, _, _, _, rfl, rfl, x1, x2, _, rfl, _, rfl, _, _, _, _, rfl, rfl, SqT.of (e.i _ _ (e.s _ _ hc)), y2, _, _, rfl, rfl, mulW (b1.at_ j) (b2.at_ j) (by decide), ?_⟩
      refine kt _ S2 _ (Ext.refl e.i) ?_
      rw [range_snoc, List.map_append, Nat.zero_add]; rfl
    · refine ⟨d, _, rfl, SqL.of (by rw [he, p]), ?_⟩
      have := dot_sum xs row 0
      rw [this]
      have e2 : (fun j => xs.getD (0 + j) 0) = fun j => xs.getD j 0 := by funext j; rw [Nat.zero_add]
      rw [e2]
      exact q H2 e.bk
/-! ### all lots -/
theorem range_from (m s : Nat) : (List.range m).filter (fun t => decide (s ≤ t)) = (List.range (m - s)).map fun j => s + j := by
  induction m with
  | zero => rw [Nat.zero_sub]; rfl
  | succ m ih =>
    rw [List.range_succ, List.filter_append, ih, List.filter_cons, List.filter_nil]
    by_cases h : s ≤ m
    · rw [if_pos (decide_eq_true h), show m + 1 - s = (m - s) + 1 by omega, range_snoc, show s + (m - s) = m by omega]
    · rw [if_neg (by rw [decide_eq_false h]; decide), List.append_nil, show m - s = 0 by omega, show m + 1 - s = 0 by omega]
def startAt (lot : List Nat) : Nat := if lot = [] then 0 else lot.getLastD 0 + 1
theorem one_from (m : Nat) (lot : List Nat) : oneStep (List.range m) lot = (List.range (m - startAt lot)).map fun j => lot ++ [startAt lot + j] := by
  unfold oneStep
  have e : (List.range m).filter (fun t => decide (lot = [] ∨ lot.getLastD 0 < t)) = (List.range m).filter fun t => decide (startAt lot ≤ t) := by
    refine List.filter_congr fun t _ => ?_
    unfold startAt
    by_cases h : lot = []
    · rw [if_pos h, decide_eq_true (.inl h), decide_eq_true (Nat.zero_le _)]
    · rw [if_neg h]
      by_cases h2 : lot.getLastD 0 < t
      · rw [decide_eq_true (.inr h2), decide_eq_true (by omega)]
      · rw [decide_eq_false (fun y => y.elim h h2), decide_eq_false (by omega)]
  rw [e, range_from, List.map_map]; rfl
theorem lots_lt (n : Nat) : ∀ (k : Nat), ∀ lot ∈ lotsOf (List.range n) k, ∀ x ∈ lot, x < n
  | 0, lot, h, x, hx => by rw [List.mem_singleton.mp h] at hx; cases hx
  | k + 1, lot, h, x, hx => by
    obtain ⟨l, hl, hm⟩ := List.mem_flatMap.mp h
    obtain ⟨t, ht, rfl⟩ := List.mem_map.mp hm
    rcases List.mem_append.mp hx with h1 | h1
    · exact lots_lt n k l hl x h1
    · rw [List.mem_singleton.mp h1]; exact List.mem_range.mp (List.mem_filter.mp ht).1
theorem startAt_le {n : Nat} {lot : List Nat} (h : ∀ x ∈ lot, x < n) : startAt lot ≤ n := by
  unfold startAt
  split
  · exact Nat.zero_le _
  · rename_i h0
    have : lot.getLastD 0 ∈ lot := by rw [List.getLastD_eq_getLast?, List.getLast?_eq_some_getLast h0]; exact List.getLast_mem h0
    exact h _ this
theorem allLots_succ (n m : Nat) : allLots n (m + 1) = allLots n m ++ lotsOf (List.range n) (m + 1) := by
  unfold allLots
  rw [List.range_succ, List.flatMap_append, List.flatMap_cons, List.flatMap_nil, List.append_nil]
def sp_law_lots : Sp := fun vs H Q _ => ∃ S, ∃ n : Nat, vs = [.int (n : Int), .int (n : Int)] ∧ Same S H ∧ n ≤ 12 ∧ ∀ S' H' u, Ext No S H S' H' → lR tN S' u (allLots n n) → Q u H'
theorem ok_law_lots {P : Program} {w : World} {K : PySem.W.Frag} {mg : Str → Option Value} {base : Heap} (T : Tx K mg) : FnOk P w K mg base CX0 1 A_law_lots (fdAt K A_law_lots) P_law_lots sp_law_lots := by
  refine (fn_law_lots T).ok sc_law_lots (fun vs H Q E h => ?_) (fun cdv A outer s H vs Q E hr h => ?_)
  · obtain ⟨S, n, rfl, _⟩ := h; rfl
  · obtain ⟨S, n, rfl, hS, hn, q⟩ := h
    refine ⟨_, PSs.nox (pss_cons (ps_set (i := 2) sc_law_lots.nd rfl (.inl rfl) (pe_lst (pa_cons (pe_tup pa_nil) pa_nil)))
      (pss_cons (ps_set (i := 3) sc_law_lots.nd rfl (.inl rfl) (pe_lst (pa_cons (pe_tup pa_nil) pa_nil)))
      (pss_cons (ps_for PassesOwn.never rfl (pi_range1 (by rfl) (f_range T) (pa_cons (pe_callB (call_min2 rfl) (by rfl) (f_min T) bt_min (pa_cons (pv 0) (pa_cons (pv 1) pa_nil))) pa_nil)) (pg_name (i := 4) sc_law_lots.nd rfl (.inl rfl))
      (pss_cons (ps_set (i := 5) sc_law_lots.nd rfl (.inl rfl) (pe_lst pa_nil))
      (pss_cons (ps_for PassesOwn.never rfl (pi_list (pe_callTy call_list_of (by rfl) (f_list T) bt_list (pa_cons (pv 2) pa_nil))) (pg_name (i := 6) sc_law_lots.nd rfl (.inl rfl))
      (pss_one (ps_for PassesOwn.never rfl (pi_range2 (by rfl) (f_range T) (pa_cons (pe_ifExp (pt_truK (pv 6) (by intro _; rfl)) (pe_op op_add (pe_ix ix_tup (pv 6) (pe_un un_neg pe_int) (fun _ _ => rfl)) pe_int) pe_int) (pa_cons (pv 0) pa_nil))) (pg_name (i := 7) sc_law_lots.nd rfl (.inl rfl))
      (pss_one (ps_expr (pe_bm PySem.F.plainAttrs_list PySem.F.slot_list_append PySem.F.type_list_append mt_append (pv 5) (pa_cons (pe_op op_catA (pv 6) (pe_tup (pa_cons (pv 7) pa_nil))) pa_nil)))))))
      (pss_cons (ps_set (i := 2) sc_law_lots.nd rfl (.inl rfl) (pv 5))
      (pss_one (ps_set (i := 3) sc_law_lots.nd rfl (.inl rfl) (pe_op op_cat (pv 3) (pv 2))))))))
      (pss_one (ps_ret (pv 3)))))), ?_⟩
    refine ⟨Nat.zero_le _, fun p1 h1 => ⟨(by show (1 : Nat) ≤ sizeLine; decide), fun p2 h2 => ?_⟩⟩
    have e1 := (Ext.refl (m := No) hS).new (o := .tup []) h1
    have e2 := e1.new (o := .lst [.ref p1]) h2
    have z1 := ne_of_none (upd_same (H := H) (a := p1) (o := .tup [])) h2
    refine ⟨Nat.zero_le _, fun p3 h3 => ⟨(by show (1 : Nat) ≤ sizeLine; decide), fun p4 h4 => ?_⟩⟩
    have e3 := e2.new (o := .tup []) h3
    have e4 := e3.new (o := .lst [.ref p3]) h4
    have z3 := ne_of_none (upd_same (a := p3) (o := .tup []) (H := upd (upd H p1 (.tup [])) p2 (.lst [.ref p1]))) h4
    refine ⟨_, rfl, _, rfl, _, _, rfl, ((n : Nat) : Int), ?_, by omega, by omega, forE (S0 := S) (H0 := H) (m := No) (σ := [some (.int (n : Int)), some (.int (n : Int)), some (.ref p2), some (.ref p4), none, none, none, none]) walk0
      (fun i σ S' H' => ∃ r l rv lv x4 x5 x6 x7, σ = [some (.int (n : Int)), some (.int (n : Int)), some (.ref r), some (.ref l), x4, x5, x6, x7] ∧ S' r = some (.lst rv) ∧ All2 (tN S') rv (lotsOf (List.range n) i) ∧ S' l = some (.lst lv) ∧ All2 (tN S') lv (allLots n i) ∧ lv.length ≤ (i + 1) * 924)
      e4 ⟨p2, p4, [.ref p1], [.ref p3], _, _, _, _, rfl, ?_, ?_, upd_same, ?_, by show 1 ≤ _; omega⟩ (fun _ _ _ _ _ _ _ => trivial) (fun i x σ S5 H5 H6 hi e5 p5 hy => ?_) fun σ S5 H5 e5 p5 => ?_⟩
    · show [V.int (if (n : Int) < n then (n : Int) else n)] = _
      rw [if_neg (by omega)]
    · have k3 := same_upd (o := .tup []) (none_of_same e2.i h3)
      have k4 := same_upd (o := .lst [.ref p3]) (none_of_same e3.i h4)
      exact (k3.trans k4) _ _ upd_same
    · have k2 := same_upd (o := .lst [.ref p1]) (none_of_same e1.i h2)
      have k3 := same_upd (o := .tup []) (none_of_same e2.i h3)
      have k4 := same_upd (o := .lst [.ref p3]) (none_of_same e3.i h4)
      exact .cons ⟨p1, rfl, (k2.trans (k3.trans k4)) _ _ upd_same⟩ .nil
    · have k4 := same_upd (o := .lst [.ref p3]) (none_of_same e3.i h4)
      exact .cons ⟨p3, rfl, k4 _ _ upd_same⟩ .nil
    · obtain ⟨r, l, rv, lv, x4, x5, x6, x7, rfl, hr, hrv, hl, hlv, hll⟩ := p5
      obtain ⟨rfl, rfl⟩ := hy
      have c1 := lots_count (n := n) (k := i) hn (by omega)
      have rvl := hrv.len
      have als := allLots_succ n i
      have lsucc : lotsOf (List.range n) (i + 1) = lotStep (List.range n) (lotsOf (List.range n) i) := rfl
      have llen := lots_len (List.range n) i
      have c2 := lots_count (n := n) (k := i + 1) hn (by omega)
      rw [lsucc] at als c2
      generalize hst : lotsOf (List.range n) i = lots at hrv c1 rvl als lsucc llen c2
      refine ⟨Nat.zero_le _, fun p5 h5 => ?_⟩
      have e6 := (Ext.refl (m := No) e5.i).newM (o := .lst []) h5
      refine ⟨_, rfl, r, rv, rfl, .inl (SqL.of (e6.i _ _ hr)), fun p6 h6 => ?_⟩
      have e7 := e6.new (o := .lst rv) h6
      have E7 := e5.trans e7
      have n5 := e5.none1 h5
      have s7 : upd S5 p6 (.lst rv) p5 = none := by
        have ne : p5 ≠ p6 := ne_of_none upd_same h6
        rw [upd_ne ne]; exact none_of_same e5.i h5
      have hp7 : upd (upd H6 p5 (.lst [])) p6 (.lst rv) p5 = some (.lst []) := (upd_ne (ne_of_none upd_same h6)).trans upd_same
      have hq7 : upd S5 p6 (.lst rv) p6 = some (.lst rv) := upd_same
      have kk7 : Same S5 (upd S5 p6 (.lst rv)) := e7.s
      generalize upd S5 p6 (.lst rv) = S7 at E7 s7 hq7 kk7 e7
      generalize upd (upd H6 p5 (.lst [])) p6 (.lst rv) = H7 at E7 hp7 e7
      refine ⟨p6, rfl, ⟨_, SqL.of (E7.i _ _ hq7)⟩, forE (S0 := S) (H0 := H) (m := No) (σ := [some (.int (n : Int)), some (.int (n : Int)), some (.ref r), some (.ref l), some (.int (i : Int)), some (.ref p5), x6, x7]) (walk_list (xs := rv))
        (fun j σ S' H' => Same S7 S' ∧ (∃ x6 x7, σ = [some (.int (n : Int)), some (.int (n : Int)), some (.ref r), some (.ref l), some (.int (i : Int)), some (.ref p5), x6, x7]) ∧ S' p5 = none ∧ ∃ acc, H' p5 = some (.lst acc) ∧ All2 (tN S') acc (lotStep (List.range n) (lots.take j)))
        E7 ⟨Same.refl _, ⟨_, _, rfl⟩, s7, [], hp7, .nil⟩ (fun _ _ _ _ _ e p => SqL.of (e.i _ _ (p.1 _ _ hq7))) (fun j x σ S8 H8 H9 hj e8 p8 hy => ?_) fun σ S8 H8 e8 p8 => ?_⟩
      · obtain ⟨sm, ⟨y6, y7, rfl⟩, s8, acc, hp8, al⟩ := p8
        obtain ⟨rfl, hx⟩ := hy
        obtain ⟨lot, f1, lt, rfl, hlt⟩ := hrv.get hx
        have hlt8 := sm _ _ (kk7 _ _ hlt)
        have hlen := llen lot (List.mem_of_getElem? f1)
        have accl := al.len
        have stepl := lotStep_len (List.range n) (lots.take j)
        rw [List.length_take, List.length_range] at stepl
        have g3 : min j lots.length * n ≤ 924 * 12 := Nat.mul_le_mul (by omega) hn
        refine ⟨_, rfl, !(lot.map fun n : Nat => V.int n).isEmpty, .inr (.inl ⟨_, SqT.of (e8.i _ _ hlt8), rfl⟩), ?_⟩
        refine ifC (startAt lot) ?_ (fun hk Q hq => ?_) (fun hk => ?_)
        · refine ⟨_, rfl, ((startAt lot : Nat) : Int), (n : Int), rfl, ⟨by omega, ?_, by omega, by omega⟩, forE (S0 := S) (H0 := H) (m := No) (σ := [some (.int (n : Int)), some (.int (n : Int)), some (.ref r), some (.ref l), some (.int (i : Int)), some (.ref p5), some (.ref lt), y7]) walk_range
            (fun k σ S' H' => Same S8 S' ∧ (∃ x7, σ = [some (.int (n : Int)), some (.int (n : Int)), some (.ref r), some (.ref l), some (.int (i : Int)), some (.ref p5), some (.ref lt), x7]) ∧ S' p5 = none ∧ ∃ acc, H' p5 = some (.lst acc) ∧ All2 (tN S') acc (lotStep (List.range n) (lots.take j) ++ (List.range k).map fun t => lot ++ [startAt lot + t]))
            e8 ⟨Same.refl _, ⟨_, rfl⟩, s8, acc, hp8, by rw [List.range_zero, List.map_nil, List.append_nil]; exact al⟩ (fun _ _ _ _ _ _ _ => trivial) (fun k x σ S10 H10 H11 hk e10 p10 hy => ?_) fun σ S10 H10 e10 p10 => ?_⟩
          · have := startAt_le (lots_lt n i lot (hst ▸ List.mem_of_getElem? f1))
            omega
          · obtain ⟨sm10, ⟨z7, rfl⟩, s10, acc10, hp10, al10⟩ := p10
            obtain ⟨rfl, rfl⟩ := hy
            have acc10l := al10.len
            rw [List.length_append, List.length_map, List.length_range] at acc10l
            have hlt10 := e10.i _ _ (sm10 _ _ hlt8)
            have fin : ∀ (S12 H12 : Hp) (t : Addr), Ext No S10 H11 S12 H12 → S12 t = some (.tup ((lot ++ [startAt lot + k]).map fun n : Nat => V.int n)) → ∃ S', Ext No S H S' (upd H12 p5 (.lst (acc10 ++ [.ref t]))) ∧ Same S8 S' ∧ (∃ x7, [some (V.int (n : Int)), some (.int (n : Int)), some (.ref r), some (.ref l), some (.int (i : Int)), some (.ref p5), some (.ref lt), some (.int ((startAt lot : Nat) + (k : Int)))] = [some (V.int (n : Int)), some (.int (n : Int)), some (.ref r), some (.ref l), some (.int (i : Int)), some (.ref p5), some (.ref lt), x7]) ∧ S' p5 = none ∧ ∃ acc, upd H12 p5 (.lst (acc10 ++ [.ref t])) p5 = some (.lst acc) ∧ All2 (tN S') acc (lotStep (List.range n) (lots.take j) ++ (List.range (k + 1)).map fun t => lot ++ [startAt lot + t]) := fun S12 H12 t e12 ht => by
              have s12 := e12.n p5 (ne_none hp10) s10
              refine ⟨S12, (e10.trans e12).mut (.inl n5) s12, sm10.trans e12.s, ⟨_, rfl⟩, s12, _, upd_same, ?_⟩
              rw [range_snoc, ← List.append_assoc]
              exact (al10.mono tN_m e12.s).snoc ⟨t, rfl, ht⟩
            have kb : k < n := by omega
            have vv : V.int ((startAt lot : Nat) + (k : Int)) = V.int ((startAt lot + k : Nat) : Int) := by rw [Int.natCast_add]
            refine ⟨_, rfl, .inl ⟨rfl, _, SqL.of hp10⟩, _, rfl, _, rfl, (by show (1 : Nat) ≤ sizeLine; decide), fun p12 h12 => ?_⟩
            have e12 := (Ext.refl (m := No) e10.i).new (o := .tup [.int ((startAt lot : Nat) + (k : Int))]) h12
            refine ⟨lt, p12, _, _, rfl, rfl, SqT.of ((upd_ne (ne_of_none hlt10 h12)).trans hlt10), SqT.of upd_same, ?_, fun hn' => ?_, fun _ z => (by cases z), fun _ _ p13 h13 => ?_⟩
            · rw [List.length_map, hlen]
              exact Nat.le_of_lt (szLt (by show i + 1 ≤ _; omega))
            · have l0 : lot = [] := List.map_eq_nil_iff.mp hn'
              refine ⟨p5, acc10, .ref p12, rfl, rfl, e12.h _ _ (fun z => z) hp10, szLt (by omega), fin _ _ p12 e12 ?_⟩
              have l1 : lot ++ [startAt lot + k] = [startAt lot + k] := by rw [l0]; rfl
              rw [upd_same, vv, l1]; rfl
            · have e13 := e12.new (o := .tup ((lot.map fun n : Nat => V.int n) ++ [.int ((startAt lot : Nat) + (k : Int))])) h13
              refine ⟨p5, acc10, .ref p13, rfl, rfl, e13.h _ _ (fun z => z) hp10, szLt (by omega), fin _ _ p13 e13 ?_⟩
              rw [upd_same, vv, List.map_append]; rfl
          · obtain ⟨sm10, ⟨z7, rfl⟩, s10, acc10, hp10, al10⟩ := p10
            refine ⟨S10, e10, sm.trans sm10, ⟨_, _, rfl⟩, s10, acc10, hp10, ?_⟩
            rw [take_get f1, lotStep_app, lotStep_one, one_from]
            have : ((n : Int) - ((startAt lot : Nat) : Int)).toNat = n - startAt lot := by omega
            rw [this] at al10
            exact al10
        · have hl0 : lot ≠ [] := fun z => by rw [z] at hk; cases hk
          refine ⟨_, rfl, _, rfl, _, _, _, _, rfl, rfl, SqT.of (e8.i _ _ hlt8), last_ix hl0, _, _, rfl, rfl, ?_⟩
          have : startAt lot = lot.getLastD 0 + 1 := if_neg hl0
          rw [this] at hq
          show Q (.int ((lot.getLastD 0 : Nat) + 1)) _
          rw [Int.natCast_add] at hq
          exact hq
        · have hl0 : lot = [] := by
            cases lot with
            | nil => rfl
            | cons _ _ => cases hk
          rw [hl0]; rfl
      · obtain ⟨sm, ⟨y6, y7, rfl⟩, s8, acc, hp8, al⟩ := p8
        rw [take_all rvl] at al
        have fx := e8.fix n5 s8 hp8
        have k8 := same_upd (o := .lst acc) s8
        have hr8 : upd S8 p5 (.lst acc) p5 = some (.lst acc) := upd_same
        have hl8 := (kk7.trans (sm.trans k8)) _ _ hl
        refine ⟨_, rfl, _, rfl, _, rfl, l, p5, lv, acc, rfl, rfl, fx.i _ _ hl8, hp8, ?_, fun p9 h9 => ?_⟩
        · have := al.len
          exact Nat.le_of_lt (szLt (by have : (i + 1) * 924 ≤ 13 * 924 := Nat.mul_le_mul_right _ (by omega); omega))
        · have kk := same_upd (o := .lst (lv ++ acc)) (none_of_same fx.i h9)
          refine ⟨_, fx.new h9, p5, p9, acc, lv ++ acc, _, _, _, _, rfl, kk _ _ hr8, ?_, upd_same, ?_, ?_⟩
          · rw [lsucc]; exact (al.mono tN_m k8).mono tN_m kk
          · rw [als]
            exact (hlv.mono tN_m ((kk7.trans (sm.trans k8)).trans kk)).app ((al.mono tN_m k8).mono tN_m kk)
          · rw [List.length_append, al.len, Nat.succ_mul]; omega
    · obtain ⟨r, l, rv, lv, x4, x5, x6, x7, rfl, hr, hrv, hl, hlv, hll⟩ := p5
      exact ⟨_, rfl, q _ _ _ e5 ⟨l, lv, rfl, hl, hlv⟩⟩
end Th

/-! part EE -/
namespace Th
open PySem PySem.Spec PyProof.Rows L2

def lawLoss (rows : List (List Int)) (n l : Nat) : Option (List Nat) := (allLots rows.length rows.length).find? fun lot => !lTells (keptRows rows lot) n l
def sp_law_loss : Sp := fun vs H Q _ => ∃ S v rows, ∃ n l : Nat, vs = [v, .int (n : Int), .int (l : Int)] ∧ Same S H ∧ lR lI S v rows ∧ (∀ r ∈ rows, r.length = n ∧ Bd 33 r) ∧ n ≤ 5 ∧ rows.length ≤ 12 ∧ ∀ S' H' u, Ext No S H S' H' → optR tN S' u (lawLoss rows n l) → Q u H'
theorem find_at {α : Type} {p : α → Bool} {l : List α} {j : Nat} {x : α} (hj : l[j]? = some x) (h0 : ∀ y ∈ l.take j, p y = false) (h1 : p x = true) : l.find? p = some x := by
  have sp : l = l.take j ++ x :: l.drop (j + 1) := by
    obtain ⟨hl, he⟩ := List.getElem?_eq_some_iff.mp hj
    rw [← he, List.getElem_cons_drop, List.take_append_drop]
  exact List.find?_eq_some_iff_append.mpr ⟨h1, _, _, sp, fun a ha => by rw [h0 a ha]; rfl⟩
theorem ok_law_loss {P : Program} {w : World} {K : PySem.W.Frag} {mg : Str → Option Value} {base : Heap} (T : Tx K mg) : FnOk P w K mg base CX0 5 A_law_loss (fdAt K A_law_loss) P_law_loss sp_law_loss := by
  refine (fn_law_loss T).ok sc_law_loss (fun vs H Q E h => ?_) (fun cdv A outer s H vs Q E hr h => ?_)
  · obtain ⟨S, v, rows, n, l, rfl, _⟩ := h; rfl
  · obtain ⟨S, v, rows, n, l, rfl, hS, ⟨ra, rvs, rfl, hra, hrs⟩, hro, hn, hrl, q⟩ := h
    refine ⟨_, PSs.nox (pss_cons (ps_for PassesOwn.never rfl (pi_list (pe_call (ok_law_lots T) (hr.mono (by decide)) (by rfl) (g_law_lots T) (fn_law_lots T).kp (b_law_lots T) .nil pass0 (pa_cons (pe_callB call_len_seq (by rfl) (f_len T) bt_len (pa_cons (pv 0) pa_nil)) (pa_cons (pe_callB call_len_seq (by rfl) (f_len T) bt_len (pa_cons (pv 0) pa_nil)) pa_nil)))) (pg_name (i := 3) sc_law_loss.nd rfl (.inl rfl))
      (pss_one (ps_if (pt_not (pt_val (pe_call (ok_law_tells T) hr (by rfl) (g_law_tells T) (fn_law_tells T).kp (b_law_tells T) .nil pass0 (pa_cons (pe_call (ok_law_without T) (hr.mono (by decide)) (by rfl) (g_law_without T) (fn_law_without T).kp (b_law_without T) .nil pass0 (pa_cons (pv 0) (pa_cons (pv 3) pa_nil))) (pa_cons (pv 1) (pa_cons (pv 2) pa_nil))))))
      (pss_one (ps_ret (pv 3)))
      pss_nil)))
      (pss_one (ps_ret pe_non))), ?_⟩
    have rl := hrs.len
    have fl : lawLoss rows n l = (allLots rows.length rows.length).find? fun lot => !lTells (keptRows rows lot) n l := rfl
    refine ⟨_, rfl, ra, rvs, rfl, .inl (SqL.of (hS _ _ hra)), _, rfl, ra, rvs, rfl, .inl (SqL.of (hS _ _ hra)), S, rows.length, by rw [rl]; rfl, hS, hrl, fun S1 H1 u1 e1 hu1 => ?_⟩
    obtain ⟨la, ls, rfl, hla, hls⟩ := hu1
    have lsl := hls.len
    generalize allLots rows.length rows.length = lots at fl hls lsl
    refine ⟨la, rfl, ⟨_, SqL.of (e1.i _ _ hla)⟩, forE (m := No) (S0 := S) (H0 := H) (σ := [some (.ref ra), some (.int (n : Int)), some (.int (l : Int)), none]) (walk_list (xs := ls))
      (fun j σ S' H' => Same S1 S' ∧ (∃ x3, σ = [some (.ref ra), some (.int (n : Int)), some (.int (l : Int)), x3]) ∧ ∀ x ∈ lots.take j, (!lTells (keptRows rows x) n l) = false)
      e1 ⟨Same.refl _, ⟨_, rfl⟩, fun x hx => by rw [List.take_zero] at hx; cases hx⟩ (fun _ _ _ _ _ e p => SqL.of (e.i _ _ (p.1 _ _ hla))) (fun j x σ S5 H5 H6 hj e5 p5 hy => ?_) fun σ S5 H5 e5 p5 => ?_⟩
    · obtain ⟨sm, ⟨x3, rfl⟩, hz⟩ := p5
      obtain ⟨rfl, hx⟩ := hy
      obtain ⟨lot, f1, lt, rfl, hlt⟩ := hls.get hx
      obtain ⟨ko, kl⟩ := kept_ok (rows := rows) (p := fun r => r.length = n ∧ Bd 33 r) hro lot
      refine ⟨_, rfl, _, rfl, S5, _, _, rows, lot, rfl, e5.i, ⟨ra, rvs, rfl, e5.s _ _ hra, hrs.mono lI_m e5.s⟩, ⟨lt, rfl, sm _ _ hlt⟩, by omega, fun S6 H6' u6 e6 hu6 => ?_⟩
      refine ⟨_, rfl, _, rfl, S6, _, _, n, l, rfl, e6.i, hu6, ko, hn, by omega, fun S7 H7 e7 => ?_⟩
      have e67 := e6.trans e7
      refine ⟨_, rfl, ?_⟩
      cases hb : lTells (keptRows rows lot) n l with
      | false =>
        refine iteT ⟨_, rfl, q S7 _ _ (e5.trans e67) ?_⟩
        rw [fl, find_at f1 hz (by rw [hb]; rfl)]
        exact ⟨lt, rfl, e67.s _ _ (sm _ _ hlt)⟩
      | true =>
        refine iteF ⟨S7, e5.trans e67, sm.trans e67.s, ⟨_, rfl⟩, fun x hx => ?_⟩
        rw [take_get f1] at hx
        rcases List.mem_append.mp hx with hx | hx
        · exact hz x hx
        · rw [List.mem_singleton.mp hx, hb]; rfl
    · obtain ⟨sm, ⟨x3, rfl⟩, hz⟩ := p5
      refine q S5 _ _ e5 ?_
      rw [lsl, List.take_length] at hz
      have : lawLoss rows n l = none := by
        rw [fl]
        exact List.find?_eq_none.mpr fun x hx => by rw [hz x hx]; decide
      rw [this]; rfl
end Th

/-! part EF -/
namespace Th
open PySem PySem.Spec PyProof.Rows L2

def sumStep (t p : Rat2) : Rat2 := (t.1 * p.2 + p.1 * t.2, t.2 * p.2)
def sumT (ps : List Rat2) : Rat2 := ps.foldl sumStep (0, 1)
def lawSum (ps : List Rat2) : Rat2 := mkR (sumT ps).1 (sumT ps).2
def PsOk (ps : List Rat2) : Prop := ∀ p ∈ ps, 0 < p.2 ∧ p.2.natAbs < 2 ^ 3 ∧ p.1.natAbs < 2 ^ 9100
theorem sumT_succ {ps : List Rat2} {i : Nat} {p : Rat2} (h : ps[i]? = some p) : sumT (ps.take (i + 1)) = sumStep (sumT (ps.take i)) p := by
  unfold sumT
  rw [take_get h, List.foldl_append]; rfl
theorem sumT_bd {ps : List Rat2} (h : PsOk ps) : ∀ i, i ≤ ps.length → 0 < (sumT (ps.take i)).2 ∧ (sumT (ps.take i)).2.natAbs < 2 ^ (3 * i + 1) ∧ (sumT (ps.take i)).1.natAbs < 2 ^ (9101 + 4 * i)
  | 0, _ => ⟨by rw [List.take_zero]; exact Int.zero_lt_one, by rw [List.take_zero]; exact Nat.one_lt_two_pow (by decide), by rw [List.take_zero]; exact Nat.two_pow_pos _⟩
  | i + 1, hi => by
    obtain ⟨a1, a2, a3⟩ := sumT_bd h i (by omega)
    have e1 : ps[i]? = some ps[i] := List.getElem?_eq_getElem (by omega)
    obtain ⟨b1, b2, b3⟩ := h _ (List.mem_of_getElem? e1)
    rw [sumT_succ e1]
    refine ⟨Int.mul_pos a1 b1, ?_, ?_⟩
    · have := mul_bd a2 b2
      rw [show 3 * i + 1 + 3 = 3 * (i + 1) + 1 by omega] at this; exact this
    · have h1 := mul_bd a3 b2
      have h2 := Nat.lt_of_lt_of_le (mul_bd b3 a2) (Nat.pow_le_pow_right (by decide) (show 9100 + (3 * i + 1) ≤ 9101 + 4 * i + 3 by omega))
      have := add_bd h1 h2
      rw [show 9101 + 4 * i + 3 + 1 = 9101 + 4 * (i + 1) by omega] at this; exact this
def sp_law_sum : Sp := fun vs H Q _ => ∃ S v ps, vs = [v] ∧ Same S H ∧ lR ratR S v ps ∧ PsOk ps ∧ ps.length ≤ 30 ∧ ∀ S' H' u, Ext No S H S' H' → ratR S' u (lawSum ps) → Q u H'
theorem ok_law_sum {P : Program} {w : World} {K : PySem.W.Frag} {mg : Str → Option Value} {base : Heap} (T : Tx K mg) : FnOk P w K mg base CX0 2 A_law_sum (fdAt K A_law_sum) P_law_sum sp_law_sum := by
  refine (fn_law_sum T).ok sc_law_sum (fun vs H Q E h => ?_) (fun cdv A outer s H vs Q E hr h => ?_)
  · obtain ⟨S, v, ps, rfl, _⟩ := h; rfl
  · obtain ⟨S, v, ps, rfl, hS, ⟨b, vs, rfl, hb, hv⟩, hok, h30, q⟩ := h
    refine ⟨_, PSs.nox (pss_cons (ps_set (i := 1) sc_law_sum.nd rfl (.inl rfl) pe_int)
      (pss_cons (ps_set (i := 2) sc_law_sum.nd rfl (.inl rfl) pe_int)
      (pss_cons (ps_for PassesOwn.never rfl (pi_list (pv 0)) (pg_tup (by rfl) (pgs_cons (pg_name (i := 3) sc_law_sum.nd rfl (.inl rfl)) (pgs_cons (pg_name (i := 4) sc_law_sum.nd rfl (.inl rfl)) pgs_nil)))
      (pss_cons (ps_set (i := 1) sc_law_sum.nd rfl (.inl rfl) (pe_op op_add (pe_op op_mulW (pv 1) (pv 4)) (pe_op op_mulW (pv 3) (pv 2))))
      (pss_one (ps_set (i := 2) sc_law_sum.nd rfl (.inl rfl) (pe_op op_mulW (pv 2) (pv 4))))))
      (pss_one (ps_ret (pe_call (ok_law_ratio T) hr (by rfl) (g_law_ratio T) (fn_law_ratio T).kp (b_law_ratio T) .nil pass0 (pa_cons (pv 1) (pa_cons (pv 2) pa_nil)))))))), ?_⟩
    have vl := hv.len
    refine ⟨_, rfl, b, rfl, ⟨_, SqL.of (hS _ _ hb)⟩, forE (S0 := S) (H0 := H) (m := No) (σ := [some (.ref b), some (.int 0), some (.int 1), none, none]) (walk_list (xs := vs))
      (fun i σ S' H' => ∃ x3 x4, σ = [some (.ref b), some (.int (sumT (ps.take i)).1), some (.int (sumT (ps.take i)).2), x3, x4]) (Ext.refl hS) ⟨none, none, by rw [List.take_zero]; rfl⟩ (fun _ _ _ _ _ e _ => SqL.of (e.i _ _ (e.s _ _ hb))) (fun i x σ S5 H5 H6 hi e5 p5 hy => ?_) fun σ S5 H5 e5 p5 => ?_⟩
    · obtain ⟨x3, x4, rfl⟩ := p5
      obtain ⟨rfl, f1⟩ := hy
      obtain ⟨p, f2, hp⟩ := hv.get f1
      obtain ⟨b1, b2, b3⟩ := hok p (List.mem_of_getElem? f2)
      obtain ⟨a1, a2, a3⟩ := sumT_bd hok i (by omega)
      obtain ⟨r, rfl, tp⟩ := rat_ix (K := K) e5.i (ratR_m _ _ _ _ e5.s hp)
      refine ⟨r, _, rfl, tp, rfl, _, _, rfl, _, _, rfl, rfl, ?_⟩
      refine ⟨_, rfl, _, rfl, _, _, rfl, rfl, mulW a3 b2 (by omega), _, rfl, _, rfl, _, _, rfl, rfl, mulW b3 a2 (by omega), _, _, rfl, rfl, ?_⟩
      refine ⟨_, rfl, _, rfl, _, _, rfl, rfl, mulW a2 b2 (by omega), ?_⟩
      refine ⟨S5, e5, some (.int p.1), some (.int p.2), ?_⟩
      rw [sumT_succ f2]; rfl
    · obtain ⟨x3, x4, rfl⟩ := p5
      obtain ⟨a1, a2, a3⟩ := sumT_bd hok ps.length (Nat.le_refl _)
      rw [← vl] at a1 a2 a3
      have tk : ps.take vs.length = ps := by rw [vl, List.take_length]
      rw [tk] at a1 a2 a3
      rw [tk]
      refine ⟨_, rfl, _, rfl, S5, (sumT ps).1, (sumT ps).2, rfl, e5.i, a1, Nat.lt_of_lt_of_le a2 (Nat.pow_le_pow_right (by decide) (by omega)), fun S6 H6 u e6 hu => ?_⟩
      exact q S6 _ _ (e5.trans e6) hu
end Th

/-! part EG -/
namespace Th
open PySem PySem.Spec PyProof.Rows L2

theorem ok_law_exact0 {P : Program} {w : World} {K : PySem.W.Frag} {mg : Str → Option Value} {base : Heap} (T : Tx K mg) : FnOk P w K mg base CX0 1 A_law_exact (fdAt K A_law_exact) P_law_exact (fun _ _ _ _ => False) :=
  ⟨fun _ _ _ _ h => h.elim, fun _ _ _ _ _ _ _ _ _ _ _ _ _ h => h.elim⟩
def sp_law_exact1 : Sp := fun vs H Q _ => ∃ n : Int, vs = [.int n, .int n] ∧ Q (.bl true) H
theorem ok_law_exact1 {P : Program} {w : World} {K : PySem.W.Frag} {mg : Str → Option Value} {base : Heap} (T : Tx K mg) : FnOk P w K mg base CX0 2 A_law_exact (fdAt K A_law_exact) P_law_exact sp_law_exact1 := by
  refine (fn_law_exact T).ok sc_law_exact (fun vs H Q E h => ?_) (fun cdv A outer s H vs Q E hr h => ?_)
  · obtain ⟨n, rfl, _⟩ := h; rfl
  · obtain ⟨n, rfl, q⟩ := h
    refine ⟨_, PSs.nox (pss_cons (ps_if (pt_val (pe_callB call_isi (by rfl) (f_isinstance T) bt_isinstance (pa_cons (pv 1) (pa_cons (pe_bltn (v := .ty "tuple") (by rfl) (f_tuple T) bt_tuple rfl) pa_nil))))
      (pss_cons (ps_if (PW.pt (pw_or (pt_not (pt_val (pe_callB call_isi (by rfl) (f_isinstance T) bt_isinstance (pa_cons (pv 0) (pa_cons (pe_bltn (v := .ty "tuple") (by rfl) (f_tuple T) bt_tuple rfl) pa_nil))))) (pw_or1 (pt_cmpR op_ne (pe_callB call_len_seq (by rfl) (f_len T) bt_len (pa_cons (pv 0) pa_nil)) (pe_callB call_len_seq (by rfl) (f_len T) bt_len (pa_cons (pv 1) pa_nil)) (nomark _)))))
      (pss_one (ps_ret pe_bl))
      pss_nil)
      (pss_one (ps_ret (pe_notT (pe_lc (own := [("_law_at", 2)]) (g := gName 2) rfl sc_law_exact.nd (pi_range1 (by rfl) (f_range T) (pa_cons (pe_callB call_len_seq (by rfl) (f_len T) bt_len (pa_cons (pv 1) pa_nil)) pa_nil)) (blkOk_by (N := N_law_exact) (sc := defScope st_law_exact) (by decide +kernel)) (fun _ _ _ _ _ => (pg_name (i := 2) sc_law_exact.nd rfl (.inl rfl))) (fun _ _ _ _ _ => (pts_one (pt_not (pt_val (pe_call (ok_law_exact0 T) (hr.mono (by decide)) (by rfl) (g_law_exact T) (fn_law_exact T).kp (b_law_exact T) .nil pass0 (pa_cons (pe_ix (show IxR _ (rIxT K) from ix_tup) (pv 0) (pv 2) (fun _ _ => rfl)) (pa_cons (pe_ix (show IxR _ (rIxT K) from ix_tup) (pv 1) (pv 2) (fun _ _ => rfl)) pa_nil))))))) (fun _ _ _ _ _ => (pv 2)))))))
      pss_nil)
      (pss_cons (ps_if (pt_cmpR op_isN (pv 1) pe_non (nomark _))
      (pss_one (ps_ret (pe_cmpR op_isN (pv 0) pe_non (nomark _))))
      pss_nil)
      (pss_cons (ps_if (pt_val (pe_callB call_isi (by rfl) (f_isinstance T) bt_isinstance (pa_cons (pv 1) (pa_cons (pe_bltn (v := .ty "str") (by rfl) (f_str T) bt_str rfl) pa_nil))))
      (pss_one (ps_ret (pe_and (pe_callB call_isi (by rfl) (f_isinstance T) bt_isinstance (pa_cons (pv 0) (pa_cons (pe_bltn (v := .ty "str") (by rfl) (f_str T) bt_str rfl) pa_nil))) (pe_one (pe_cmpR (op_eqD hr.units) (pv 0) (pv 1) (nomark _))))))
      pss_nil)
      (pss_one (ps_ret (pe_and (pe_call (ok_law_int T) (hr.mono (by decide)) (by rfl) (g_law_int T) (fn_law_int T).kp (b_law_int T) .nil pass0 (pa_cons (pv 0) pa_nil)) (pe_one (pe_cmpR (op_eqD hr.units) (pv 0) (pv 1) (nomark _))))))))), ?_⟩
    obtain ⟨h1, h2⟩ := tyN_ok (K := K) (H := H) (x := .int n) (t := "int") rfl
    have k1 := kit1 K "tuple" (by decide) h2
    have k2 := kit1 K "str" (by decide) h2
    refine ⟨_, rfl, _, _, _, _, _, rfl, .ty _, h1, k1, _, rfl, ?_⟩
    refine iteF ⟨_, rfl, rfl, _, rfl, iteF ?_⟩
    refine ⟨_, rfl, _, _, _, _, _, rfl, .ty _, h1, k2, _, rfl, iteF ?_⟩
    refine ⟨_, rfl, _, _, rfl, rfl, _, rfl, ?_⟩
    refine iteT ⟨_, rfl, _, rfl, .int n, .int n, .int n, .int n, rfl, rfl, ?_⟩
    have e : PyData.eqv (.int n) (.int n) = true := by show (n == n) = true; exact beq_self_eq_true n
    rw [e]; exact q
inductive Due where
  | non | str (x : Str) | tup (l : List Nat)
def dueR : Rp Due := fun S v x => match x with
  | .non => v = .non
  | .str z => v = .str z
  | .tup l => tN S v l
def sp_law_exact : Sp := fun vs H Q _ => ∃ S v w x, vs = [v, w] ∧ Same S H ∧ dueR S v x ∧ dueR S w x ∧ (∀ l, x = .tup l → l.length ≤ 1000) ∧ (∀ z, x = .str z → SeqAt.shaped (.str z) = true) ∧ ∀ H', Ext No S H S H' → Q (.bl true) H'
theorem ok_law_exact {P : Program} {w : World} {K : PySem.W.Frag} {mg : Str → Option Value} {base : Heap} (T : Tx K mg) : FnOk P w K mg base CX0 3 A_law_exact (fdAt K A_law_exact) P_law_exact sp_law_exact := by
  refine (fn_law_exact T).ok sc_law_exact (fun vs H Q E h => ?_) (fun cdv A outer s H vs Q E hr h => ?_)
  · obtain ⟨S, v, w, x, rfl, _⟩ := h; rfl
  · obtain ⟨S, v, w', x, rfl, hS, hv, hw, hl, hz, q⟩ := h
    refine ⟨_, PSs.nox (pss_cons (ps_if (pt_val (pe_callB call_isi (by rfl) (f_isinstance T) bt_isinstance (pa_cons (pv 1) (pa_cons (pe_bltn (v := .ty "tuple") (by rfl) (f_tuple T) bt_tuple rfl) pa_nil))))
      (pss_cons (ps_if (PW.pt (pw_or (pt_not (pt_val (pe_callB call_isi (by rfl) (f_isinstance T) bt_isinstance (pa_cons (pv 0) (pa_cons (pe_bltn (v := .ty "tuple") (by rfl) (f_tuple T) bt_tuple rfl) pa_nil))))) (pw_or1 (pt_cmpR op_ne (pe_callB call_len_seq (by rfl) (f_len T) bt_len (pa_cons (pv 0) pa_nil)) (pe_callB call_len_seq (by rfl) (f_len T) bt_len (pa_cons (pv 1) pa_nil)) (nomark _)))))
      (pss_one (ps_ret pe_bl))
      pss_nil)
      (pss_one (ps_ret (pe_notT (pe_lc (own := [("_law_at", 2)]) (g := gName 2) rfl sc_law_exact.nd (pi_range1 (by rfl) (f_range T) (pa_cons (pe_callB call_len_seq (by rfl) (f_len T) bt_len (pa_cons (pv 1) pa_nil)) pa_nil)) (blkOk_by (N := N_law_exact) (sc := defScope st_law_exact) (by decide +kernel)) (fun _ _ _ _ _ => (pg_name (i := 2) sc_law_exact.nd rfl (.inl rfl))) (fun _ _ _ _ _ => (pts_one (pt_not (pt_val (pe_call (ok_law_exact1 T) (hr.mono (by decide)) (by rfl) (g_law_exact T) (fn_law_exact T).kp (b_law_exact T) .nil pass0 (pa_cons (pe_ix (show IxR _ (rIxT K) from ix_tup) (pv 0) (pv 2) (fun _ _ => rfl)) (pa_cons (pe_ix (show IxR _ (rIxT K) from ix_tup) (pv 1) (pv 2) (fun _ _ => rfl)) pa_nil))))))) (fun _ _ _ _ _ => (pv 2)))))))
      pss_nil)
      (pss_cons (ps_if (pt_cmpR op_isN (pv 1) pe_non (nomark _))
      (pss_one (ps_ret (pe_cmpR op_isN (pv 0) pe_non (nomark _))))
      pss_nil)
      (pss_cons (ps_if (pt_val (pe_callB call_isi (by rfl) (f_isinstance T) bt_isinstance (pa_cons (pv 1) (pa_cons (pe_bltn (v := .ty "str") (by rfl) (f_str T) bt_str rfl) pa_nil))))
      (pss_one (ps_ret (pe_and (pe_callB call_isi (by rfl) (f_isinstance T) bt_isinstance (pa_cons (pv 0) (pa_cons (pe_bltn (v := .ty "str") (by rfl) (f_str T) bt_str rfl) pa_nil))) (pe_one (pe_cmpR (op_eqD hr.units) (pv 0) (pv 1) (nomark _))))))
      pss_nil)
      (pss_one (ps_ret (pe_and (pe_call (ok_law_int T) (hr.mono (by decide)) (by rfl) (g_law_int T) (fn_law_int T).kp (b_law_int T) .nil pass0 (pa_cons (pv 0) pa_nil)) (pe_one (pe_cmpR (op_eqD hr.units) (pv 0) (pv 1) (nomark _))))))))), ?_⟩
    have e0 := Ext.refl (m := No) hS
    cases x with
    | non =>
      cases (show v = .non from hv)
      cases (show w' = .non from hw)
      obtain ⟨h1, h2⟩ := tyN_ok (K := K) (H := H) (x := .non) (t := "NoneType") rfl
      have k1 := kit1 K "tuple" (by decide) h2
      refine ⟨_, rfl, _, _, _, _, _, rfl, .ty _, h1, k1, _, rfl, ?_⟩
      refine iteF ⟨_, rfl, rfl, _, rfl, iteT ⟨_, rfl, rfl, q H e0⟩⟩
    | str z =>
      cases (show v = .str z from hv)
      cases (show w' = .str z from hw)
      obtain ⟨h1, h2⟩ := tyN_ok (K := K) (H := H) (x := .str z) (t := "str") rfl
      have k1 := kit1 K "tuple" (by decide) h2
      have k2 := kit1 K "str" (by decide) h2
      refine ⟨_, rfl, _, _, _, _, _, rfl, .ty _, h1, k1, _, rfl, ?_⟩
      refine iteF ⟨_, rfl, rfl, _, rfl, iteF ?_⟩
      refine ⟨_, rfl, _, _, _, _, _, rfl, .ty _, h1, k2, _, rfl, iteT ?_⟩
      refine ⟨_, rfl, _, _, _, _, _, rfl, .ty _, h1, k2, _, rfl, iteT ?_⟩
      refine ⟨_, rfl, _, rfl, .str z, .str z, .str z, .str z, hz z rfl, hz z rfl, ?_⟩
      have e : PyData.eqv (.str z) (.str z) = true := by show (z == z) = true; exact beq_self_eq_true z
      rw [e]; exact q H e0
    | tup l =>
      obtain ⟨a, rfl, ha⟩ := (show tN S v l from hv)
      obtain ⟨b, rfl, hb⟩ := (show tN S w' l from hw)
      have hl := hl l rfl
      have ta : tyN H (.ref a) = some "tuple" := by show tyO (H a) = _; rw [hS _ _ ha]; rfl
      have tb : tyN H (.ref b) = some "tuple" := by show tyO (H b) = _; rw [hS _ _ hb]; rfl
      obtain ⟨h1, h2⟩ := tyN_ok (K := K) ta
      have k1 := kit1 K "tuple" (by decide) h2
      obtain ⟨h3, h4⟩ := tyN_ok (K := K) tb
      have k2 := kit1 K "tuple" (by decide) h4
      have sa := fun (H' : Hp) (e : Same S H') => SqT.of (K := K) (e _ _ ha)
      have sb := fun (H' : Hp) (e : Same S H') => SqT.of (K := K) (e _ _ hb)
      refine ⟨_, rfl, _, _, _, _, _, rfl, .ty _, h3, k2, _, rfl, iteT ?_⟩
      refine ⟨_, rfl, _, _, _, _, _, rfl, .ty _, h1, k1, _, rfl, iteF ?_⟩
      refine ⟨_, rfl, _, _, rfl, .inr (sa _ hS), _, rfl, _, _, rfl, .inr (sb _ hS), rfl, _, rfl, ?_⟩
      rw [dV]
      refine ifN (fun z => absurd rfl z) fun _ => ?_
      refine ⟨_, rfl, b, _, rfl, .inr (sb _ hS), ((l.length : Nat) : Int), by rw [List.length_map], by omega, by omega, lcP (S0 := S) (H0 := H) (σ := [some (.ref a), some (.ref b), none]) walk0 (by omega)
        (fun j acc _ => acc = []) e0 rfl (fun _ _ _ _ _ _ _ => trivial) (fun j x acc S2 H2 H3 Kt Kf hj e p hy kt kf => ?_) fun d acc S2 H2 hd e hs he _ p => ?_⟩
      · obtain ⟨rfl, rfl⟩ := hy
        have f1 : (l.map fun n : Nat => V.int n)[j]? = some (V.int (l[j]'(by omega) : Nat)) := by rw [List.getElem?_map, List.getElem?_eq_getElem (by omega)]; rfl
        refine ⟨rfl, _, rfl, _, rfl, _, _, _, _, rfl, rfl, sa _ (e.s.trans e.i), atI_nat f1, _, rfl, _, rfl, _, _, _, _, rfl, rfl, sb _ (e.s.trans e.i), atI_nat f1, _, rfl, ?_⟩
        exact ⟨_, rfl, iteF (kf S2 _ (Ext.refl e.i) p)⟩
      · subst p
        exact ⟨false, .inl ⟨[], SqL.of he, rfl⟩, q H2 e.bk⟩
end Th

/-! part EH -/
namespace Th
open PySem PySem.Spec PyProof.Rows L2

def FitsOk (rows : List (List Int)) (n l : Nat) (lot : List Nat) (most : Nat) (o : Option (List Nat × List Int)) : Prop :=
  if lot.length ≤ most then ∃ xs, o = some (lot, xs) ∧ xs.length = n ∧ Bd 9000 xs ∧ xs.getD l 0 ≠ 0 ∧ ∀ i, i < rows.length → (dot (rows.getD i []) (fun j => xs.getD j 0) ≠ 0 ↔ i ∈ lot) else o = none
def sp_law_lost_fits : Sp := fun vs H Q _ => ∃ S tv v w rows lot o, ∃ n l most : Nat, vs = [tv, v, .int (n : Int), .int (l : Int), w, .int (most : Int)] ∧ Same S H ∧ optR LostV S tv o ∧ lR lI S v rows ∧ tN S w lot ∧ (∀ r ∈ rows, r.length = n ∧ Bd 33 r) ∧ n ≤ 5 ∧ l < n ∧ rows.length ≤ 12 ∧ lot.length ≤ 1000 ∧ FitsOk rows n l lot most o ∧ ∀ H', Ext No S H S H' → Q (.bl true) H'
theorem ok_law_lost_fits {P : Program} {w : World} {K : PySem.W.Frag} {mg : Str → Option Value} {base : Heap} (T : Tx K mg) : FnOk P w K mg base CX0 4 A_law_lost_fits (fdAt K A_law_lost_fits) P_law_lost_fits sp_law_lost_fits := by
  refine (fn_law_lost_fits T).ok sc_law_lost_fits (fun vs H Q E h => ?_) (fun cdv A outer s H vs Q E hr h => ?_)
  · obtain ⟨S, tv, v, w, rows, lot, o, n, l, most, rfl, _⟩ := h; rfl
  · obtain ⟨S, tv, v, w', rows, lot, o, n, l, most, rfl, hS, ho, ⟨ra, rvs, rfl, hra, hrs⟩, ⟨la, rfl, hla⟩, hro, hn, hln, hrl, hll, hf, q⟩ := h
    refine ⟨_, PSs.nox (pss_cons (ps_if (pt_cmpR op_gt (pe_callB call_len_seq (by rfl) (f_len T) bt_len (pa_cons (pv 4) pa_nil)) (pv 5) (nomark _))
      (pss_one (ps_ret (pe_cmpR op_isN (pv 0) pe_non (nomark _))))
      pss_nil)
      (pss_cons (ps_if (PW.pt (pw_or (pt_cmpR op_isN (pv 0) pe_non (nomark _)) (pw_or (pt_not (pt_val (pe_call (ok_law_exact T) hr (by rfl) (g_law_exact T) (fn_law_exact T).kp (b_law_exact T) .nil pass0 (pa_cons (pe_fld (pv 0) rfl) (pa_cons (pv 4) pa_nil))))) (pw_or1 (pt_not (pt_val (pe_call (ok_law_wholes T) (hr.mono (by decide)) (by rfl) (g_law_wholes T) (fn_law_wholes T).kp (b_law_wholes T) .nil pass0 (pa_cons (pe_fld (pv 0) rfl) (pa_cons (pv 2) pa_nil)))))))))
      (pss_one (ps_ret pe_bl))
      pss_nil)
      (pss_cons (ps_if (pt_truK (pe_lc (own := [("_law_at", 6)]) (g := gName 6) rfl sc_law_lost_fits.nd (pi_range1 (by rfl) (f_range T) (pa_cons (pe_callB call_len_seq (by rfl) (f_len T) bt_len (pa_cons (pv 1) pa_nil)) pa_nil)) (blkOk_by (N := N_law_lost_fits) (sc := defScope st_law_lost_fits) (by decide +kernel)) (fun _ _ _ _ _ => (pg_name (i := 6) sc_law_lost_fits.nd rfl (.inl rfl))) (fun _ _ _ _ _ => (pts_one (pt_cmpR op_ne (pe_cmpR op_ne (pe_call (ok_law_made T) (hr.mono (by decide)) (by rfl) (g_law_made T) (fn_law_made T).kp (b_law_made T) .nil pass0 (pa_cons (pe_ix (show IxR _ (rIxL K) from ix_list) (pv 1) (pv 6) (fun _ _ => rfl)) (pa_cons (show PE _ _ (tFld K _ _) from pe_fld (pv 0) rfl) pa_nil))) pe_int (nomark _)) (pe_cmpR (show OpR _ (compareOp .In) (rIn K false) from op_in_seq) (pv 6) (pv 4) (by rfl)) (nomark _)))) (fun _ _ _ _ _ => (pv 6))) (by intro _; rfl))
      (pss_one (ps_ret pe_bl))
      pss_nil)
      (pss_one (ps_ret (pe_cmpR op_ne (pe_ix ix_lt (pe_fld (pv 0) rfl) (pv 3) (fun _ _ => rfl)) pe_int (nomark _))))))), ?_⟩
    have e0 := Ext.refl (m := No) hS
    have rl := hrs.len
    have sla := fun (H' : Hp) (e : Same S H') => SqT.of (K := K) (e _ _ hla)
    have lm : (lot.map fun n : Nat => V.int n).length = lot.length := List.length_map ..
    refine ⟨_, rfl, _, _, rfl, .inr (sla _ hS), _, rfl, _, _, rfl, rfl, _, rfl, ?_⟩
    rw [lm]
    by_cases hm : lot.length ≤ most
    · unfold FitsOk at hf
      rw [if_pos hm] at hf
      obtain ⟨xs, rfl, hxl, hxb, hx0, hd⟩ := hf
      obtain ⟨ta, dx, av, nv, rfl, hta, hav, hnv⟩ := (show LostV S tv (lot, xs) from ho)
      refine ifD (fun z => absurd z (by omega)) fun _ => ?_
      refine ⟨_, rfl, rfl, _, rfl, iteF ?_⟩
      refine ⟨_, rfl, ta, C_Lost, dx, _, _, rfl, hS _ _ hta, T.kL, T.nL "answers" (by decide), rfl, _, rfl, S, _, _, .tup lot, rfl, hS, hav, ⟨la, rfl, hla⟩, (fun l' e => by cases e; exact hll), (fun z e => by cases e), fun H1 e1 => ⟨_, rfl, iteF ?_⟩⟩
      refine ⟨_, rfl, ta, C_Lost, dx, _, _, rfl, e1.i _ _ hta, T.kL, T.nL "numbers" (by decide), rfl, _, rfl, S, _, xs, n, rfl, e1.i, hnv, hxl, by omega, fun H2 e2 => ⟨_, rfl, iteF ?_⟩⟩
      have e12 := e1.trans e2
      refine ⟨_, rfl, ra, rvs, rfl, .inl (SqL.of (e12.i _ _ hra)), ((rows.length : Nat) : Int), by rw [rl], by omega, by omega, lcP (S0 := S) (H0 := H) (σ := [some (.ref ta), some (.ref ra), some (.int (n : Int)), some (.int (l : Int)), some (.ref la), some (.int (most : Int)), none]) walk0 (by omega)
        (fun j acc _ => acc = []) e12 rfl (fun _ _ _ _ _ _ _ => trivial) (fun j x acc S2 H3 H4 Kt Kf hj e p hy kt kf => ?_) fun d acc S2 H3 hd e hs he _ p => ?_⟩
      · obtain ⟨rfl, rfl⟩ := hy
        have f1 : rvs[j]? = some (rvs[j]'(by omega)) := List.getElem?_eq_getElem _
        obtain ⟨row, f2, f3⟩ := hrs.get f1
        have gr : rows.getD j [] = row := by rw [List.getD_eq_getElem?_getD, f2]; rfl
        obtain ⟨r1, r2⟩ := hro row (List.mem_of_getElem? f2)
        refine ⟨rfl, _, rfl, _, rfl, _, _, _, _, rfl, rfl, SqL.of (e.i _ _ (e.s _ _ hra)), atI_nat f1, _, rfl, ta, C_Lost, dx, _, _, rfl, e.i _ _ (e.s _ _ hta), T.kL, T.nL "numbers" (by decide), rfl, ?_⟩
        refine ⟨S2, _, nv, row, xs, 0, rfl, e.i, lI_m _ _ _ _ e.s f3, tI_m _ _ _ _ e.s hnv, by omega, by omega, r2, hxb, fun H5 e5 => ?_⟩
        have hd := hd j (by omega)
        rw [gr] at hd
        refine ⟨rfl, _, rfl, _, rfl, la, _, rfl, .inr (sla _ (e.s.trans e5.i)), rfl, flat_nats _, rfl, _, rfl, ?_⟩
        have eb : (!decide (V.int (dot row fun j => xs.getD j 0) = V.int 0)) = inV (V.int (j : Int)) (lot.map fun n : Nat => V.int n) := by
          rw [inV_nat, dV]
          by_cases z : j ∈ lot
          · rw [decide_eq_true z, decide_eq_false (hd.mpr z)]; rfl
          · rw [decide_eq_false z, decide_eq_true (by by_cases y : (dot row fun j => xs.getD j 0) = 0; exact y; exact absurd (hd.mp y) z)]; rfl
        rw [eb]
        show (fun b H3 => if b = true then _ else Kf H3) (!decide (V.bl (inV (V.int (j : Int)) (lot.map fun n : Nat => V.int n)) = V.bl (inV (V.int (j : Int)) (lot.map fun n : Nat => V.int n)))) _
        rw [decide_eq_true rfl]
        exact iteF (kf S2 _ e5 p)
      · subst p
        refine ⟨false, .inl ⟨[], SqL.of he, rfl⟩, iteF ?_⟩
        have k2 : Same S H3 := e.s.trans e.i
        refine ⟨_, rfl, ta, C_Lost, dx, _, _, rfl, k2 _ _ hta, T.kL, T.nL "numbers" (by decide), rfl, _, rfl, ?_⟩
        obtain ⟨na, rfl, hna⟩ := hnv
        have x1 : atI (xs.map V.int) (l : Int) = some (.int (xs.getD l 0)) := tab (by omega)
        refine ixLT (.inr (SqT.of (k2 _ _ hna))) x1 ⟨rfl, ?_⟩
        show Q (.bl (!decide (V.int (xs.getD l 0) = V.int 0))) H3
        rw [dV, decide_eq_false hx0]
        exact q H3 e.bk
    · unfold FitsOk at hf
      rw [if_neg hm] at hf
      subst hf
      cases (show tv = .non from ho)
      exact ifD (fun _ => ⟨_, rfl, rfl, q H e0⟩) fun z => absurd (by omega) z
end Th

/-! part EI -/
namespace Th
open PySem PySem.Spec PyProof.Rows L2

theorem iteFc {c : Bool} {A B : Prop} (h : c = false) (b : B) : if c = true then A else B := by rw [h]; exact iteF b
def wMost : Str := Str.ofString "most"
def mostP : Rp V := fun S v m => ∃ a, v = .ref a ∧ S a = some (.tup [.str wMost, m])
def sp_law_alike : Sp := fun vs H Q _ => ∃ S v w m t, vs = [v, w] ∧ Same S H ∧ mostP S v m ∧ mostP S w m ∧ tyN H m = some t ∧ scal m m = true ∧ Q (.bl true) H
theorem ok_law_alike {P : Program} {w : World} {K : PySem.W.Frag} {mg : Str → Option Value} {base : Heap} (T : Tx K mg) : FnOk P w K mg base CX0 1 A_law_alike (fdAt K A_law_alike) P_law_alike sp_law_alike := by
  refine (fn_law_alike T).ok sc_law_alike (fun vs H Q E h => ?_) (fun cdv A outer s H vs Q E hr h => ?_)
  · obtain ⟨S, v, w, m, t, rfl, _⟩ := h; rfl
  · obtain ⟨S, v, w', m, t, rfl, hS, ⟨a, rfl, ha⟩, ⟨b, rfl, hb⟩, ht, hs, q⟩ := h
    refine ⟨_, PSs.nox (pss_cons (ps_if (PW.pt (pw_or (pt_cmpR op_ne (pe_ix ix_tup (pv 0) pe_int (fun _ _ => rfl)) (pe_ix ix_tup (pv 1) pe_int (fun _ _ => rfl)) (nomark _)) (pw_or1 (pt_cmpR op_ne (pe_callB call_isi (by rfl) (f_isinstance T) bt_isinstance (pa_cons (pe_ix ix_tup (pv 0) pe_int (fun _ _ => rfl)) (pa_cons (pe_bltn (v := .ty "bool") (by rfl) (f_bool T) bt_bool rfl) pa_nil))) (pe_callB call_isi (by rfl) (f_isinstance T) bt_isinstance (pa_cons (pe_ix ix_tup (pv 1) pe_int (fun _ _ => rfl)) (pa_cons (pe_bltn (v := .ty "bool") (by rfl) (f_bool T) bt_bool rfl) pa_nil))) (nomark _)))))
      (pss_one (ps_ret pe_bl))
      pss_nil)
      (pss_one (ps_ret (pe_cmpR op_eq (pe_ix ix_tup (pv 0) pe_int (fun _ _ => rfl)) (pe_ix ix_tup (pv 1) pe_int (fun _ _ => rfl)) (nomark _))))), ?_⟩
    have sa := SqT.of (K := K) (hS _ _ ha)
    have sb := SqT.of (K := K) (hS _ _ hb)
    obtain ⟨h1, h2⟩ := tyN_ok (K := K) ht
    have k1 := kit1 K "bool" (by decide) h2
    refine ⟨_, rfl, _, _, _, _, rfl, rfl, sa, atI_nat (j := 0) rfl, _, rfl, _, _, _, _, rfl, rfl, sb, atI_nat (j := 0) rfl, rfl, _, rfl, iteF ?_⟩
    refine ⟨_, rfl, _, _, _, _, rfl, rfl, sa, atI_nat (j := 1) rfl, _, _, _, _, _, rfl, .ty _, h1, k1, ?_⟩
    refine ⟨_, rfl, _, _, _, _, rfl, rfl, sb, atI_nat (j := 1) rfl, _, _, _, _, _, rfl, .ty _, h1, k1, rfl, _, rfl, ?_⟩
    refine iteFc (by rw [decide_eq_true rfl]; rfl) ?_
    refine ⟨_, rfl, _, _, _, _, rfl, rfl, sa, atI_nat (j := 1) rfl, _, rfl, _, _, _, _, rfl, rfl, sb, atI_nat (j := 1) rfl, hs, ?_⟩
    rw [decide_eq_true rfl]; exact q
end Th

/-! part EJ -/
namespace Th
open PySem PySem.Spec PyProof.Rows L2

def sp_law_most_refused : Sp := fun vs H Q _ => ∃ S v bv h w cells ls book m t, ∃ l : Nat, ∃ wr : Bool, vs = [v, bv, .int (l : Int), m, .bl wr] ∧ Same S H ∧ Bk S v bv h w cells ls book ∧ l < manyN ls ∧ (spanRows h w cells ls book).length ≤ 12 ∧ tyN H m = some t ∧
  wh (some 0) (some (if wr then 2 else 4)) m = false ∧ ∀ S' H' u, Ext No S H S' H' → mostP S' u m → Q u H'
theorem ok_law_most_refused {P : Program} {w : World} {K : PySem.W.Frag} {mg : Str → Option Value} {base : Heap} (T : Tx K mg) : FnOk P w K mg base CX0 9 A_law_most_refused (fdAt K A_law_most_refused) P_law_most_refused sp_law_most_refused := by
  refine (fn_law_most_refused T).ok sc_law_most_refused (fun vs H Q E h => ?_) (fun cdv A outer s H vs Q E hr h => ?_)
  · obtain ⟨S, v, bv, h, w, cells, ls, book, m, t, l, wr, rfl, _⟩ := h; rfl
  · obtain ⟨S, v, bv, h, w', cells, ls, book, m, t, l, wr, rfl, hS, hb, hl, h12, hty, hwh, q⟩ := h
    refine ⟨_, PSs.nox (pss_cons (ps_try_as (i := 6) (Wout := fun _ _ _ _ => False) rfl rfl sc_law_most_refused.nd rfl rfl ⟨rfl, by decide, Or.inl (g_BadMost T)⟩ takes0
      (fun W pn xe tk _ => (pss_cons (ps_if (pt_val (pv 4))
        (pss_one (ps_expr (pe_callS (ok_wrong_told T) (hr.mono (by decide)) rfl (g_wrong_told T) (fn_wrong_told T).kp (b_wrong_told T) (fun σ => passAt tk σ) (pa_cons (pv 0) (pa_cons (pv 1) (pa_cons (pv 2) (pa_cons (pv 3) pa_nil)))))))
        (pss_one (ps_expr (pe_callS (ok_lost_told T) (hr.mono (by decide)) rfl (g_lost_told T) (fn_lost_told T).kp (b_lost_told T) (fun σ => passAt tk σ) (pa_cons (pv 0) (pa_cons (pv 1) (pa_cons (pv 2) (pa_cons (pv 3) pa_nil))))))))
        (pss_one (ps_set (i := 5) sc_law_most_refused.nd rfl (Or.inl rfl) (pe_tup (pa_cons pe_str (pa_cons pe_non pa_nil)))))))
      (fun a oe cls d pn hz hf => pss_one (ps_set (i := 5) sc_law_most_refused.nd rfl (Or.inl rfl) (pe_tup (pa_cons pe_str (pa_cons (pe_xf T.bF T.bN hz hf (pv 6)) pa_nil))))))
      (pss_one (ps_ret (pv 5)))), ?_⟩
    have catch_ : ∀ (S1 H1 : Hp) (d : Addr), Ext No S H S1 H1 → H1 d = some (mostD m) → ∀ a p, H1 a = none → H1 p = none → Q (.ref p) (upd H1 p (.tup [.str wMost, m])) := fun S1 H1 d e1 hd a p ha hp =>
      q _ _ _ (e1.new hp) ⟨p, rfl, upd_same⟩
    cases wr with
    | true =>
      refine ⟨_, rfl, _, rfl, iteT ⟨_, rfl, _, rfl, _, rfl, _, rfl, S, v, bv, h, w', cells, ls, book, m, t, l, rfl, hS, hb, hl, h12, hty, fun _ S1 H1 d e1 hd => ?_, fun k hk k2 => ?_⟩⟩
      · refine ⟨true, T.bE, fun _ a ha => ?_, fun q => Bool.noConfusion q⟩
        exact ⟨_, rfl, rfl, rfl, d, _, m, rfl, hd, rfl, two_le, fun p hp => ⟨_, rfl, catch_ S1 H1 d e1 hd a p ha hp⟩⟩
      · exfalso
        subst hk
        have : wh (some 0) (some 2) (.int (k : Int)) = true := wh_t (by omega) (by omega)
        rw [show (if true = true then (2 : Int) else 4) = 2 from rfl, this] at hwh
        cases hwh
    | false =>
      refine ⟨_, rfl, _, rfl, iteF ⟨_, rfl, _, rfl, _, rfl, _, rfl, S, v, bv, h, w', cells, ls, book, m, t, l, rfl, hS, hb, hl, h12, hty, fun _ S1 H1 d e1 hd => ?_, fun k hk k2 => ?_⟩⟩
      · refine ⟨true, T.bE, fun _ a ha => ?_, fun q => Bool.noConfusion q⟩
        exact ⟨_, rfl, rfl, rfl, d, _, m, rfl, hd, rfl, two_le, fun p hp => ⟨_, rfl, catch_ S1 H1 d e1 hd a p ha hp⟩⟩
      · exfalso
        subst hk
        have : wh (some 0) (some 4) (.int (k : Int)) = true := wh_t (by omega) (by omega)
        rw [show (if false = true then (2 : Int) else 4) = 4 from rfl, this] at hwh
        cases hwh
end Th

/-! part EK -/
namespace Th
open PySem PySem.Spec PyProof.Rows L2

/-! ### the two sums are 0 together -/
theorem mkR_x {a b : Int} (h : 0 < b) : (mkR a b).1 * b = a * (mkR a b).2 := by
  rw [mkR_pos h]
  obtain ⟨k, hk⟩ := gI_dl a b
  obtain ⟨m, hm⟩ := gI_dr a b
  have g := gI_pos_r a (show b ≠ 0 by omega)
  generalize gI a b = d at hk hm g
  have e1 : a / d = k := by rw [hk, Int.mul_ediv_cancel_left k (by omega)]
  have e2 : b / d = m := by rw [hm, Int.mul_ediv_cancel_left m (by omega)]
  show a / d * b = a * (b / d)
  rw [e1, e2, hk, hm]
  rw [Int.mul_left_comm k d m, Int.mul_assoc d k m]
theorem mkR_zero {a b : Int} (h : 0 < b) : (mkR a b).1 = 0 ↔ a = 0 := by
  have h2 := mkR_x (a := a) h
  have h3 := (mkR_ok (a := a) h).1
  constructor
  · intro z
    rw [z, Int.zero_mul] at h2
    rcases Int.mul_eq_zero.mp h2.symm with y | y
    · exact y
    · omega
  · intro z
    rw [z, Int.zero_mul] at h2
    rcases Int.mul_eq_zero.mp h2 with y | y
    · rw [z]; exact y
    · omega
def prodsOf (row : List Int) (rs : List Rat2) : List Rat2 := (row.zip rs).map fun p => (p.1 * p.2.1, p.2.2)
theorem cross_step {p q t b u v r2 nr p' q' : Int} (hq : 0 < q) (hv : 0 < v) (h1 : p * b = t * q) (h2 : u * r2 = nr * v) (h3 : p' * (q * v) = (p * v + u * q) * q') : p' * (b * r2) = (t * r2 + nr * b) * q' := by
  have hqv : q * v ≠ 0 := Int.ne_of_gt (Int.mul_pos hq hv)
  refine Int.eq_of_mul_eq_mul_right hqv ?_
  have e1 : p' * (b * r2) * (q * v) = (p' * (q * v)) * (b * r2) := Int.mul_right_comm ..
  have e2 : (p * v + u * q) * q' * (b * r2) = ((p * b) * (v * r2) + (u * r2) * (q * b)) * q' := by
    rw [Int.add_mul, Int.add_mul, Int.add_mul]; ac_rfl
  rw [e1, h3, e2, h1, h2]
  have e3 : (t * r2 + nr * b) * q' * (q * v) = (t * q * (v * r2) + nr * v * (q * b)) * q' := by
    rw [Int.add_mul, Int.add_mul, Int.add_mul]; ac_rfl
  rw [e3]
theorem sums_cross {row : List Int} {rs : List Rat2} (hr : Bd 33 row) (hs : RatsOk rs) (hl : row.length = rs.length) : ∀ i, i ≤ row.length →
    (sumAt row rs i).1 * (sumT ((prodsOf row rs).take i)).2 = (sumT ((prodsOf row rs).take i)).1 * (sumAt row rs i).2
  | 0, _ => by
    rw [List.take_zero]
    show (mkR 0 1).1 * 1 = 0 * (mkR 0 1).2
    rw [one_rat, Int.zero_mul]
  | i + 1, h => by
    have ih := sums_cross hr hs hl i (by omega)
    have f1 : row[i]? = some row[i] := List.getElem?_eq_getElem (by omega)
    have f2 : rs[i]? = some rs[i] := List.getElem?_eq_getElem (by omega)
    generalize row[i] = n at f1
    generalize rs[i] = r at f2
    obtain ⟨s1, s2, s3⟩ := hs _ (List.mem_of_getElem? f2)
    obtain ⟨a1, _, _⟩ := sumAt_bd hr hs i (by omega) (by omega)
    have f3 : (prodsOf row rs)[i]? = some (n * r.1, r.2) := by
      unfold prodsOf
      rw [List.getElem?_map, (List.getElem?_zip_eq_some.mpr ⟨f1, f2⟩ : (row.zip rs)[i]? = some (n, r))]; rfl
    rw [sumAt_succ f1 f2, sumT_succ f3]
    have t0 : timesR (mkR n 1) r = mkR (n * r.1) r.2 := by
      rw [one_rat]; unfold timesR; rw [Int.one_mul]
    rw [t0]
    have u1 := mkR_x (a := n * r.1) s1
    have u2 := (mkR_ok (a := n * r.1) s1).1
    generalize mkR (n * r.1) r.2 = uv at u1 u2
    generalize sumAt row rs i = pq at ih a1
    generalize sumT ((prodsOf row rs).take i) = tb at ih
    have w1 := mkR_x (a := pq.1 * uv.2 + uv.1 * pq.2) (Int.mul_pos a1 u2)
    show (mkR (pq.1 * uv.2 + uv.1 * pq.2) (pq.2 * uv.2)).1 * (tb.2 * r.2) = (tb.1 * r.2 + n * r.1 * tb.2) * (mkR (pq.1 * uv.2 + uv.1 * pq.2) (pq.2 * uv.2)).2
    exact cross_step a1 u2 ih u1 w1
theorem prods_ok {row : List Int} {rs : List Rat2} (hr : Bd 33 row) (hs : RatsOk rs) : PsOk (prodsOf row rs) := fun p hp => by
  obtain ⟨q, hq, rfl⟩ := List.mem_map.mp hp
  obtain ⟨n, r⟩ := q
  obtain ⟨h1, h2⟩ := List.of_mem_zip hq
  obtain ⟨s1, s2, s3⟩ := hs r h2
  exact ⟨s1, s2, Nat.lt_of_lt_of_le (mul_bd (hr n h1) s3) (Nat.pow_le_pow_right (by decide) (by decide))⟩
theorem sums_zero {row : List Int} {rs : List Rat2} (hr : Bd 33 row) (hs : RatsOk rs) (hl : row.length = rs.length) : (lawSum (prodsOf row rs)).1 = 0 ↔ (rowSum row rs).1 = 0 := by
  have zl : (row.zip rs).length = row.length := by rw [List.length_zip]; omega
  have pl : (prodsOf row rs).length = row.length := by unfold prodsOf; rw [List.length_map, zl]
  have e1 : rowSum row rs = sumAt row rs row.length := by
    unfold sumAt
    rw [take_all (show row.length = (row.zip rs).length from zl.symm)]; rfl
  have c := sums_cross hr hs hl row.length (Nat.le_refl _)
  obtain ⟨b1, _, _⟩ := sumT_bd (prods_ok hr hs) row.length (by omega)
  obtain ⟨a1, _, _⟩ := sumAt_bd hr hs row.length (Nat.le_refl _) (by omega)
  rw [take_all pl.symm] at c b1
  rw [← e1] at c a1
  unfold lawSum
  rw [mkR_zero b1]
  constructor
  · intro z
    rw [z, Int.zero_mul] at c
    rcases Int.mul_eq_zero.mp c with y | y
    · exact y
    · omega
  · intro z
    rw [z, Int.zero_mul] at c
    rcases Int.mul_eq_zero.mp c.symm with y | y
    · exact y
    · omega
end Th

/-! part EL -/
namespace Th
open PySem PySem.Spec PyProof.Rows L2

theorem wh_free {x : V} : wh none none x = match x with | .int _ => true | _ => false := by cases x <;> rfl
theorem wh_o (x : Option Int) : wh none none (oV x) = x.isSome := by cases x <;> rfl
def isI : Nm → Bool
  | .int _ => true
  | _ => false
theorem nm_wh {S : Hp} {v : V} {x : Nm} (h : nmR S v x) : wh none none v = isI x := by
  cases x with
  | int n => cases (show v = .int n from h); rfl
  | non => cases (show v = .non from h); rfl
  | str z => cases (show v = .str z from h); rfl
  | bl b => cases (show v = .bl b from h); rfl
  | pair a b => obtain ⟨p, v1, v2, rfl, _⟩ := (show ratR S v (a, b) from h); rfl
theorem rat_some {x : Nm} (h : ∀ n, x ≠ .int n) : (asRat x).isNone = !isRat x := by
  cases x with
  | int n => exact absurd rfl (h n)
  | pair a b =>
    show Option.isNone (if isRat (.pair a b) = true then some (a, b) else none) = _
    cases isRat (.pair a b) <;> rfl
  | _ => rfl
def sp_law_lost_word : Sp := fun vs H Q _ => ∃ S rv av nv rows al ns, ∃ n l : Nat, vs = [rv, .int (n : Int), .int (l : Int), av, nv] ∧ Same S H ∧ lR lI S rv rows ∧ lR oR S av al ∧ lR nmR S nv ns ∧ (∀ r ∈ rows, r.length = n ∧ Bd 33 r) ∧ n ≤ 5 ∧ l < n ∧ rows.length ≤ 12 ∧ al.length ≤ 1000 ∧ ns.length ≤ 1000 ∧ NumsOk ns ∧ (∀ x ∈ ns, ∀ a b, x = .pair a b → b.natAbs < 2 ^ 8999) ∧ ∀ S' H' u, Ext No S H S' H' → optR strR S' u (lostFault rows n l (some al) ns) → Q u H'
theorem ok_law_lost_word {P : Program} {w : World} {K : PySem.W.Frag} {mg : Str → Option Value} {base : Heap} (T : Tx K mg) : FnOk P w K mg base CX0 3 A_law_lost_word (fdAt K A_law_lost_word) P_law_lost_word sp_law_lost_word := by
  refine (fn_law_lost_word T).ok sc_law_lost_word (fun vs H Q E h => ?_) (fun cdv A outer s H vs Q E hr h => ?_)
  · obtain ⟨S, rv, av, nv, rows, al, ns, n, l, rfl, _⟩ := h; rfl
  · obtain ⟨S, rv, av, nv, rows, al, ns, n, l, rfl, hS, ⟨ra, rvs, rfl, hra, hrs⟩, ⟨aa, avs, rfl, haa, hav⟩, ⟨na, nvs, rfl, hna, hnv⟩, hro, hn, hln, hrl, hall, hnl, hno, hnb, q⟩ := h
    refine ⟨_, PSs.nox (pss_cons (ps_if (pt_not (pt_val (pe_call (ok_law_seq T) (hr.mono (by decide)) (by rfl) (g_law_seq T) (fn_law_seq T).kp (b_law_seq T) .nil pass0 (pa_cons (pv 3) pa_nil))))
      (pss_one (ps_ret pe_str))
      pss_nil)
      (pss_cons (ps_for PassesOwn.never rfl (pi_range1 (by rfl) (f_range T) (pa_cons (pe_callB call_len_seq (by rfl) (f_len T) bt_len (pa_cons (pv 3) pa_nil)) pa_nil)) (pg_name (i := 5) sc_law_lost_word.nd rfl (.inr rfl))
      (pss_one (ps_if (PW.pt (pw_or (pt_not (pt_val (pe_call (ok_law_int T) (hr.mono (by decide)) (by rfl) (g_law_int T) (fn_law_int T).kp (b_law_int T) .nil pass0 (pa_cons (pe_ix ix_list (pv 3) (pv 5) (fun _ _ => rfl)) pa_nil)))) (pw_or (pt_not (pt_chain op_le op_lt pe_int (pe_ix ix_list (pv 3) (pv 5) (fun _ _ => rfl)) (pe_callB call_len_seq (by rfl) (f_len T) bt_len (pa_cons (pv 0) pa_nil)))) (pw_or1 (PW.pt (pw_and (pt_cmpR op_gt (pv 5) pe_int (nomark _)) (pw_and1 (pt_cmpR op_le (pe_ix ix_list (pv 3) (pv 5) (fun _ _ => rfl)) (pe_ix ix_list (pv 3) (pe_op op_sub (pv 5) pe_int) (fun _ _ => rfl)) (nomark _)))))))))
      (pss_one (ps_ret pe_str))
      pss_nil)))
      (pss_cons (ps_if (PW.pt (pw_or (pt_not (pt_val (pe_call (ok_law_seq T) (hr.mono (by decide)) (by rfl) (g_law_seq T) (fn_law_seq T).kp (b_law_seq T) .nil pass0 (pa_cons (pv 4) pa_nil)))) (pw_or1 (pt_cmpR op_ne (pe_callB call_len_seq (by rfl) (f_len T) bt_len (pa_cons (pv 4) pa_nil)) (pv 1) (nomark _)))))
      (pss_one (ps_ret pe_str))
      pss_nil)
      (pss_cons (ps_if (pt_truK (pe_lc (own := [("_law_one", 7)]) (g := gName 7) rfl sc_law_lost_word.nd (pi_list (pv 4)) (blkOk_by (N := N_law_lost_word) (sc := defScope st_law_lost_word) (by decide +kernel)) (fun _ _ _ _ _ => (pg_name (i := 7) sc_law_lost_word.nd rfl (.inl rfl))) (fun _ _ _ _ _ => (pts_one (PW.pt (pw_and (pt_not (pt_val (pe_call (ok_law_int T) (hr.mono (by decide)) (by rfl) (g_law_int T) (fn_law_int T).kp (b_law_int T) .nil pass0 (pa_cons (pv 7) pa_nil)))) (pw_and1 (pt_not (pt_val (pe_call (ok_law_is_ratio T) hr (by rfl) (g_law_is_ratio T) (fn_law_is_ratio T).kp (b_law_is_ratio T) .nil pass0 (pa_cons (pv 7) pa_nil))))))))) (fun _ _ _ _ _ => (pv 7))) (by intro _; rfl))
      (pss_one (ps_ret pe_str))
      pss_nil)
      (pss_cons (ps_set (i := 6) sc_law_lost_word.nd rfl (.inr rfl) (pe_lc (own := [("_law_one", 7)]) (g := gName 7) rfl sc_law_lost_word.nd (pi_list (pv 4)) (blkOk_by (N := N_law_lost_word) (sc := defScope st_law_lost_word) (by decide +kernel)) (fun _ _ _ _ _ => (pg_name (i := 7) sc_law_lost_word.nd rfl (.inl rfl))) (fun _ _ _ _ _ => pts_nil) (fun _ _ _ _ _ => (pe_ifExp (pt_val (pe_call (ok_law_int T) (hr.mono (by decide)) (by rfl) (g_law_int T) (fn_law_int T).kp (b_law_int T) .nil pass0 (pa_cons (pv 7) pa_nil))) (pe_tup (pa_cons (pv 7) (pa_cons pe_int pa_nil))) (pv 7)))))
      (pss_cons (ps_for PassesOwn.never rfl (pi_range1 (by rfl) (f_range T) (pa_cons (pe_callB call_len_seq (by rfl) (f_len T) bt_len (pa_cons (pv 0) pa_nil)) pa_nil)) (pg_name (i := 5) sc_law_lost_word.nd rfl (.inr rfl))
      (pss_one (ps_if (PW.pt (pw_and (pt_cmpR op_notIn_seq (pv 5) (pv 3) (by rfl)) (pw_and1 (pt_cmpR op_ne (pe_ix ix_tup (pe_call (ok_law_sum T) hr (by rfl) (g_law_sum T) (fn_law_sum T).kp (b_law_sum T) .nil pass0 (pa_cons (pe_lc (own := [("_law_k", 8)]) (g := gName 8) rfl sc_law_lost_word.nd (pi_range1 (by rfl) (f_range T) (pa_cons (pv 1) pa_nil)) (blkOk_by (N := N_law_lost_word) (sc := defScope st_law_lost_word) (by decide +kernel)) (fun _ _ _ _ _ => (pg_name (i := 8) sc_law_lost_word.nd rfl (.inl rfl))) (fun _ _ _ _ _ => pts_nil) (fun _ _ _ _ _ => (pe_tup (pa_cons (pe_op op_mulW (pe_ix (show IxR _ (rIxL K) from ix_list) (pe_ix (show IxR _ (rIxL K) from ix_list) (pv 0) (pv 5) (fun _ _ => rfl)) (pv 8) (fun _ _ => rfl)) (pe_ix (show IxR _ (rIxT K) from ix_tup) (pe_ix (show IxR _ (rIxL K) from ix_list) (pv 6) (pv 8) (fun _ _ => rfl)) pe_int (fun _ _ => rfl))) (pa_cons (pe_ix (show IxR _ (rIxT K) from ix_tup) (pe_ix (show IxR _ (rIxL K) from ix_list) (pv 6) (pv 8) (fun _ _ => rfl)) pe_int (fun _ _ => rfl)) pa_nil))))) pa_nil)) pe_int (fun _ _ => rfl)) pe_int (nomark _)))))
      (pss_one (ps_ret pe_str))
      pss_nil)))
      (pss_one (ps_ret (pe_ifExp (pt_cmpR op_eq (pe_ix ix_tup (pe_ix ix_list (pv 6) (pv 2) (fun _ _ => rfl)) pe_int (fun _ _ => rfl)) pe_int (nomark _)) pe_str pe_non))))))))), ?_⟩
    have e0 := Ext.refl (m := No) hS
    have rvl := hrs.len
    cases all2_oV hav
    have nvl := hnv.len
    have alm : (al.map oV).length = al.length := List.length_map ..
    have ta : tyN H (.ref aa) = some "list" := by show tyO (H aa) = _; rw [hS _ _ haa]; rfl
    refine ⟨_, rfl, _, "list", rfl, ta, _, rfl, iteF ?_⟩
    refine ⟨_, rfl, aa, _, rfl, .inl (SqL.of (hS _ _ haa)), ((al.length : Nat) : Int), by rw [alm], by omega, by omega, forE (S0 := S) (H0 := H) (m := No) (σ := [some (.ref ra), some (.int (n : Int)), some (.int (l : Int)), some (.ref aa), some (.ref na), none, none, none, none]) walk0
      (fun i σ S' H' => Same S S' ∧ (∃ x5, σ = [some (.ref ra), some (.int (n : Int)), some (.int (l : Int)), some (.ref aa), some (.ref na), x5, none, none, none]) ∧ ∀ j, j < i → okAt rows.length al j = true) e0 ⟨Same.refl _, ⟨none, rfl⟩, fun j hj => by omega⟩ (fun _ _ _ _ _ _ _ => trivial) (fun i x σ S5 H5 H6 hi e5 p5 hy => ?_) fun σ S5 H5 e5 p5 => ?_⟩
    · obtain ⟨sm, ⟨x5, rfl⟩, hz⟩ := p5
      obtain ⟨rfl, rfl⟩ := hy
      have k5 := sm.trans e5.i
      have f3 : al[i]? = some (al.getD i none) := by rw [List.getD_eq_getElem?_getD, List.getElem?_eq_getElem hi]; rfl
      have hat : atI (al.map oV) (i : Int) = some (oV (al.getD i none)) := atI_nat (by rw [List.getElem?_map, f3]; rfl)
      obtain ⟨t2, ht2⟩ := oV_ty H6 (al.getD i none)
      have oke : okAt rows.length al i = okOne rows.length i (prevOf al i) (al.getD i none) := rfl
      have bad : okAt rows.length al i = false → lostFault rows n l (some al) ns = some wAnswers := fun hb => by
        have : ansOk rows.length al = false := by
          unfold ansOk
          refine List.all_eq_false.mpr ⟨i, List.mem_range.mpr hi, by rw [hb]; decide⟩
        show (if ansOk rows.length al = false then _ else _) = _
        rw [if_pos this]
      have lst5 : SqL K H6 aa (al.map oV) := SqL.of (k5 _ _ haa)
      generalize hov : al.getD i none = ov at *
      refine ⟨_, rfl, _, rfl, _, _, _, _, rfl, rfl, lst5, hat, _, t2, rfl, ht2, _, rfl, ?_⟩
      cases ov with
      | none =>
        refine iteT ?_
        exact iteT (q S5 _ _ e5 (by rw [bad (by rw [oke]; rfl)]; rfl))
      | some m =>
        refine iteF ⟨_, rfl, _, rfl, _, _, _, _, rfl, rfl, lst5, hat, _, _, rfl, rfl, _, rfl, ?_⟩
        have okv : okAt rows.length al i = ((decide (0 ≤ m) && decide (m ≤ (rows.length : Int) - 1)) && (decide (i = 0) || decide (prevOf al i < m))) := oke
        have qb : okAt rows.length al i = false → Q (.str wAnswers) H6 := fun z => q S5 _ _ e5 (by rw [bad z]; rfl)
        refine ifD (fun z0 => ?_) fun z0 => ?_
        · refine ⟨_, rfl, ra, rvs, rfl, .inl (SqL.of (k5 _ _ hra)), _, _, rfl, rfl, _, rfl, ?_⟩
          rw [rvl]
          by_cases z1 : m < (rows.length : Int)
          · rw [decide_eq_true z1]
            rw [decide_eq_true z0, decide_eq_true (show m ≤ (rows.length : Int) - 1 by omega)] at okv
            have nxt : okAt rows.length al i = true → ∃ S', Ext No S H S' H6 ∧ Same S S' ∧ (∃ x5, [some (V.ref ra), some (.int (n : Int)), some (.int (l : Int)), some (.ref aa), some (.ref na), some (.int (i : Int)), none, none, none] = [some (V.ref ra), some (.int (n : Int)), some (.int (l : Int)), some (.ref aa), some (.ref na), x5, none, none, none]) ∧ ∀ j, j < i + 1 → okAt rows.length al j = true := fun hk =>
              ⟨S5, e5, sm, ⟨_, rfl⟩, fun j hj => by
                rcases Nat.lt_succ_iff_lt_or_eq.mp hj with z | z
                · exact hz j z
                · rw [z]; exact hk⟩
            refine iteF ⟨_, rfl, _, _, rfl, rfl, _, rfl, ?_⟩
            by_cases hi0 : i = 0
            · rw [decide_eq_false (show ¬ ((0 : Int) < (i : Int)) by omega)]
              exact iteF (iteF (nxt (by rw [okv, decide_eq_true hi0]; rfl)))
            · rw [decide_eq_true (show ((0 : Int) < (i : Int)) by omega)]
              have hp := hz (i - 1) (by omega)
              have hpe : al[i - 1]? = some (al.getD (i - 1) none) := by rw [List.getD_eq_getElem?_getD, List.getElem?_eq_getElem (show i - 1 < al.length by omega)]; rfl
              have hpv : ∃ pv, al.getD (i - 1) none = some pv := by
                cases hh : al.getD (i - 1) none with
                | none =>
                  unfold okAt at hp
                  rw [hh] at hp; cases hp
                | some pv => exact ⟨pv, rfl⟩
              obtain ⟨pv, hpv⟩ := hpv
              have hprev : prevOf al i = pv := by unfold prevOf; rw [hpv]; rfl
              have hat1 : atI (al.map oV) ((i : Int) - 1) = some (.int pv) := by
                rw [show (i : Int) - 1 = ((i - 1 : Nat) : Int) by omega]
                exact atI_nat (by rw [List.getElem?_map, hpe, hpv]; rfl)
              refine iteT ⟨_, rfl, _, rfl, _, _, _, _, rfl, rfl, lst5, hat, _, rfl, _, rfl, _, _, rfl, rfl, _, _, _, _, rfl, rfl, lst5, hat1, _, _, rfl, rfl, _, rfl, ifD (fun z => ?_) fun z => ?_⟩
              · exact qb (by rw [okv, hprev, decide_eq_false hi0, decide_eq_false (by omega)]; rfl)
              · exact nxt (by rw [okv, hprev, decide_eq_true (show pv < m by omega)]; simp)
          · rw [decide_eq_false z1]
            exact iteT (iteT (qb (by rw [okv, decide_eq_false (show ¬ m ≤ (rows.length : Int) - 1 by omega), Bool.and_false]; rfl)))
        · exact ⟨_, rfl, iteT (iteT (qb (by rw [okv, decide_eq_false z0]; rfl)))⟩
    · obtain ⟨sm, ⟨x5, rfl⟩, hz⟩ := p5
      have aok : ansOk rows.length al = true := by
        unfold ansOk
        exact List.all_eq_true.mpr fun j hj => hz j (List.mem_range.mp hj)
      have lf : lostFault rows n l (some al) ns = if ns.length ≠ n then some wMany else if (ns.any fun x => (asRat x).isNone) = true then some wMany
          else if ((List.range rows.length).any fun i => decide (some (i : Int) ∉ al) && decide ((rowSum (rows.getD i []) (ratsOf ns)).1 ≠ 0)) = true then some wOutside else if ((ratsOf ns).getD l (0, 1)).1 = 0 then some wLetter else none := by
        show (if ansOk rows.length al = false then _ else _) = _
        rw [if_neg (by rw [aok]; decide)]
      have k5 := sm.trans e5.i
      have tn : tyN H5 (.ref na) = some "list" := by show tyO (H5 na) = _; rw [k5 _ _ hna]; rfl
      refine ⟨_, rfl, _, "list", rfl, tn, _, rfl, iteF ?_⟩
      refine ⟨_, rfl, na, nvs, rfl, .inl (SqL.of (k5 _ _ hna)), _, rfl, rfl, _, rfl, ?_⟩
      rw [dV, nvl]
      refine ifN (fun z => ?_) fun z => ?_
      · refine q S5 _ _ e5 ?_
        rw [lf, if_pos (by omega)]; rfl
      · rw [if_neg (show ¬ (ns.length ≠ n) by omega)] at lf
        refine ⟨_, rfl, na, rfl, ⟨_, SqL.of (k5 _ _ hna)⟩, lcP (S0 := S5) (H0 := H5) (σ := [some (.ref ra), some (.int (n : Int)), some (.int (l : Int)), some (.ref aa), some (.ref na), x5, none, none, none]) (walk_list (xs := nvs)) (by omega)
          (fun i acc _ => (!acc.isEmpty) = (ns.take i).any fun x => (asRat x).isNone) (Ext.refl e5.i) rfl (fun _ _ _ _ _ e _ => SqL.of (e.i _ _ (e.s _ _ (sm _ _ hna)))) (fun i x acc S7 H7 H8 Kt Kf hi e7 p hy kt kf => ?_) fun d acc S7 H7 hd e7 hs he _ p => ?_⟩
        · obtain ⟨rfl, hx⟩ := hy
          obtain ⟨nm, f1, f2⟩ := hnv.get hx
          have f2 := nmR_m _ _ _ _ (sm.trans e7.s) f2
          refine ⟨rfl, _, rfl, x, _, rfl, nm_ty e7.i f2, _, rfl, ?_⟩
          rw [nm_wh f2]
          have tk : ((ns.take (i + 1)).any fun x => (asRat x).isNone) = (((ns.take i).any fun x => (asRat x).isNone) || (asRat nm).isNone) := by
            rw [take_get f1, List.any_append, List.any_cons, List.any_nil, Bool.or_false]
          have skp : (asRat nm).isNone = false → ∀ S' H', Ext No S7 H8 S' H' → Kf H' := fun z S' H' e => kf S' H' e (by rw [tk, z, Bool.or_false]; exact p)
          by_cases hni : ∀ n, nm ≠ .int n
          · have em : isI nm = false := by
              cases nm with
              | int m => exact absurd rfl (hni m)
              | _ => rfl
            rw [em]
            refine iteT ⟨_, rfl, S7, x, nm, rfl, e7.i, f2, hnb nm (List.mem_of_getElem? f1), fun H' e' => ⟨_, rfl, ?_⟩⟩
            have rs := rat_some hni
            cases hb : isRat nm with
            | true => exact iteF (skp (by rw [rs, hb]; rfl) S7 H' e')
            | false => exact iteT ⟨_, rfl, kt x S7 H' e' (by rw [tk, rs, hb, Bool.not_false, Bool.or_true]; cases acc <;> rfl)⟩
          · cases nm with
            | int m => exact iteF (iteF (skp rfl _ _ (Ext.refl e7.i)))
            | _ => exact absurd (by intro n z; cases z) hni
        · rw [take_all (show nvs.length = ns.length from nvl)] at p
          have e8 := e7.fix hd hs he
          have k8 := (sm.trans e8.s).trans e8.i
          refine ⟨!acc.isEmpty, .inl ⟨acc, SqL.of he, rfl⟩, ?_⟩
          rw [p]
          by_cases hnn : (ns.any fun x => (asRat x).isNone) = true
          · rw [hnn]
            refine iteT (q _ _ _ (e5.trans e8) ?_)
            rw [lf, if_pos hnn]; rfl
          · have hn' : (ns.any fun x => (asRat x).isNone) = false := by
              cases h : (ns.any fun x => (asRat x).isNone) with
              | true => exact absurd h hnn
              | false => rfl
            rw [hn']
            rw [if_neg hnn] at lf
            have nsome : ∀ x ∈ ns, ∃ r, asRat x = some r := fun x hx => by
              cases h : asRat x with
              | some r => exact ⟨r, rfl⟩
              | none => exact absurd (List.any_eq_true.mpr ⟨x, hx, by rw [h]; rfl⟩) hnn
            have rl : (ratsOf ns).length = ns.length := List.length_map ..
            have rok : RatsOk (ratsOf ns) := fun r hr => by
              obtain ⟨x, hx, rfl⟩ := List.mem_map.mp hr
              obtain ⟨r', hr'⟩ := nsome x hx
              rw [hr']; exact hno x hx r' hr'
            have e58 := e5.trans e8
            generalize upd S7 d (.lst acc) = S8 at e8 k8 e58
            refine iteF ⟨_, rfl, na, rfl, ⟨_, SqL.of (k8 _ _ hna)⟩, lcP (S0 := S8) (H0 := H7) (σ := [some (.ref ra), some (.int (n : Int)), some (.int (l : Int)), some (.ref aa), some (.ref na), x5, none, none, none]) (walk_list (xs := nvs)) (by omega)
              (fun i acc S' => All2 (ratR S') acc ((ratsOf ns).take i)) (Ext.refl e8.i) .nil (fun _ _ _ _ _ e _ => SqL.of (e.i _ _ (e.s _ _ ((sm.trans e8.s) _ _ hna)))) (fun i x acc S9 H9 H10 Kt Kf hi e9 p hy kt kf => ?_) fun d2 acc2 S9 H9 hd2 e9 hs2 he2 _ p2 => ?_⟩
            · obtain ⟨rfl, hx⟩ := hy
              obtain ⟨nm, f1, f2⟩ := hnv.get hx
              have f2 := nmR_m _ _ _ _ ((sm.trans e8.s).trans e9.s) f2
              obtain ⟨r, hr⟩ := nsome nm (List.mem_of_getElem? f1)
              have f3 : (ratsOf ns)[i]? = some r := by
                unfold ratsOf
                rw [List.getElem?_map, f1]
                show some ((asRat nm).getD (0, 1)) = _
                rw [hr]; rfl
              refine ⟨rfl, _, rfl, x, _, rfl, nm_ty e9.i f2, _, rfl, ?_⟩
              rw [nm_wh f2]
              cases nm with
              | int m =>
                have er : (m, (1 : Int)) = r := Option.some.inj hr
                cases (show x = .int m from f2)
                refine iteT ⟨_, rfl, two_le, fun p9 h9 => kt _ _ _ ((Ext.refl e9.i).new h9) ?_⟩
                rw [take_get f3]
                refine (p.mono ratR_m (same_upd (none_of_same e9.i h9))).snoc ?_
                rw [← er]
                exact ⟨p9, _, _, rfl, upd_same, rfl, rfl⟩
              | pair a b =>
                have er : r = (a, b) := by
                  have : (if isRat (.pair a b) = true then some (a, b) else none) = some r := hr
                  cases hb : isRat (.pair a b) with
                  | true => rw [hb] at this; exact (Option.some.inj this).symm
                  | false => rw [hb] at this; cases this
                refine iteF ⟨_, rfl, kt x S9 _ (Ext.refl e9.i) ?_⟩
                rw [take_get f3]
                refine p.snoc ?_
                rw [er]; exact f2
              | non => cases hr
              | str z => cases hr
              | bl z => cases hr
            · rw [take_all (show nvs.length = (ratsOf ns).length by rw [rl]; exact nvl)] at p2
              have e10 := e9.fix hd2 hs2 he2
              have p8 := p2.mono ratR_m (same_upd (o := .lst acc2) hs2)
              have hd8 : upd S9 d2 (.lst acc2) d2 = some (.lst acc2) := upd_same
              have e510 := e58.trans e10
              have k10 : Same S (upd S9 d2 (.lst acc2)) := (sm.trans e8.s).trans e10.s
              generalize upd S9 d2 (.lst acc2) = S10 at e10 p8 hd8 e510 k10
              have ki := k10.trans e10.i
              refine ⟨_, rfl, ra, rvs, rfl, .inl (SqL.of (ki _ _ hra)), ((rows.length : Nat) : Int), by rw [rvl], by omega, by omega, forE (S0 := S) (H0 := H) (m := No) (σ := [some (.ref ra), some (.int (n : Int)), some (.int (l : Int)), some (.ref aa), some (.ref na), x5, some (.ref d2), none, none]) walk0
                (fun i σ S' H' => Same S10 S' ∧ (∃ x5, σ = [some (.ref ra), some (.int (n : Int)), some (.int (l : Int)), some (.ref aa), some (.ref na), x5, some (.ref d2), none, none]) ∧ ∀ j, j < i → (decide (some (j : Int) ∉ al) && decide ((rowSum (rows.getD j []) (ratsOf ns)).1 ≠ 0)) = false)
                e510 ⟨Same.refl _, ⟨_, rfl⟩, fun j hj => by omega⟩ (fun _ _ _ _ _ _ _ => trivial) (fun i x σ S11 H11 H12 hi e11 p11 hy => ?_) fun σ S11 H11 e11 p11 => ?_⟩
              · obtain ⟨sm11, ⟨x5', rfl⟩, hz11⟩ := p11
                obtain ⟨rfl, rfl⟩ := hy
                have k11 := (k10.trans sm11).trans e11.i
                have f1 : rvs[i]? = some (rvs[i]'(by omega)) := List.getElem?_eq_getElem _
                obtain ⟨row, f3, f4⟩ := hrs.get f1
                obtain ⟨rwl, rwb⟩ := hro row (List.mem_of_getElem? f3)
                have rgd : rows.getD i [] = row := getD_of f3
                have nxt : ∀ (S12 H13 : Hp), Ext No S11 H12 S12 H13 → (decide (some (i : Int) ∉ al) && decide ((rowSum (rows.getD i []) (ratsOf ns)).1 ≠ 0)) = false → ∃ S', Ext No S H S' H13 ∧ Same S10 S' ∧ (∃ x5, [some (V.ref ra), some (.int (n : Int)), some (.int (l : Int)), some (.ref aa), some (.ref na), some (.int (i : Int)), some (.ref d2), none, none] = [some (V.ref ra), some (.int (n : Int)), some (.int (l : Int)), some (.ref aa), some (.ref na), x5, some (.ref d2), none, none]) ∧ ∀ j, j < i + 1 → (decide (some (j : Int) ∉ al) && decide ((rowSum (rows.getD j []) (ratsOf ns)).1 ≠ 0)) = false := fun S12 H13 e12 hk =>
                  ⟨S12, e11.trans e12, sm11.trans e12.s, ⟨_, rfl⟩, fun j hj => by
                    rcases Nat.lt_succ_iff_lt_or_eq.mp hj with z | z
                    · exact hz11 j z
                    · rw [z]; exact hk⟩
                refine ⟨_, rfl, _, rfl, aa, _, rfl, .inl (SqL.of (k11 _ _ haa)), rfl, flat_opt _, _, rfl, ?_⟩
                rw [inV_opt]
                by_cases him : some (i : Int) ∈ al
                · rw [decide_eq_true him]
                  exact iteF (iteF (nxt _ _ (Ext.refl e11.i) (by rw [decide_eq_false (fun y => y him)]; rfl)))
                · rw [decide_eq_false him]
                  have pl : (prodsOf row (ratsOf ns)).length = n := by unfold prodsOf; rw [List.length_map, List.length_zip]; omega
                  refine iteT ⟨_, rfl, ((n : Nat) : Int), rfl, by omega, by omega, lcP (S0 := S11) (H0 := H12) (σ := [some (.ref ra), some (.int (n : Int)), some (.int (l : Int)), some (.ref aa), some (.ref na), some (.int (i : Int)), some (.ref d2), none, none]) walk0 (by omega)
                    (fun k acc S' => All2 (ratR S') acc ((prodsOf row (ratsOf ns)).take k)) (Ext.refl e11.i) .nil (fun _ _ _ _ _ _ _ => trivial) (fun k x acc S13 H13 H14 Kt Kf hk e p hy kt kf => ?_) fun d3 acc3 S13 H13 hd3 e13 hs3 he3 _ p3 => ?_⟩
                  · obtain ⟨rfl, rfl⟩ := hy
                    have hk' : k < n := hk
                    have rk : row[k]? = some (row.getD k 0) := by rw [List.getD_eq_getElem?_getD, List.getElem?_eq_getElem (show k < row.length by omega)]; rfl
                    have qk : (ratsOf ns)[k]? = some ((ratsOf ns).getD k (0, 1)) := by rw [List.getD_eq_getElem?_getD, List.getElem?_eq_getElem (show k < (ratsOf ns).length by omega)]; rfl
                    generalize (ratsOf ns).getD k (0, 1) = r at qk
                    obtain ⟨s1, s2, s3⟩ := rok r (List.mem_of_getElem? qk)
                    have pk : (prodsOf row (ratsOf ns))[k]? = some (row.getD k 0 * r.1, r.2) := by
                      unfold prodsOf
                      rw [List.getElem?_map, (List.getElem?_zip_eq_some.mpr ⟨rk, qk⟩ : (row.zip (ratsOf ns))[k]? = some (row.getD k 0, r))]; rfl
                    obtain ⟨pb, hpb, hpr⟩ := p8.get2 qk
                    have kk := sm11.trans e.s
                    obtain ⟨rp, rfl, htp⟩ := rat_ix (K := K) (kk.trans e.i) hpr
                    obtain ⟨rwa, hrwe, hrwa⟩ := lI_m _ _ _ _ (k10.trans kk) f4
                    rw [hrwe] at f1
                    obtain ⟨x1, x2⟩ := int_ix (K := K) e.i hrwa (by omega : k < row.length)
                    have sp := SqL.of (K := K) (e.i _ _ (kk _ _ hd8))
                    have sr := SqL.of (K := K) (e.i _ _ ((k10.trans kk) _ _ hra))
                    refine ⟨rfl, _, rfl, _, rfl, _, _, _, _, rfl, rfl, sr, atI_nat f1, _, rfl, _, _, _, _, rfl, rfl, x1, x2, ?_⟩
                    refine ⟨_, rfl, _, rfl, _, _, _, _, rfl, rfl, sp, atI_nat hpb, _, _, _, _, rfl, rfl, htp, atI_nat (j := 0) rfl, _, _, rfl, rfl, mulW (rwb.at_ k) s3 (by decide), ?_⟩
                    refine ⟨_, rfl, _, rfl, _, _, _, _, rfl, rfl, sp, atI_nat hpb, _, _, _, _, rfl, rfl, htp, atI_nat (j := 1) rfl, two_le, fun p9 h9 => ?_⟩
                    refine kt _ _ _ ((Ext.refl e.i).new h9) ?_
                    rw [take_get pk]
                    exact (p.mono ratR_m (same_upd (none_of_same e.i h9))).snoc ⟨p9, _, _, rfl, upd_same, rfl, rfl⟩
                  · rw [take_all pl.symm] at p3
                    have e14 := e13.fix hd3 hs3 he3
                    have p4 := p3.mono ratR_m (same_upd (o := .lst acc3) hs3)
                    have hd4 : upd S13 d3 (.lst acc3) d3 = some (.lst acc3) := upd_same
                    generalize upd S13 d3 (.lst acc3) = S14 at e14 p4 hd4
                    refine ⟨S14, _, prodsOf row (ratsOf ns), rfl, e14.i, ⟨d3, acc3, rfl, hd4, p4⟩, prods_ok rwb rok, by omega, fun S15 H15 u15 e15 hu15 => ?_⟩
                    obtain ⟨rp, rfl, htp⟩ := rat_ix (K := K) e15.i hu15
                    refine ⟨_, _, _, _, rfl, rfl, htp, atI_nat (j := 0) rfl, rfl, _, rfl, ?_⟩
                    have sz := sums_zero rwb rok (by omega : row.length = (ratsOf ns).length)
                    rw [dV]
                    refine ifN (fun z => ?_) fun z => ?_
                    · refine q S15 _ _ (e11.trans (e14.trans e15)) ?_
                      rw [lf, if_pos (List.any_eq_true.mpr ⟨i, List.mem_range.mpr (by omega), by rw [rgd, decide_eq_true him, decide_eq_true (p := (rowSum row (ratsOf ns)).1 ≠ 0) (fun y => z (sz.mpr y))]; rfl⟩)]; rfl
                    · exact nxt _ _ (e14.trans e15) (by rw [rgd, decide_eq_false (p := (rowSum row (ratsOf ns)).1 ≠ 0) (fun y => y (sz.mp z)), Bool.and_false])
              · obtain ⟨sm11, ⟨x5', rfl⟩, hz11⟩ := p11
                have nofar : ¬ ((List.range rows.length).any fun i => decide (some (i : Int) ∉ al) && decide ((rowSum (rows.getD i []) (ratsOf ns)).1 ≠ 0)) = true := fun y => by
                  obtain ⟨j, hj, hj2⟩ := List.any_eq_true.mp y
                  rw [hz11 j (by have := List.mem_range.mp hj; omega)] at hj2
                  cases hj2
                rw [if_neg nofar] at lf
                have ll : l < (ratsOf ns).length := by omega
                have g1 : acc2[l]? = some (acc2[l]'(by rw [p8.len]; exact ll)) := List.getElem?_eq_getElem _
                obtain ⟨r, g2, g3⟩ := p8.get g1
                obtain ⟨rp, hrp, htp⟩ := rat_ix (K := K) (sm11.trans e11.i) g3
                rw [hrp] at g1
                have gl : (ratsOf ns).getD l (0, 1) = r := by rw [List.getD_eq_getElem?_getD, g2]; rfl
                rw [gl] at lf
                refine ⟨_, rfl, _, rfl, _, _, _, _, rfl, rfl, SqL.of (e11.i _ _ (sm11 _ _ hd8)), atI_nat g1, _, _, _, _, rfl, rfl, htp, atI_nat (j := 0) rfl, rfl, _, rfl, ?_⟩
                rw [dV]
                refine ifD (fun z => ?_) fun z => ?_
                · exact q S11 _ _ e11 (by rw [lf, if_pos z]; rfl)
                · exact q S11 _ _ e11 (by rw [lf, if_neg z]; rfl)
end Th

/-! part EM -/
namespace Th
open PySem PySem.Spec PyProof.Rows L2

def someL (l : List Nat) : List (Option Int) := l.map fun i : Nat => some (i : Int)
def AlOk (m : Nat) (lot : List Nat) (al : List (Option Int)) : Prop := al = someL lot ∨ ∃ p : Nat → Bool, (∀ i ∈ lot, p i = true) ∧ al = someL ((List.range m).filter p)
def halfOf (x : Int) (y : Nm) : Prop := y = .pair (mkR x 2).1 (mkR x 2).2 ∨ ((mkR x 2).2 = 1 ∧ y = .int (mkR x 2).1)
def NsOk (xs : List Int) (ns : List Nm) : Prop := ns = xs.map .int ∨ (ns.length = xs.length ∧ ∀ (i : Nat) x, xs[i]? = some x → ∃ y, ns[i]? = some y ∧ halfOf x y)
def Sound (rows : List (List Int)) (n l : Nat) (lot : List Nat) (xs : List Int) : Prop := ∀ al ns, AlOk rows.length lot al → NsOk xs ns → lostFault rows n l (some al) ns = none ∧ NumsOk ns
theorem tN_ans {S : Hp} {v : V} {lot : List Nat} (h : tN S v lot) : ansR S v (some (someL lot)) := by
  obtain ⟨a, rfl, ha⟩ := h
  refine .inr ⟨a, _, rfl, ha, ?_⟩
  unfold someL
  exact All2.map (R := oR S) (fun n : Nat => V.int n) (fun i : Nat => some (i : Int)) (fun _ => rfl) lot
theorem tI_nums {S : Hp} {v : V} {xs : List Int} (h : tI S v xs) : sR nmR S v (xs.map .int) := by
  obtain ⟨a, rfl, ha⟩ := h
  exact .inr ⟨a, _, rfl, ha, All2.map (R := nmR S) V.int Nm.int (fun _ => rfl) xs⟩
theorem rats_nums {S : Hp} : ∀ {vs : List V} {k : List (Int × Int)}, All2 (ratR S) vs k → All2 (nmR S) vs (k.map fun r => .pair r.1 r.2)
  | _, _, .nil => .nil
  | _, _, .cons h t => .cons h (rats_nums t)
theorem lost_new {S H : Hp} {x dx : Addr} {r m : V} {n : Addr → Prop} (hS : Same S H) (hx : H x = none) (hdx : H dx = none) (hne : dx ≠ x) :
    Ext No S H (upd S x (.ins C_Lost dx [("answers", r), ("numbers", m)])) (upd (upd (upd (upd H dx (.own x)) x (.ins C_Lost dx [])) x (.ins C_Lost dx [("answers", r)])) x (.ins C_Lost dx [("answers", r), ("numbers", m)])) := by
  have E3 := (Ext.refl (m := No) hS).newM (o := .own x) hdx
  have hx' : upd H dx (.own x) x = none := by rw [upd_ne hne.symm]; exact hx
  have E4 := E3.newM (o := .ins C_Lost dx []) hx'
  have sx := none_of_same E3.i hx'
  have E5 := (E4.mut (o := .ins C_Lost dx [("answers", r)]) (.inl hx) sx).mut (o := .ins C_Lost dx [("answers", r), ("numbers", m)]) (.inl hx) sx
  exact E5.fix hx sx upd_same
def sp_law_judged : Sp := fun vs H Q _ => ∃ S hd mv bv tv rv h w cells ls book lot xs, ∃ l : Nat, vs = [.ref hd, mv, bv, .int (l : Int), tv, rv] ∧ Same S H ∧ Hand S H hd ∧ Bk S mv bv h w cells ls book ∧ l < manyN ls ∧ LostV S tv (lot, xs) ∧ lR lI S rv (spanRows h w cells ls book) ∧ (spanRows h w cells ls book).length ≤ 12 ∧ xs.length ≤ 1000 ∧ (∀ i ∈ lot, i < (spanRows h w cells ls book).length) ∧ Sound (spanRows h w cells ls book) (manyN ls) l lot xs ∧ ∀ S' H', Ext (· = hd) S H S' H' → Hand S' H' hd → Q (.bl true) H'
theorem ok_law_judged {P : Program} {w : World} {K : PySem.W.Frag} {mg : Str → Option Value} {base : Heap} (T : Tx K mg) : FnOk P w K mg base CX0 6 A_law_judged (fdAt K A_law_judged) P_law_judged sp_law_judged := by
  refine (fn_law_judged T).ok sc_law_judged (fun vs H Q E h => ?_) (fun cdv A outer s H vs Q E hr h => ?_)
  · obtain ⟨S, hd, mv, bv, tv, rv, h, w, cells, ls, book, lot, xs, l, rfl, _⟩ := h; rfl
  · obtain ⟨S, hd, mv, bv, tv, rv, h, w', cells, ls, book, lot, xs, l, rfl, hS, hH, hb, hl, hlost, ⟨ra, rvs, rfl, hra, hrs⟩, hrl, hxl, hlo, hsn, q⟩ := h
    refine ⟨_, PSs.nox (pss_cons (ps_set (i := 6) sc_law_judged.nd rfl (.inr rfl) (pe_lc (own := [("_law_one", 10)]) (g := gName 10) rfl sc_law_judged.nd (pi_seqW (pe_fld (pv 4) rfl)) (blkOk_by (N := N_law_judged) (sc := defScope st_law_judged) (by decide +kernel)) (fun _ _ _ _ _ => (pg_name (i := 10) sc_law_judged.nd rfl (.inl rfl))) (fun _ _ _ _ _ => pts_nil) (fun _ _ _ _ _ => (pe_call (ok_law_ratio T) (hr.mono (by decide)) (by rfl) (g_law_ratio T) (fn_law_ratio T).kp (b_law_ratio T) .nil pass0 (pa_cons (pv 10) (pa_cons pe_int pa_nil))))))
      (pss_cons (ps_setLc (i := 7) (own := [("_law_at", 11)]) (g := gName 11) rfl sc_law_judged.nd rfl rfl (sw_true rfl rfl rfl (by decide +kernel)) (pi_range1 (by rfl) (f_range T) (pa_cons (pe_callB call_len_seq (by rfl) (f_len T) bt_len (pa_cons (pv 6) pa_nil)) pa_nil)) (blkOk_by (N := N_law_judged) (sc := defScope st_law_judged) (by decide +kernel)) (fun _ _ _ _ _ => (pg_name (i := 11) sc_law_judged.nd rfl (.inl rfl))) (fun _ _ _ _ _ => pts_nil) (fun _ _ _ _ _ => (pe_ifExp (PW.pt (pw_and (pt_cmpR op_eq (pe_ix (show IxR _ (rIxT K) from ix_tup) (pe_ix (show IxR _ (rIxL K) from ix_list) (pv 6) (pv 11) (fun _ _ => rfl)) pe_int (fun _ _ => rfl)) pe_int (nomark _)) (pw_and1 (show PT _ _ (tTru K _) from pt_truK (pe_call (ok_law_take T) (hr.mono (by decide)) (by rfl) (g_law_take T) (fn_law_take T).kp (b_law_take T) .nil pass0 (pa_cons (pv 0) (pa_cons pe_int pa_nil))) (by intro _; rfl))))) (pe_ix (show IxR _ (rIxT K) from ix_tup) (pe_ix (show IxR _ (rIxL K) from ix_list) (pv 6) (pv 11) (fun _ _ => rfl)) pe_int (fun _ _ => rfl)) (pe_ix (show IxR _ (rIxL K) from ix_list) (pv 6) (pv 11) (fun _ _ => rfl)))))
      (pss_cons (ps_setLc (i := 8) (own := [("_law_at", 11)]) (g := gName 11) rfl sc_law_judged.nd rfl rfl (sw_true rfl rfl rfl (by decide +kernel)) (pi_range1 (by rfl) (f_range T) (pa_cons (pe_callB call_len_seq (by rfl) (f_len T) bt_len (pa_cons (pv 5) pa_nil)) pa_nil)) (blkOk_by (N := N_law_judged) (sc := defScope st_law_judged) (by decide +kernel)) (fun _ _ _ _ _ => (pg_name (i := 11) sc_law_judged.nd rfl (.inl rfl))) (fun _ _ _ _ _ => (pts_one (PW.pt (pw_or (pt_cmpR (show OpR _ (compareOp .In) (rIn K false) from op_in_seq) (pv 11) (show PE _ _ (tFld K _ _) from pe_fld (pv 4) rfl) (by rfl)) (pw_or1 (show PT _ _ (tTru K _) from pt_truK (pe_call (ok_law_take T) (hr.mono (by decide)) (by rfl) (g_law_take T) (fn_law_take T).kp (b_law_take T) .nil pass0 (pa_cons (pv 0) (pa_cons pe_int pa_nil))) (by intro _; rfl))))))) (fun _ _ _ _ _ => (pv 11)))
      (pss_cons (ps_for PassesOwn.never rfl (pi_list (pe_lst (pa_cons (pv 4) (pa_cons (pe_make (mk_Lost T) (ok_Lost_init T) (hr.mono (by decide)) (by rfl) (g_Lost T) (b_Lost_init T) .nil pass0 (pa_cons (pe_callTy call_list_of (by rfl) (f_list T) bt_list (pa_cons (pe_fld (pv 4) rfl) pa_nil)) (pa_cons (pv 6) pa_nil))) (pa_cons (pe_make (mk_Lost T) (ok_Lost_init T) (hr.mono (by decide)) (by rfl) (g_Lost T) (b_Lost_init T) .nil pass0 (pa_cons (pe_fld (pv 4) rfl) (pa_cons (pe_callTy call_tuple_of (by rfl) (f_tuple T) bt_tuple (pa_cons (pv 7) pa_nil)) pa_nil))) (pa_cons (pe_make (mk_Lost T) (ok_Lost_init T) (hr.mono (by decide)) (by rfl) (g_Lost T) (b_Lost_init T) .nil pass0 (pa_cons (pv 8) (pa_cons (pe_fld (pv 4) rfl) pa_nil))) pa_nil)))))) (pg_name (i := 9) sc_law_judged.nd rfl (.inl rfl))
      (pss_one (ps_if (pt_cmpR op_notN (pe_call (ok_lost_fault T) hr (by rfl) (g_lost_fault T) (fn_lost_fault T).kp (b_lost_fault T) .nil pass0 (pa_cons (pv 1) (pa_cons (pv 2) (pa_cons (pv 3) (pa_cons (pv 9) pa_nil))))) pe_non (nomark _))
      (pss_one (ps_ret pe_bl))
      pss_nil)))
      (pss_one (ps_ret pe_bl)))))), ?_⟩
    have rl := hrs.len
    obtain ⟨ta, dx, av, nv, rfl, hta, hav, hnv⟩ := hlost
    obtain ⟨na, rfl, hna⟩ := (show tI S nv xs from hnv)
    obtain ⟨la, rfl, hla⟩ := (show tN S av lot from hav)
    refine ⟨_, rfl, ta, C_Lost, dx, _, _, rfl, hS _ _ hta, T.kL, T.nL "numbers" (by decide), rfl, na, _, _, rfl, .inr rfl, hS _ _ hna, fun J G wk hG => lcP (S0 := S) (H0 := H) (σ := [some (.ref hd), some mv, some bv, some (.int (l : Int)), some (.ref ta), some (.ref ra), none, none, none, none, none, none]) wk (by rw [List.length_map]; omega)
      (fun i acc S' => All2 (ratR S') acc ((xs.take i).map fun x => mkR x 2)) (Ext.refl hS) .nil (fun _ _ _ _ _ e _ => hG _ (e.i _ _ (e.s _ _ hna))) (fun i x acc S2 H2 H3 Kt Kf hi e p hy kt kf => ?_) fun d acc S2 H2 hd2 e hs he _ p => ?_⟩
    · obtain ⟨rfl, hx⟩ := hy
      obtain ⟨m, f1, rfl⟩ := map_get hx
      refine ⟨rfl, _, rfl, S2, m, 2, rfl, e.i, by decide, by decide, fun S' H' u e' hu => kt u S' H' e' ?_⟩
      rw [take_get f1, List.map_append]
      exact (p.mono ratR_m e'.s).snoc hu
    · rw [take_all (show (xs.map V.int).length = xs.length from List.length_map ..)] at p
      have xm : (xs.map fun x => mkR x 2).length = xs.length := List.length_map ..
      have e1 := e.fix hd2 hs he
      have p1 := p.mono ratR_m (same_upd (o := .lst acc) hs)
      have hd1 : upd S2 d (.lst acc) d = some (.lst acc) := upd_same
      have hH1 : Hand (upd S2 d (.lst acc)) H2 hd := (hH.keep e).fx hs (hH.ne hd2)
      generalize upd S2 d (.lst acc) = S1 at e1 p1 hd1 hH1
      have accl : acc.length = xs.length := by rw [p1.len, xm]
      refine ⟨_, rfl, d, acc, rfl, .inl (SqL.of (e1.i _ _ hd1)), ((xs.length : Nat) : Int), by rw [accl], by omega, by omega, lcE (m := (· = hd)) (S0 := S1) (H0 := H2) (σ := [some (.ref hd), some mv, some bv, some (.int (l : Int)), some (.ref ta), some (.ref ra), some (.ref d), none, none, none, none, none]) walk0 (by omega) hH1.there
        (fun i acc S' H' => Hand S' H' hd ∧ ∃ ns, All2 (nmR S') acc ns ∧ ns.length = i ∧ ∀ (j : Nat) x, j < i → xs[j]? = some x → ∃ y, ns[j]? = some y ∧ halfOf x y) (Ext.refl e1.i) ?_ ⟨hH1, [], .nil, rfl, fun j x z => absurd z (Nat.not_lt_zero _)⟩ (fun _ _ _ _ _ _ _ => trivial) (fun i x acc2 S3 H3 H4 Kt Kf hi e3 p3 hy kt kf => ?_) fun d2 acc2 S3 H3 hd3 e3 hs3 he3 _ p3 => ?_⟩
      · rintro i acc S' H' d o hd0 ⟨g, rest⟩
        exact ⟨g.up' (hH1.ne hd0), rest⟩
      · obtain ⟨rfl, rfl⟩ := hy
        obtain ⟨hH3, ns, al, nl, nh⟩ := p3
        have f1 : acc[i]? = some (acc[i]'(by omega)) := List.getElem?_eq_getElem _
        obtain ⟨r, f2, f3⟩ := p1.get f1
        have f4 : ∃ x, xs[i]? = some x ∧ r = mkR x 2 := by
          rw [List.getElem?_map] at f2
          cases hx : xs[i]? with
          | none => rw [hx] at f2; cases f2
          | some x => rw [hx] at f2; exact ⟨x, rfl, (Option.some.inj f2).symm⟩
        obtain ⟨x, f4, rfl⟩ := f4
        have f5 := ratR_m _ _ _ _ e3.s f3
        obtain ⟨rp, hrp, htp⟩ := rat_ix (K := K) e3.i f5
        rw [hrp] at f1 f5
        have more : ∀ y S' , All2 (nmR S') acc2 ns → ∀ v, nmR S' v y → halfOf x y → ∃ ns, All2 (nmR S') (acc2 ++ [v]) ns ∧ ns.length = i + 1 ∧ ∀ (j : Nat) x, j < i + 1 → xs[j]? = some x → ∃ y, ns[j]? = some y ∧ halfOf x y := fun y S' al v hv hy =>
          ⟨ns ++ [y], al.snoc hv, by rw [List.length_append, nl]; rfl, fun j x' hj hx' => by
            rcases Nat.lt_succ_iff_lt_or_eq.mp hj with z | z
            · obtain ⟨y', g1, g2⟩ := nh j x' z hx'
              exact ⟨y', by rw [List.getElem?_append_left (by omega)]; exact g1, g2⟩
            · subst z
              rw [f4] at hx'
              cases hx'
              exact ⟨y, by rw [← nl, List.getElem?_append_right (Nat.le_refl _), Nat.sub_self]; rfl, hy⟩⟩
        have sq := fun (H' : Hp) (k : Same S3 H') => SqL.of (K := K) (k _ _ (e3.s _ _ hd1))
        have kp : ∀ H', Ext (· = hd) S3 H4 S3 H' → Hand S3 H' hd → Kt (.ref rp) H' := fun H' e' hH' => kt _ S3 H' e' ⟨hH', more _ S3 al _ (show nmR S3 (.ref rp) (.pair (mkR x 2).1 (mkR x 2).2) from f5) (.inl rfl)⟩
        have ki : (mkR x 2).2 = 1 → ∀ H', Ext (· = hd) S3 H4 S3 H' → Hand S3 H' hd → Kt (.int (mkR x 2).1) H' := fun z H' e' hH' => kt _ S3 H' e' ⟨hH', more _ S3 al _ (show nmR S3 (.int (mkR x 2).1) (.int (mkR x 2).1) from rfl) (.inr ⟨z, rfl⟩)⟩
        refine ⟨rfl, _, rfl, _, rfl, _, _, _, _, rfl, rfl, sq _ e3.i, atI_nat f1, _, _, _, _, rfl, rfl, htp, atI_nat (j := 1) rfl, rfl, _, rfl, ?_⟩
        rw [dV]
        refine ifD (fun z => ?_) fun z => ?_
        · refine ⟨_, rfl, S3, hd, 2, rfl, e3.i, hH3, by decide, by decide, fun H5 r e5 hH5 hr => ⟨(r : Int) != 0, rfl, ?_⟩⟩
          obtain ⟨rp', hrp', htp'⟩ := rat_ix (K := K) e5.i f5
          cases hrp'
          cases ((r : Int) != 0) with
          | true => exact iteT ⟨_, rfl, _, rfl, _, _, _, _, rfl, rfl, sq _ e5.i, atI_nat f1, _, _, _, _, rfl, rfl, htp', atI_nat (j := 0) rfl, ki z _ e5 hH5⟩
          | false => exact iteF ⟨_, rfl, _, rfl, _, _, _, _, rfl, rfl, sq _ e5.i, atI_nat f1, kp _ e5 hH5⟩
        · exact iteF ⟨_, rfl, _, rfl, _, _, _, _, rfl, rfl, sq _ e3.i, atI_nat f1, kp _ (Ext.refl e3.i) hH3⟩
      · obtain ⟨hH3, ns, al, nl, nh⟩ := p3
        have e4 := e3.fix hd3 hs3 he3
        have al4 := al.mono nmR_m (same_upd (o := .lst acc2) hs3)
        have hd4 : upd S3 d2 (.lst acc2) d2 = some (.lst acc2) := upd_same
        have hH4 : Hand (upd S3 d2 (.lst acc2)) H3 hd := hH3.fx hs3 (hH1.ne hd3)
        have nsk : NsOk xs ns := .inr ⟨nl, fun j x hx => nh j x (by by_cases z : j < xs.length; exact z; rw [List.getElem?_eq_none (by omega)] at hx; cases hx) hx⟩
        generalize upd S3 d2 (.lst acc2) = S4 at e4 al4 hd4 hH4
        have acl := al4.len
        have k4 := e1.s.trans e4.s
        have E4 : Ext (· = hd) S H S4 H3 := (e1.weak).trans e4
        generalize hR : spanRows h w' cells ls book = rows at hsn hrs rl hrl hlo
        refine ⟨_, rfl, ra, rvs, rfl, .inl (SqL.of (e4.i _ _ (k4 _ _ hra))), ((rows.length : Nat) : Int), by rw [rl], by omega, by omega, lcE (m := (· = hd)) (S0 := S4) (H0 := H3) (σ := [some (.ref hd), some mv, some bv, some (.int (l : Int)), some (.ref ta), some (.ref ra), some (.ref d), some (.ref d2), none, none, none, none]) walk0 (by omega) hH4.there
          (fun i acc S' H' => Hand S' H' hd ∧ ∃ p : Nat → Bool, (∀ i ∈ lot, p i = true) ∧ acc = ((List.range i).filter p).map fun n : Nat => V.int n) (Ext.refl e4.i) ?_ ⟨hH4, fun _ => true, fun _ _ => rfl, rfl⟩ (fun _ _ _ _ _ _ _ => trivial) (fun i x acc5 S5 H5 H6 Kt Kf hi e5 p5 hy kt kf => ?_) fun d3 acc5 S5 H5 hd5 e5 hs5 he5 _ p5 => ?_⟩
        · rintro i acc S' H' d o hd0 ⟨g, rest⟩
          exact ⟨g.up' (hH4.ne hd0), rest⟩
        · obtain ⟨rfl, rfl⟩ := hy
          obtain ⟨hH5, p, hp, rfl⟩ := p5
          have fl : ∀ b : Bool, (i ∈ lot → b = true) → ∃ p' : Nat → Bool, (∀ i ∈ lot, p' i = true) ∧ ((List.range (i + 1)).filter p') = ((List.range i).filter p) ++ (if b = true then [i] else []) := fun b hb =>
            ⟨fun j => if j = i then b else p j, fun j hj => by
              show (if j = i then b else p j) = true
              by_cases z : j = i
              · rw [if_pos z]; exact hb (z ▸ hj)
              · rw [if_neg z]; exact hp j hj, by
              rw [List.range_succ, List.filter_append, List.filter_cons, List.filter_nil, if_pos rfl]
              congr 1
              refine List.filter_congr fun j hj => ?_
              have : j ≠ i := by have := List.mem_range.mp hj; omega
              rw [if_neg this]⟩
          have k5 := k4.trans e5.s
          have yes : ∀ H', Ext (· = hd) S5 H6 S5 H' → Hand S5 H' hd → Kt (.int (i : Int)) H' := fun H' e' hH' => by
            obtain ⟨p', g1, g2⟩ := fl true (fun _ => rfl)
            refine kt _ S5 H' e' ⟨hH', p', g1, ?_⟩
            rw [g2, if_pos rfl, List.map_append]; rfl
          have no : i ∉ lot → ∀ H', Ext (· = hd) S5 H6 S5 H' → Hand S5 H' hd → Kf H' := fun z H' e' hH' => by
            obtain ⟨p', g1, g2⟩ := fl false (fun y => absurd y z)
            refine kf S5 H' e' ⟨hH', p', g1, ?_⟩
            rw [g2, if_neg (by decide), List.append_nil]
          refine ⟨rfl, _, rfl, _, rfl, ta, C_Lost, dx, _, _, rfl, e5.i _ _ (k5 _ _ hta), T.kL, T.nL "answers" (by decide), rfl, la, _, rfl, .inr (SqT.of (e5.i _ _ (k5 _ _ hla))), rfl, flat_nats _, _, rfl, ?_⟩
          rw [inV_nat]
          by_cases z : i ∈ lot
          · rw [decide_eq_true z]
            exact iteT (iteT ⟨_, rfl, yes _ (Ext.refl e5.i) hH5⟩)
          · rw [decide_eq_false z]
            refine iteF ⟨_, rfl, S5, hd, 2, rfl, e5.i, hH5, by decide, by decide, fun H7 r e7 hH7 hr => ⟨(r : Int) != 0, rfl, ?_⟩⟩
            cases ((r : Int) != 0) with
            | true => exact iteT ⟨_, rfl, yes _ e7 hH7⟩
            | false => exact iteF (no z _ e7 hH7)
        · obtain ⟨hH5, p, hp, rfl⟩ := p5
          have e6 := e5.fix hd5 hs5 he5
          have hd6 : upd S5 d3 (.lst (((List.range rows.length).filter p).map fun n : Nat => V.int n)) d3 = some (.lst (((List.range rows.length).filter p).map fun n : Nat => V.int n)) := upd_same
          have hH6 : Hand (upd S5 d3 (.lst (((List.range rows.length).filter p).map fun n : Nat => V.int n))) H5 hd := hH5.fx hs5 (hH4.ne hd5)
          have E6 : Ext (· = hd) S H _ H5 := E4.trans e6
          generalize upd S5 d3 (.lst (((List.range rows.length).filter p).map fun n : Nat => V.int n)) = S6 at e6 hd6 hH6 E6
          have k6 := E6.s.trans e6.i
          have E0 := Ext.refl (m := No) e6.i
          refine ⟨_, rfl, _, rfl, ta, C_Lost, dx, _, _, rfl, k6 _ _ hta, T.kL, T.nL "answers" (by decide), rfl, la, _, rfl, .inr (SqT.of (k6 _ _ hla)), fun p7 h7 => ?_⟩
          have E7 := E0.new (o := .lst (lot.map fun n : Nat => V.int n)) h7
          refine ⟨_, rfl, fun x8 dx8 hx8 hdx8 hne8 => ?_⟩
          have hl7 : upd S6 p7 (.lst (lot.map fun n : Nat => V.int n)) p7 = some (.lst (lot.map fun n : Nat => V.int n)) := upd_same
          have E8 := E7.trans (lost_new (n := No) (r := .ref p7) (m := .ref d) E7.i hx8 hdx8 hne8)
          refine ⟨x8, .ref p7, .ref d, dx8, rfl, upd_same, rfl, ?_⟩
          have m8 := same_upd (o := .ins C_Lost dx8 [("answers", .ref p7), ("numbers", .ref d)]) (none_of_same E7.i hx8)
          have hl8 := m8 _ _ hl7
          have o8 : upd (upd S6 p7 (.lst (lot.map fun n : Nat => V.int n))) x8 (.ins C_Lost dx8 [("answers", .ref p7), ("numbers", .ref d)]) x8 = some (.ins C_Lost dx8 [("answers", .ref p7), ("numbers", .ref d)]) := upd_same
          generalize upd (upd S6 p7 (.lst (lot.map fun n : Nat => V.int n))) x8 (.ins C_Lost dx8 [("answers", .ref p7), ("numbers", .ref d)]) = S8 at E8 hl8 o8
          generalize upd (upd (upd (upd (upd H5 p7 (.lst (lot.map fun n : Nat => V.int n))) dx8 (.own x8)) x8 (.ins C_Lost dx8 [])) x8 (.ins C_Lost dx8 [("answers", .ref p7)])) x8 (.ins C_Lost dx8 [("answers", .ref p7), ("numbers", .ref d)]) = H8 at E8
          have k8 := (E6.s.trans E8.s).trans E8.i
          refine ⟨_, rfl, ta, C_Lost, dx, _, _, rfl, k8 _ _ hta, T.kL, T.nL "answers" (by decide), rfl, _, rfl, d2, acc2, rfl, .inl ⟨SqL.of ((e6.s.trans E8.s).trans E8.i _ _ hd4), fun p9 h9 => ?_⟩⟩
          have E9 := E8.new (o := .tup acc2) h9
          intro x10 dx10 hx10 hdx10 hne10
          have ht9 : upd S8 p9 (.tup acc2) p9 = some (.tup acc2) := upd_same
          have m9 := same_upd (o := .tup acc2) (none_of_same E8.i h9)
          have o8 := m9 _ _ o8
          have hl8 := m9 _ _ hl8
          have E10 := E9.trans (lost_new (n := No) (r := .ref la) (m := .ref p9) E9.i hx10 hdx10 hne10)
          refine ⟨x10, .ref la, .ref p9, dx10, rfl, upd_same, rfl, ?_⟩
          have m10 := same_upd (o := .ins C_Lost dx10 [("answers", .ref la), ("numbers", .ref p9)]) (none_of_same E9.i hx10)
          have o8 := m10 _ _ o8
          have hl8 := m10 _ _ hl8
          have ht9 := m10 _ _ ht9
          have o10 : upd (upd S8 p9 (.tup acc2)) x10 (.ins C_Lost dx10 [("answers", .ref la), ("numbers", .ref p9)]) x10 = some (.ins C_Lost dx10 [("answers", .ref la), ("numbers", .ref p9)]) := upd_same
          generalize upd (upd S8 p9 (.tup acc2)) x10 (.ins C_Lost dx10 [("answers", .ref la), ("numbers", .ref p9)]) = S10 at E10 hl8 o8 ht9 o10
          generalize upd (upd (upd (upd (upd H8 p9 (.tup acc2)) dx10 (.own x10)) x10 (.ins C_Lost dx10 [])) x10 (.ins C_Lost dx10 [("answers", .ref la)])) x10 (.ins C_Lost dx10 [("answers", .ref la), ("numbers", .ref p9)]) = H10 at E10
          have k10 := (E6.s.trans E10.s).trans E10.i
          refine ⟨_, rfl, _, rfl, ta, C_Lost, dx, _, _, rfl, k10 _ _ hta, T.kL, T.nL "numbers" (by decide), rfl, fun x11 dx11 hx11 hdx11 hne11 => ?_⟩
          have E11 := E10.trans (lost_new (n := No) (r := .ref d3) (m := .ref na) E10.i hx11 hdx11 hne11)
          refine ⟨x11, .ref d3, .ref na, dx11, rfl, upd_same, rfl, ?_⟩
          have m11 := same_upd (o := .ins C_Lost dx11 [("answers", .ref d3), ("numbers", .ref na)]) (none_of_same E10.i hx11)
          have o8 := m11 _ _ o8
          have hl8 := m11 _ _ hl8
          have ht9 := m11 _ _ ht9
          have o10 := m11 _ _ o10
          have o11 : upd S10 x11 (.ins C_Lost dx11 [("answers", .ref d3), ("numbers", .ref na)]) x11 = some (.ins C_Lost dx11 [("answers", .ref d3), ("numbers", .ref na)]) := upd_same
          generalize upd S10 x11 (.ins C_Lost dx11 [("answers", .ref d3), ("numbers", .ref na)]) = S11 at E11 hl8 o8 ht9 o10 o11
          generalize upd (upd (upd (upd H10 dx11 (.own x11)) x11 (.ins C_Lost dx11 [])) x11 (.ins C_Lost dx11 [("answers", .ref d3)])) x11 (.ins C_Lost dx11 [("answers", .ref d3), ("numbers", .ref na)]) = H11 at E11
          refine ⟨by show (4 : Nat) ≤ sizeLine; decide, fun p12 h12 => ?_⟩
          have E12 := E11.new (o := .lst [.ref ta, .ref x8, .ref x10, .ref x11]) h12
          have m12 := same_upd (o := .lst [.ref ta, .ref x8, .ref x10, .ref x11]) (none_of_same E11.i h12)
          have o12 : upd S11 p12 (.lst [.ref ta, .ref x8, .ref x10, .ref x11]) p12 = some (.lst [.ref ta, .ref x8, .ref x10, .ref x11]) := upd_same
          have o8 := m12 _ _ o8
          have hl8 := m12 _ _ hl8
          have ht9 := m12 _ _ ht9
          have o10 := m12 _ _ o10
          have o11 := m12 _ _ o11
          generalize upd S11 p12 (.lst [.ref ta, .ref x8, .ref x10, .ref x11]) = S12 at E12 hl8 o8 ht9 o10 o11 o12
          generalize upd H11 p12 (.lst [.ref ta, .ref x8, .ref x10, .ref x11]) = H12 at E12
          have F12 := E6.trans E12.weak
          have hH12 := hH6.keep E12
          have kS : Same S S12 := F12.s
          have k1 : Same S1 S12 := (e4.s.trans e6.s).trans E12.s
          have k4' : Same S4 S12 := e6.s.trans E12.s
          have hla12 := kS _ _ hla
          have hna12 := kS _ _ hna
          have items : ∀ (i : Nat) v, ([V.ref ta, .ref x8, .ref x10, .ref x11] : List V)[i]? = some v → ∃ al ns, LostR S12 v (some al) ns ∧ AlOk rows.length lot al ∧ NsOk xs ns := fun i v hi => by
            have ann : ansR S12 (.ref la) (some (someL lot)) := tN_ans ⟨la, rfl, hla12⟩
            have nms : sR nmR S12 (.ref na) (xs.map .int) := tI_nums ⟨na, rfl, hna12⟩
            match i, hi with
            | 0, hi => cases hi; exact ⟨_, _, ⟨ta, dx, _, _, rfl, kS _ _ hta, ann, nms⟩, .inl rfl, .inl rfl⟩
            | 1, hi =>
              cases hi
              refine ⟨someL lot, (xs.map fun x => mkR x 2).map fun r => .pair r.1 r.2, ⟨x8, dx8, _, _, rfl, o8, ?_, ?_⟩, .inl rfl, .inr ⟨by rw [List.length_map, List.length_map], fun j x hx => ?_⟩⟩
              · exact .inl ⟨p7, _, rfl, hl8, All2.map (R := oR S12) (fun n : Nat => V.int n) (fun i : Nat => some (i : Int)) (fun _ => rfl) lot⟩
              · exact .inl ⟨d, acc, rfl, k1 _ _ hd1, rats_nums (p1.mono ratR_m k1)⟩
              · exact ⟨_, by rw [List.getElem?_map, List.getElem?_map, hx]; rfl, .inl rfl⟩
            | 2, hi => cases hi; exact ⟨_, _, ⟨x10, dx10, _, _, rfl, o10, ann, .inr ⟨p9, acc2, rfl, ht9, al4.mono nmR_m k4'⟩⟩, .inl rfl, nsk⟩
            | 3, hi =>
              cases hi
              refine ⟨someL ((List.range rows.length).filter p), _, ⟨x11, dx11, _, _, rfl, o11, ?_, nms⟩, .inr ⟨p, hp, rfl⟩, .inl rfl⟩
              exact .inl ⟨d3, _, rfl, E12.s _ _ hd6, All2.map (R := oR S12) (fun n : Nat => V.int n) (fun i : Nat => some (i : Int)) (fun _ => rfl) _⟩
            | n + 4, hi => cases hi
          have hb12 := hb.mono kS
          refine ⟨p12, rfl, ⟨_, SqL.of (E12.i _ _ o12)⟩, forE (S0 := S) (H0 := H) (m := (· = hd)) (σ := [some (.ref hd), some mv, some bv, some (.int (l : Int)), some (.ref ta), some (.ref ra), some (.ref d), some (.ref d2), some (.ref d3), none, none, none]) (walk_list (xs := [V.ref ta, .ref x8, .ref x10, .ref x11]))
            (fun i σ S' H' => Same S12 S' ∧ Hand S' H' hd ∧ ∃ x9, σ = [some (.ref hd), some mv, some bv, some (.int (l : Int)), some (.ref ta), some (.ref ra), some (.ref d), some (.ref d2), some (.ref d3), x9, none, none]) F12 ⟨Same.refl _, hH12, none, rfl⟩ (fun _ _ _ _ _ e p => SqL.of (e.i _ _ (p.1 _ _ o12))) (fun i x σ S13 H13 H14 hi e13 p13 hy => ?_) fun σ S13 H13 e13 p13 => ?_⟩
          · obtain ⟨sm, hH13, x9, rfl⟩ := p13
            obtain ⟨rfl, hx⟩ := hy
            obtain ⟨al, ns, hlr, ha, hn⟩ := items i x hx
            obtain ⟨hlf, hno⟩ := hsn al ns ha hn
            have nsl : ns.length = xs.length := by
              rcases hn with rfl | ⟨z, _⟩
              · exact List.length_map ..
              · exact z
            have hb13 := hb12.mono sm
            refine ⟨_, rfl, _, rfl, _, rfl, _, rfl, S13, mv, bv, x, h, w', cells, ls, book, some al, ns, l, rfl, e13.i, hb13.m, hb13.b, hb13.bo, hb13.co, hb13.ll, hb13.h6, hb13.w6, by have := hb13.n5; omega, hb13.cl, hb13.rw, hl, hlr.mono sm, hno, by omega, fun S14 H15 u e14 hu => ?_⟩
            rw [hR, hlf] at hu
            cases (show u = .non from hu)
            exact ⟨rfl, _, rfl, iteF ⟨S14, e13.trans e14.weak, sm.trans e14.s, hH13.keep e14, _, rfl⟩⟩
          · obtain ⟨sm, hH13, x9, rfl⟩ := p13
            exact q _ _ e13 hH13
end Th

/-! part EN -/
namespace Th
open PySem PySem.Spec PyProof.Rows L2

/-- what the law changes: answers and numbers, each a list -/
def ChR (S : Hp) (u : V) (al : List (Option Int)) (ns : List Nm) : Prop := ∃ p a b, u = .ref p ∧ S p = some (.tup [.ref a, .ref b]) ∧ lR oR S (.ref a) al ∧ lR nmR S (.ref b) ns
def ChOk (al : List (Option Int)) (ns : List Nm) : Prop := al.length ≤ 1000 ∧ ns.length ≤ 1000 ∧ NumsOk ns ∧ ∀ x ∈ ns, ∀ a b, x = .pair a b → b.natAbs < 2 ^ 8999
def sN : Rp (List Nat) := fun S v l => ∃ a, v = .ref a ∧ (S a = some (.lst (l.map fun n : Nat => V.int n)) ∨ S a = some (.tup (l.map fun n : Nat => V.int n)))
def SmallN (x : Nm) : Prop := (∀ r, asRat x = some r → 0 < r.2 ∧ r.2.natAbs < 2 ^ 3 ∧ r.1.natAbs < 2 ^ 3) ∧ ∀ a b, x = .pair a b → b.natAbs < 2 ^ 3
theorem small_int {n : Int} (h : n.natAbs < 8) : SmallN (.int n) := ⟨fun r hr => by cases hr; exact ⟨Int.zero_lt_one, (by show (1 : Nat) < 8; decide), h⟩, fun a b z => by cases z⟩
theorem small_no {x : Nm} (h : ∀ r, asRat x ≠ some r) (h2 : ∀ a b, x ≠ .pair a b) : SmallN x := ⟨fun r hr => absurd hr (h r), fun a b z => absurd z (h2 a b)⟩
theorem small_24 : SmallN (.pair 2 4) := ⟨fun r hr => (by
  have : asRat (.pair 2 4) = none := rfl
  rw [this] at hr; cases hr), fun a b z => (by cases z; decide)⟩
theorem ne_of_none' {S H : Hp} {hd b : Addr} (hb : H b = none) (hH : Hand S H hd) : b ≠ hd := (hH.ne hb).symm
/-- between two of the changes -/
def ChSt (S H : Hp) (hd va wa ra : Addr) (n way : Nat) (ns0 : List Int) (k : Nat) (σ : L2.St) (H' : Hp) : Prop :=
  ∃ S' a b al ns vs, σ = [some (.ref hd), some (.ref va), some (.ref wa), some (.ref ra), some (.int (n : Int)), some (.int (way : Int)), some (.ref a), some (.ref b), none] ∧ Ext (· = hd) S H S' H' ∧ Hand S' H' hd ∧ lR oR S' (.ref a) al ∧ H b = none ∧ S' b = none ∧ H' b = some (.lst vs) ∧ All2 (nmR S') vs ns ∧ al.length ≤ 12 + k ∧ n ≤ ns.length ∧ ns.length ≤ 5 + k ∧ (∀ x ∈ ns, SmallN x) ∧ (k ≤ 5 → way = 5 → ns = ns0.map .int)
theorem ChSt.up {S H : Hp} {hd va wa ra : Addr} {n way : Nat} {ns0 : List Int} {k : Nat} {σ : L2.St} {H' : Hp} (h : ChSt S H hd va wa ra n way ns0 k σ H') : ChSt S H hd va wa ra n way ns0 (k + 1) σ H' := by
  obtain ⟨S', a, b, al, ms, vs, e, e7, hH7, hal, hb0, hbS, hbH, hvs, hall, hn', hn6, hsm, hw5⟩ := h
  exact ⟨S', a, b, al, ms, vs, e, e7, hH7, hal, hb0, hbS, hbH, hvs, by omega, hn', by omega, hsm, fun z => hw5 (by omega)⟩
def sp_law_changed : Sp := fun vs H Q _ => ∃ S hd v w rv lot ns rows, ∃ n : Nat, vs = [.ref hd, v, w, rv, .int (n : Int)] ∧ Same S H ∧ Hand S H hd ∧ sN S v lot ∧ lI S w ns ∧ lR lI S rv rows ∧ lot.length ≤ 12 ∧ ns.length = n ∧ (∀ x ∈ ns, x.natAbs ≤ 1) ∧ 0 < n ∧ n ≤ 5 ∧ rows.length ≤ 12 ∧ ∀ S' H' u al ms, Ext (· = hd) S H S' H' → Hand S' H' hd → ChR S' u al ms → ChOk al ms → Q u H'
theorem ok_law_changed {P : Program} {w : World} {K : PySem.W.Frag} {mg : Str → Option Value} {base : Heap} (T : Tx K mg) : FnOk P w K mg base CX0 3 A_law_changed (fdAt K A_law_changed) P_law_changed sp_law_changed := by
  refine (fn_law_changed T).ok sc_law_changed (fun vs H Q E h => ?_) (fun cdv A outer s H vs Q E hr h => ?_)
  · obtain ⟨S, hd, v, w, rv, lot, ns, rows, n, rfl, _⟩ := h; rfl
  · obtain ⟨S, hd, v, w', rv, lot, ns, rows, n, rfl, hS, hH, ⟨va, rfl, hva⟩, ⟨wa, rfl, hwa⟩, ⟨ra, rvs, rfl, hra, hrs⟩, hll, hnl, hn1, hn0, hn5, hrl, q⟩ := h
    refine ⟨_, PSs.nox (pss_cons (ps_set (i := 5) sc_law_changed.nd rfl (.inl rfl) (pe_call (ok_law_take T) hr (by rfl) (g_law_take T) (fn_law_take T).kp (b_law_take T) .nil pass0 (pa_cons (pv 0) (pa_cons pe_int pa_nil))))
      (pss_cons (ps_set (i := 6) sc_law_changed.nd rfl (.inl rfl) (pe_callTy call_list_of (by rfl) (f_list T) bt_list (pa_cons (pv 1) pa_nil)))
      (pss_cons (ps_set (i := 7) sc_law_changed.nd rfl (.inl rfl) (pe_callTy call_list_of (by rfl) (f_list T) bt_list (pa_cons (pv 2) pa_nil)))
      (pss_cons (ps_if (PW.pt (pw_and (pt_cmpR op_eq (pv 5) pe_int (nomark _)) (pw_and1 (pt_truK (pv 6) (by intro _; rfl)))))
      (pss_one (ps_set (i := 6) sc_law_changed.nd rfl (.inl rfl) (pe_slice sl_list (pv 6) (po_some pe_int) po_none)))
      pss_nil)
      (pss_cons (ps_if (pt_cmpR op_eq (pv 5) pe_int (nomark _))
      (pss_one (ps_set (i := 6) sc_law_changed.nd rfl (.inl rfl) (pe_op op_cat (pv 6) (pe_lst (pa_cons (pe_ix ix_tup (pe_tup (pa_cons pe_int (pa_cons (pe_callB call_len_seq (by rfl) (f_len T) bt_len (pa_cons (pv 3) pa_nil)) (pa_cons (pe_un un_neg pe_int) (pa_cons pe_non pa_nil))))) (pe_call (ok_law_take T) hr (by rfl) (g_law_take T) (fn_law_take T).kp (b_law_take T) .nil pass0 (pa_cons (pv 0) (pa_cons pe_int pa_nil))) (fun _ _ => rfl)) pa_nil)))))
      pss_nil)
      (pss_cons (ps_if (pt_cmpR op_eq (pv 5) pe_int (nomark _))
      (pss_one (ps_set (i := 7) sc_law_changed.nd rfl (.inl rfl) (pe_op op_cat (pv 7) (pe_lst (pa_cons pe_int pa_nil)))))
      pss_nil)
      (pss_cons (ps_if (pt_cmpR op_eq (pv 5) pe_int (nomark _))
      (pss_one (ps_asg (pe_ix ix_tup (pe_tup (pa_cons pe_non (pa_cons pe_str (pa_cons pe_bl (pa_cons (pe_tup (pa_cons pe_int (pa_cons pe_int pa_nil))) pa_nil))))) (pe_call (ok_law_take T) hr (by rfl) (g_law_take T) (fn_law_take T).kp (b_law_take T) .nil pass0 (pa_cons (pv 0) (pa_cons pe_int pa_nil))) (fun _ _ => rfl)) (pg_sub (pv 7) (pe_call (ok_law_take T) hr (by rfl) (g_law_take T) (fn_law_take T).kp (b_law_take T) .nil pass0 (pa_cons (pv 0) (pa_cons (pv 4) pa_nil))) set_list)))
      pss_nil)
      (pss_cons (ps_if (pt_cmpR op_eq (pv 5) pe_int (nomark _))
      (pss_one (ps_asg (pe_call (ok_law_take T) hr (by rfl) (g_law_take T) (fn_law_take T).kp (b_law_take T) .nil pass0 (pa_cons (pv 0) (pa_cons pe_int pa_nil))) (pg_sub (pv 7) (pe_call (ok_law_take T) hr (by rfl) (g_law_take T) (fn_law_take T).kp (b_law_take T) .nil pass0 (pa_cons (pv 0) (pa_cons (pv 4) pa_nil))) set_list)))
      pss_nil)
      (pss_cons (ps_if (pt_cmpR op_eq (pv 5) pe_int (nomark _))
      (pss_one (ps_setLc (i := 7) (own := [("_law_one", 8)]) (g := gName 8) rfl sc_law_changed.nd rfl rfl (sw_true rfl rfl rfl (by decide +kernel)) (pi_list (pv 7)) (blkOk_by (N := N_law_changed) (sc := defScope st_law_changed) (by decide +kernel)) (fun _ _ _ _ _ => (pg_name (i := 8) sc_law_changed.nd rfl (.inl rfl))) (fun _ _ _ _ _ => pts_nil) (fun _ _ _ _ _ => (pe_call (ok_law_ratio T) (hr.mono (by decide)) (by rfl) (g_law_ratio T) (fn_law_ratio T).kp (b_law_ratio T) .nil pass0 (pa_cons (pv 8) (pa_cons pe_int pa_nil))))))
      pss_nil)
      (pss_cons (ps_if (pt_cmpR op_eq (pv 5) pe_int (nomark _))
      (pss_one (ps_set (i := 6) sc_law_changed.nd rfl (.inl rfl) (pe_listRg rfl (by rfl) (f_list T) (prg_1 (by rfl) (f_range T) (pe_callB call_len_seq (by rfl) (f_len T) bt_len (pa_cons (pv 3) pa_nil))))))
      pss_nil)
      (pss_one (ps_ret (pe_tup (pa_cons (pv 6) (pa_cons (pv 7) pa_nil))))))))))))))), ?_⟩
    have rl := hrs.len
    refine ⟨_, rfl, S, hd, 7, rfl, hS, hH, by decide, by decide, fun H1 way e1 hH1 hway => ?_⟩
    refine ⟨_, rfl, va, _, rfl, hva.imp (fun z => SqL.of (e1.i _ _ z)) (fun z => SqT.of (e1.i _ _ z)), fun p2 h2 => ?_⟩
    have e2 := e1.new (o := .lst (lot.map fun n : Nat => V.int n)) h2
    have hH2 := hH1.nw (o := .lst (lot.map fun n : Nat => V.int n)) e1.i h2
    have ha2 : upd S p2 (.lst (lot.map fun n : Nat => V.int n)) p2 = some (.lst (lot.map fun n : Nat => V.int n)) := upd_same
    have w2 := e2.s _ _ hwa
    refine ⟨_, rfl, wa, _, rfl, .inl (SqL.of (e2.i _ _ w2)), fun p3 h3 => ?_⟩
    have e3 := e2.newM (o := .lst (ns.map V.int)) h3
    have st3 : ChSt S H hd va wa ra n way ns 0 [some (.ref hd), some (.ref va), some (.ref wa), some (.ref ra), some (.int (n : Int)), some (.int (way : Int)), some (.ref p2), some (.ref p3), none] (upd (upd H1 p2 (.lst (lot.map fun n : Nat => V.int n))) p3 (.lst (ns.map V.int))) :=
      ⟨_, p2, p3, someL lot, ns.map .int, ns.map V.int, rfl, e3, hH2.up' (hH2.ne h3), ⟨p2, _, rfl, ha2, All2.map (R := oR _) (fun n : Nat => V.int n) (fun i : Nat => some (i : Int)) (fun _ => rfl) lot⟩, e2.none1 h3, none_of_same e2.i h3, upd_same, All2.map (R := nmR _) V.int Nm.int (fun _ => rfl) ns, by unfold someL; rw [List.length_map]; omega, by rw [List.length_map]; omega, by rw [List.length_map]; omega, fun x hx => by
        obtain ⟨m, hm, rfl⟩ := List.mem_map.mp hx
        have := hn1 m hm
        exact ⟨fun r hr => by cases hr; exact ⟨Int.zero_lt_one, (by show (1 : Nat) < 8; decide), by show m.natAbs < 8; omega⟩, fun a b z => by cases z⟩, fun _ _ => rfl⟩
    refine gName_run ?_
    dsimp only
    refine seqJoin (ChSt S H hd va wa ra n way ns 1) (fun σ0 H0 p0 => ?_) fun nx hnx => ?_
    · refine seqJoin (ChSt S H hd va wa ra n way ns 2) (fun σ1 H1 p1 => ?_) fun nx hnx => ?_
      · refine seqJoin (ChSt S H hd va wa ra n way ns 3) (fun σ2 H2 p2 => ?_) fun nx hnx => ?_
        · refine seqJoin (ChSt S H hd va wa ra n way ns 4) (fun σ3 H3 p3 => ?_) fun nx hnx => ?_
          · refine seqJoin (ChSt S H hd va wa ra n way ns 5) (fun σ4 H4 p4 => ?_) fun nx hnx => ?_
            · refine seqJoin (ChSt S H hd va wa ra n way ns 6) (fun σ5 H5 p5 => ?_) fun nx hnx => ?_
              · refine seqJoin (ChSt S H hd va wa ra n way ns 7) (fun σ6 H6 p6 => ?_) fun nx hnx => ?_
                · obtain ⟨S', a, b, al, ms, vs, rfl, e7, hH7, hal, hb0, hbS, hbH, hvs, hall, hn', hn6, hsm, _⟩ := p6
                  refine ⟨_, rfl, _, rfl, two_le, fun p8 h8 => ?_⟩
                  have e8 := e7.fix hb0 hbS hbH
                  have hv8 := hvs.mono nmR_m (same_upd (o := .lst vs) hbS)
                  have hal8 := lR_m oR_m _ _ _ _ (same_upd (o := .lst vs) hbS) hal
                  have hb8 : upd S' b (.lst vs) b = some (.lst vs) := upd_same
                  have hH8 := hH7.fx (o := .lst vs) hbS (hH.ne hb0)
                  generalize upd S' b (.lst vs) = S8 at e8 hv8 hal8 hb8 hH8
                  have k9 := same_upd (o := .tup [.ref a, .ref b]) (none_of_same e8.i h8)
                  refine q _ _ _ al ms (e8.new h8) (hH8.nw e8.i h8) ⟨p8, a, b, rfl, upd_same, lR_m oR_m _ _ _ _ k9 hal8, b, vs, rfl, k9 _ _ hb8, hv8.mono nmR_m k9⟩ ⟨by omega, by omega, fun x hx r hr => ?_, fun x hx a b z => ?_⟩
                  · obtain ⟨g1, g2, g3⟩ := (hsm x hx).1 r hr
                    exact ⟨g1, g2, Nat.lt_of_lt_of_le g3 (Nat.pow_le_pow_right (by decide) (by decide))⟩
                  · exact Nat.lt_of_lt_of_le ((hsm x hx).2 a b z) (Nat.pow_le_pow_right (by decide) (by decide))
                · have p5' := p5
                  obtain ⟨S', a, b, al, ms, vs, rfl, e7, hH7, hal, hb0, hbS, hbH, hvs, hall, hn', hn6, hsm, hw5⟩ := p5
                  refine ⟨_, rfl, rfl, _, rfl, ?_⟩
                  rw [dV]
                  refine ifD (fun z => ?_) fun z => hnx _ _ p5'.up
                  have rvl := rl
                  refine ⟨_, rfl, ra, rvs, rfl, .inl (SqL.of (e7.i _ _ (e7.s _ _ hra))), _, rfl, RgOk.of_le (by omega) (by omega) (by omega) (by omega), fun p9 h9 => ?_⟩
                  rw [rvl, rgV0]
                  have e9 := e7.new (o := .lst ((List.range rows.length).map fun i : Nat => V.int i)) h9
                  have m9 := same_upd (o := .lst ((List.range rows.length).map fun i : Nat => V.int i)) (none_of_same e7.i h9)
                  have nb : b ≠ p9 := ne_of_none hbH h9
                  exact hnx _ _ ⟨_, p9, b, someL (List.range rows.length), ms, vs, rfl, e9, hH7.nw e7.i h9, ⟨p9, _, rfl, upd_same, All2.map (R := oR _) (fun n : Nat => V.int n) (fun i : Nat => some (i : Int)) (fun _ => rfl) _⟩, hb0, (upd_ne nb).trans hbS, (upd_ne nb).trans hbH, hvs.mono nmR_m m9, by unfold someL; rw [List.length_map, List.length_range]; omega, hn', by omega, hsm, fun z => hw5 (by omega)⟩
              · have p5' := p4
                obtain ⟨S', a, b, al, ms, vs, rfl, e7, hH7, hal, hb0, hbS, hbH, hvs, hall, hn', hn6, hsm, hw5⟩ := p4
                refine ⟨_, rfl, rfl, _, rfl, ?_⟩
                rw [dV]
                refine ifD (fun z => ?_) fun z => hnx _ _ ⟨S', a, b, al, ms, vs, rfl, e7, hH7, hal, hb0, hbS, hbH, hvs, by omega, hn', by omega, hsm, fun z => absurd z (by decide)⟩
                have hms := hw5 (by decide) (by omega)
                subst hms
                have vl := hvs.len
                have ml : (ns.map Nm.int).length = ns.length := List.length_map ..
                refine ⟨_, rfl, b, rfl, ⟨_, SqL.of hbH⟩, lcP (S0 := S') (H0 := H4) (σ := [some (.ref hd), some (.ref va), some (.ref wa), some (.ref ra), some (.int (n : Int)), some (.int (way : Int)), some (.ref a), some (.ref b), none]) (walk_list (xs := vs)) (by omega)
                  (fun i acc S2 => All2 (nmR S2) acc ((ns.take i).map fun x => .pair (mkR x 7).1 (mkR x 7).2)) (Ext.refl e7.i) .nil (fun _ _ _ _ _ e _ => SqL.of (e.same _ _ hbH)) (fun i x acc S2 H2 H3 Kt Kf hi e p hy kt kf => ?_) fun d acc S2 H2 hd2 e hs he _ p => ?_⟩
                · obtain ⟨rfl, hx⟩ := hy
                  obtain ⟨nm, f1, f2⟩ := hvs.get hx
                  have f3 : ∃ m, ns[i]? = some m ∧ nm = .int m := by
                    rw [List.getElem?_map] at f1
                    cases hm : ns[i]? with
                    | none => rw [hm] at f1; cases f1
                    | some m => rw [hm] at f1; exact ⟨m, rfl, (Option.some.inj f1).symm⟩
                  obtain ⟨m, f3, rfl⟩ := f3
                  cases (show x = .int m from f2)
                  refine ⟨rfl, _, rfl, S2, m, 7, rfl, e.i, by decide, by decide, fun S9 H9 u e' hu => kt u S9 H9 e' ?_⟩
                  rw [take_get f3, List.map_append]
                  exact (p.mono nmR_m e'.s).snoc (show nmR S9 u (.pair (mkR m 7).1 (mkR m 7).2) from hu)
                · have pl : vs.length = ns.length := by rw [vl, ml]
                  rw [take_all pl] at p
                  have E := e7.trans e.weak
                  have xm : (ns.map fun x => Nm.pair (mkR x 7).1 (mkR x 7).2).length = ns.length := List.length_map ..
                  refine hnx _ _ ⟨S2, a, d, al, _, acc, rfl, E, hH7.keep e, lR_m oR_m _ _ _ _ e.s hal, e7.none1 hd2, hs, he, p, by omega, by omega, by omega, fun x hx => ?_, fun z => absurd z (by decide)⟩
                  obtain ⟨m, hm, rfl⟩ := List.mem_map.mp hx
                  have m1 := hn1 m hm
                  obtain ⟨g1, g2, g3⟩ := mkR_ok (a := m) (b := 7) (by decide)
                  have g3' : (mkR m 7).2.natAbs ≤ 7 := g3
                  have g28 : (mkR m 7).2.natAbs < 2 ^ 3 := by show _ < 8; omega
                  refine ⟨fun r hr => ?_, fun a b z => ?_⟩
                  · have hr' : (if isRat (.pair (mkR m 7).1 (mkR m 7).2) = true then some ((mkR m 7).1, (mkR m 7).2) else none) = some r := hr
                    split at hr'
                    · cases hr'
                      exact ⟨g1, g28, by show (mkR m 7).1.natAbs < 8; omega⟩
                    · cases hr'
                  · cases z; exact g28
            · have p5' := p3
              obtain ⟨S', a, b, al, ms, vs, rfl, e7, hH7, hal, hb0, hbS, hbH, hvs, hall, hn', hn6, hsm, hw5⟩ := p3
              refine ⟨_, rfl, rfl, _, rfl, ?_⟩
              rw [dV]
              refine ifD (fun z => ?_) fun z => hnx _ _ p5'.up
              have vl := hvs.len
              refine ⟨_, rfl, S', hd, 3, rfl, e7.i, hH7, by decide, by decide, fun H8 r8 e8 hH8 hr8 => ?_⟩
              refine ⟨_, rfl, _, rfl, _, rfl, S', hd, n, rfl, e8.i, hH8, hn0, by omega, fun H9 r9 e9 hH9 hr9 => ?_⟩
              have nb : b ≠ hd := (ne_of_none' hb0 hH)
              have hb9 := e9.h b _ nb (e8.h b _ nb hbH)
              refine ⟨b, vs, (r9 : Int), r9, rfl, rfl, hb9, ixN_nat (by omega), ?_⟩
              refine hnx _ _ ⟨S', a, b, al, ms.set r9 (.int (r8 : Int)), _, rfl, ((e7.trans e8).trans e9).mut (.inl hb0) hbS, hH9.up' nb.symm, hal, hb0, hbS, upd_same, hvs.set (show nmR S' (.int (r8 : Int)) (.int (r8 : Int)) from rfl) r9, by omega, by rw [List.length_set]; exact hn', by rw [List.length_set]; omega, fun x hx => ?_, fun _ z5 => by omega⟩
              rcases List.mem_or_eq_of_mem_set hx with y | y
              · exact hsm x y
              · subst y
                exact small_int (by omega)
          · have p5' := p2
            obtain ⟨S', a, b, al, ms, vs, rfl, e7, hH7, hal, hb0, hbS, hbH, hvs, hall, hn', hn6, hsm, hw5⟩ := p2
            refine ⟨_, rfl, rfl, _, rfl, ?_⟩
            rw [dV]
            refine ifD (fun z => ?_) fun z => hnx _ _ p5'.up
            have vl := hvs.len
            have nb : b ≠ hd := (ne_of_none' hb0 hH)
            refine ⟨two_le, fun q7 hq7 => ⟨(by show (4 : Nat) ≤ sizeLine; decide), fun t7 ht7 => ?_⟩⟩
            have eq7 := e7.new (o := .tup [.int 2, .int 4]) hq7
            have mq := same_upd (o := .tup [.int 2, .int 4]) (none_of_same e7.i hq7)
            have hHq := hH7.nw (o := .tup [.int 2, .int 4]) e7.i hq7
            have sq : upd S' q7 (.tup [.int 2, .int 4]) q7 = some (.tup [.int 2, .int 4]) := upd_same
            have nbq : b ≠ q7 := ne_of_none hbH hq7
            have bSq : upd S' q7 (.tup [.int 2, .int 4]) b = none := (upd_ne nbq).trans hbS
            have bHq : upd H2 q7 (.tup [.int 2, .int 4]) b = some (.lst vs) := (upd_ne nbq).trans hbH
            have hvq := hvs.mono nmR_m mq
            have halq := lR_m oR_m _ _ _ _ mq hal
            generalize upd S' q7 (.tup [.int 2, .int 4]) = Sq at eq7 hHq sq bSq hvq halq
            generalize upd H2 q7 (.tup [.int 2, .int 4]) = Hq at eq7 hHq bHq ht7
            have et := (Ext.refl (m := (· = hd)) eq7.i).newM (o := .tup [.non, .str (Str.ofString "1"), .bl true, .ref q7]) ht7
            refine ⟨_, rfl, Sq, hd, 4, rfl, et.i, hHq.up ht7, by decide, by decide, fun H8 r8 e8 hH8 hr8 => ?_⟩
            have ht8 := e8.h t7 _ (hHq.ne ht7).symm upd_same
            have ex : ∃ v x, [V.non, .str (Str.ofString "1"), .bl true, .ref q7][r8]? = some v ∧ nmR Sq v x ∧ SmallN x := by
              rcases r8 with _ | _ | _ | _ | r
              · exact ⟨_, .non, rfl, rfl, small_no (fun r h => by cases h) (fun a b h => by cases h)⟩
              · exact ⟨_, .str _, rfl, rfl, small_no (fun r h => by cases h) (fun a b h => by cases h)⟩
              · exact ⟨_, .bl true, rfl, rfl, small_no (fun r h => by cases h) (fun a b h => by cases h)⟩
              · exact ⟨_, .pair 2 4, rfl, ⟨q7, _, _, rfl, sq, rfl, rfl⟩, small_24⟩
              · omega
            obtain ⟨v8, x8, hx8, hn8, hs8⟩ := ex
            refine ⟨_, _, _, _, rfl, rfl, SqT.of ht8, atI_nat hx8, ?_⟩
            refine ⟨_, rfl, _, rfl, _, rfl, Sq, hd, n, rfl, e8.i, hH8, hn0, by omega, fun H9 r9 e9 hH9 hr9 => ?_⟩
            have nbt : b ≠ t7 := ne_of_none bHq ht7
            have hb9 := e9.h b _ nb (e8.h b _ nb ((upd_ne nbt).trans bHq))
            refine ⟨b, vs, (r9 : Int), r9, rfl, rfl, hb9, ixN_nat (by omega), ?_⟩
            refine hnx _ _ ⟨Sq, a, b, al, ms.set r9 x8, _, rfl, (((eq7.trans et).trans e8).trans e9).mut (.inl hb0) bSq, hH9.up' nb.symm, halq, hb0, bSq, upd_same, hvq.set hn8 r9, by omega, by rw [List.length_set]; exact hn', by rw [List.length_set]; omega, fun x hx => ?_, fun _ z5 => by omega⟩
            rcases List.mem_or_eq_of_mem_set hx with y | y
            · exact hsm x y
            · subst y; exact hs8
        · have p5' := p1
          obtain ⟨S', a, b, al, ms, vs, rfl, e7, hH7, hal, hb0, hbS, hbH, hvs, hall, hn', hn6, hsm, hw5⟩ := p1
          refine ⟨_, rfl, rfl, _, rfl, ?_⟩
          rw [dV]
          refine ifD (fun z => ?_) fun z => hnx _ _ p5'.up
          have vl := hvs.len
          refine ⟨_, rfl, by decide, fun l7 hl7 => ⟨b, l7, vs, [.int 0], rfl, rfl, (upd_ne (ne_of_none hbH hl7)).trans hbH, upd_same, Nat.le_of_lt (szLt (by show vs.length + 1 ≤ _; omega)), fun p8 h8 => ?_⟩⟩
          have E := (e7.newM (o := .lst [.int 0]) hl7)
          have E8 := E.newM (o := .lst (vs ++ [.int 0])) h8
          refine hnx _ _ ⟨S', a, p8, al, ms ++ [.int 0], _, rfl, E8, (hH7.up hl7).up h8, hal, E.none1 h8, none_of_same E.i h8, upd_same, hvs.snoc (show nmR S' (.int 0) (.int 0) from rfl), by omega, by rw [List.length_append]; omega, by rw [List.length_append]; show ms.length + 1 ≤ _; omega, fun x hx => ?_, fun _ z5 => by omega⟩
          rcases List.mem_append.mp hx with y | y
          · exact hsm x y
          · rw [List.mem_singleton.mp y]; exact small_int (by decide)
      · have p5' := p0
        obtain ⟨S', a, b, al, ms, vs, rfl, e7, hH7, hal, hb0, hbS, hbH, hvs, hall, hn', hn6, hsm, hw5⟩ := p0
        refine ⟨_, rfl, rfl, _, rfl, ?_⟩
        rw [dV]
        refine ifD (fun z => ?_) fun z => hnx _ _ p5'.up
        obtain ⟨_, avs, z2, hav, hal2⟩ := id hal
        cases z2
        have avl := hal2.len
        refine ⟨_, rfl, _, rfl, ra, rvs, rfl, .inl (SqL.of (e7.i _ _ (e7.s _ _ hra))), _, rfl, (by show (4 : Nat) ≤ sizeLine; decide), fun t7 ht7 => ?_⟩
        have et := (Ext.refl (m := (· = hd)) e7.i).newM (o := .tup [.int 0, .int ((rvs.length : Nat) : Int), .int (-1), .non]) ht7
        refine ⟨_, rfl, S', hd, 4, rfl, et.i, hH7.up ht7, by decide, by decide, fun H8 r8 e8 hH8 hr8 => ?_⟩
        have ht8 := e8.h t7 _ (hH7.ne ht7).symm upd_same
        have ex : ∃ v x, [V.int 0, .int ((rvs.length : Nat) : Int), .int (-1), .non][r8]? = some v ∧ oR S' v x := by
          rcases r8 with _ | _ | _ | _ | r
          · exact ⟨_, some _, rfl, rfl⟩
          · exact ⟨_, some _, rfl, rfl⟩
          · exact ⟨_, some _, rfl, rfl⟩
          · exact ⟨_, none, rfl, rfl⟩
          · omega
        obtain ⟨v8, x8, hx8, hn8⟩ := ex
        refine ⟨_, _, _, _, rfl, rfl, SqT.of ht8, atI_nat hx8, (by show (1 : Nat) ≤ sizeLine; decide), fun l9 hl9 => ?_⟩
        have e78 := (e7.trans et).trans e8
        have E9 := e78.newM (o := .lst [v8]) hl9
        refine ⟨a, l9, avs, [v8], rfl, rfl, E9.i _ _ hav, upd_same, Nat.le_of_lt (szLt (by show avs.length + 1 ≤ _; omega)), fun p10 h10 => ?_⟩
        have nbt : b ≠ t7 := ne_of_none hbH ht7
        have nb : b ≠ hd := (ne_of_none' hb0 hH)
        have hb8 := e8.h b _ nb ((upd_ne nbt).trans hbH)
        have hb9 := (upd_ne (o := .lst [v8]) (ne_of_none hb8 hl9)).trans hb8
        have nb10 := ne_of_none hb9 h10
        have m10 := same_upd (o := .lst (avs ++ [v8])) (none_of_same E9.i h10)
        refine hnx _ _ ⟨_, p10, b, al ++ [x8], ms, vs, rfl, E9.new h10, (hH8.up hl9).nw E9.i h10, ⟨p10, _, rfl, upd_same, (hal2.snoc hn8).mono oR_m m10⟩, hb0, (upd_ne nb10).trans hbS, (upd_ne nb10).trans hb9, hvs.mono nmR_m m10, by rw [List.length_append]; show al.length + 1 ≤ _; omega, hn', by omega, hsm, fun z => hw5 (by omega)⟩
    · refine ⟨_, rfl, rfl, _, rfl, ?_⟩
      rw [dV]
      refine ifD (fun z => ?_) fun z => iteF (hnx _ _ st3.up)
      have hal2 : All2 (oR (upd S p2 (.lst (lot.map fun n : Nat => V.int n)))) (lot.map fun n : Nat => V.int n) (someL lot) := All2.map (R := oR _) (fun n : Nat => V.int n) (fun i : Nat => some (i : Int)) (fun _ => rfl) lot
      refine ⟨_, rfl, !(lot.map fun n : Nat => V.int n).isEmpty, .inl ⟨_, SqL.of (e3.i _ _ ha2), rfl⟩, ?_⟩
      cases !(lot.map fun n : Nat => V.int n).isEmpty with
      | false => exact iteF (hnx _ _ st3.up)
      | true =>
        have hbH : upd (upd H1 p2 (.lst (lot.map fun n : Nat => V.int n))) p3 (.lst (ns.map V.int)) p3 = some (.lst (ns.map V.int)) := upd_same
        refine iteT ⟨_, rfl, 1, rfl, p2, _, rfl, SqL.of (e3.i _ _ ha2), fun p8 h8 => ?_⟩
        have nb8 := ne_of_none hbH h8
        have m8 := same_upd (o := .lst (cutV (lot.map fun n : Nat => V.int n) (some 1) none)) (none_of_same e3.i h8)
        have hal8 : All2 (oR (upd (upd S p2 (.lst (lot.map fun n : Nat => V.int n))) p8 (.lst (cutV (lot.map fun n : Nat => V.int n) (some 1) none)))) (cutV (lot.map fun n : Nat => V.int n) (some 1) none) _ := ((hal2.drop _).take _).mono oR_m m8
        refine hnx _ _ ⟨_, p8, p3, _, ns.map .int, ns.map V.int, rfl, e3.new h8, (hH2.up' (hH2.ne h3)).nw e3.i h8, ⟨p8, _, rfl, upd_same, hal8⟩, e2.none1 h3, (upd_ne nb8).trans (none_of_same e2.i h3), (upd_ne nb8).trans hbH, All2.map (R := nmR _) V.int Nm.int (fun _ => rfl) ns, ?_, by rw [List.length_map]; omega, by rw [List.length_map]; omega, fun x hx => ?_, fun _ _ => rfl⟩
        · have sl : (someL lot).length = lot.length := List.length_map ..
          rw [List.length_take, List.length_drop]; omega
        · obtain ⟨m, hm, rfl⟩ := List.mem_map.mp hx
          have := hn1 m hm
          exact small_int (by omega)
end Th

/-! part EO -/
namespace Th
open PySem PySem.Spec PyProof.Rows L2

/-! ### the span's rows -/
theorem getD_le {l : List Int} {c : Nat} (h : ∀ x ∈ l, x.natAbs ≤ c) (i : Nat) : (l.getD i 0).natAbs ≤ c := by
  rw [List.getD_eq_getElem?_getD]
  cases e : l[i]? with
  | none => exact Nat.zero_le _
  | some x => exact h x (List.mem_of_getElem? e)
theorem getD_row {M : List (List Int)} {P : Int → Prop} (h : ∀ r ∈ M, ∀ x ∈ r, P x) (i : Nat) : ∀ x ∈ M.getD i [], P x := by
  rw [List.getD_eq_getElem?_getD]
  cases e : M[i]? with
  | none => intro x hx; cases hx
  | some r => exact h r (List.mem_of_getElem? e)
theorem mat_bd {a : Ask} {G : Nat} (hG : ∀ n ∈ a.2, n.natAbs ≤ G) : ∀ (ps : List (Cell × Nat)) (M : List (List Int)) (c : Nat), (∀ r ∈ M, ∀ x ∈ r, x.natAbs ≤ c) → ∀ r ∈ ps.foldl (matStep a) M, ∀ x ∈ r, x.natAbs ≤ c + ps.length * G
  | [], M, c, h => fun r hr x hx => by have := h r hr x hx; omega
  | p :: ps, M, c, h => fun r hr x hx => by
    have h' : ∀ r ∈ matStep a M p, ∀ x ∈ r, x.natAbs ≤ c + G := fun r hr x hx => by
      have hm := getD_row h (sideOf a.1 p.1)
      have h1 := getD_le hm p.2
      have h2 := getD_le hG (othOf a.1 p.1)
      unfold matStep at hr
      generalize M.getD (sideOf a.1 p.1) [] = row at hr hm h1
      rcases List.mem_or_eq_of_mem_set hr with z | z
      · have := h r z x hx; omega
      · subst z
        rcases List.mem_or_eq_of_mem_set hx with y | y
        · have := hm x y; omega
        · subst y; omega
    have := mat_bd hG ps (matStep a M p) (c + G) h' r hr x hx
    rw [List.length_cons, Nat.succ_mul]; omega
theorem ask_ok {h w : Nat} {cells : List Cell} {ls : List Nat} {a : Ask} (ha : AskOk h w a) (c5 : cells.length ≤ 5) : ∀ r ∈ askMat h w cells ls a, r.length = manyN ls ∧ Bd 33 r := fun r hr => by
  refine ⟨mat_row (m := manyN ls) _ (fun r hr => by rw [(List.mem_replicate.mp hr).2, List.length_replicate]) r hr, fun x hx => ?_⟩
  have h1 := mat_bd (a := a) (G := 1000000000) (fun n hn => by have := ha.2 n hn; omega) (cells.zip ls) (List.replicate (linesOf h w a) (List.replicate (manyN ls) 0)) 0 (fun r hr x hx => by
    rw [(List.mem_replicate.mp hr).2] at hx
    rw [(List.mem_replicate.mp hx).2]; exact Nat.le_refl _) r hr x hx
  have h2 : (cells.zip ls).length ≤ 5 := by rw [List.length_zip]; omega
  have h3 : (cells.zip ls).length * 1000000000 ≤ 5 * 1000000000 := Nat.mul_le_mul_right _ h2
  exact Nat.lt_of_le_of_lt (show x.natAbs ≤ 5000000000 by omega) (by decide)
theorem span_ok {h w : Nat} {cells : List Cell} {ls : List Nat} {book : List Ask} (hb : ∀ a ∈ book, AskOk h w a) (c5 : cells.length ≤ 5) : ∀ r ∈ spanRows h w cells ls book, r.length = manyN ls ∧ Bd 33 r := fun r hr => by
  obtain ⟨a, ha, hr⟩ := List.mem_flatMap.mp hr
  exact ask_ok (hb a ha) c5 r hr
theorem ask_count {h w k : Nat} {cells : List Cell} {ls : List Nat} (hh : h ≤ k) (hw : w ≤ k) (a : Ask) : (askMat h w cells ls a).length ≤ k := by
  unfold askMat
  rw [mat_len, List.length_replicate]
  unfold linesOf
  split <;> assumption
theorem span_count {h w k : Nat} {cells : List Cell} {ls : List Nat} (hh : h ≤ k) (hw : w ≤ k) : ∀ book : List Ask, (spanRows h w cells ls book).length ≤ book.length * k
  | [] => Nat.zero_le _
  | a :: book => by
    have h1 := span_count (cells := cells) (ls := ls) hh hw book
    have h2 := ask_count (cells := cells) (ls := ls) hh hw a
    show (askMat h w cells ls a ++ spanRows h w cells ls book).length ≤ _
    rw [List.length_append, List.length_cons, Nat.succ_mul]; omega
theorem span_snoc (h w : Nat) (cells : List Cell) (ls : List Nat) (book : List Ask) (a : Ask) : spanRows h w cells ls (book ++ [a]) = spanRows h w cells ls book ++ askMat h w cells ls a := by
  unfold spanRows
  rw [List.flatMap_append, List.flatMap_cons, List.flatMap_nil, List.append_nil]
/-! ### what is told is sound -/
theorem ediv_gcd {a g : Int} (hg : 0 < g) (h : g ∣ a) : (a / g).natAbs = a.natAbs / g.natAbs := by
  obtain ⟨k, rfl⟩ := h
  rw [Int.mul_ediv_cancel_left k (Int.ne_of_gt hg), Int.natAbs_mul, Nat.mul_div_cancel_left _ (Int.natAbs_pos.mpr (Int.ne_of_gt hg))]
theorem mkR_low {a b : Int} (h : 0 < b) : gI (mkR a b).1 (mkR a b).2 = 1 := by
  rw [mkR_pos h]
  have g := gI_pos_r a (show b ≠ 0 by omega)
  have h1 := ediv_gcd g (gI_dl a b)
  have h2 := ediv_gcd g (gI_dr a b)
  show ((Nat.gcd (a / gI a b).natAbs (b / gI a b).natAbs : Nat) : Int) = 1
  rw [h1, h2]
  have e : (gI a b).natAbs = Nat.gcd a.natAbs b.natAbs := Int.natAbs_natCast _
  rw [e, Nat.gcd_div (Nat.gcd_dvd_left _ _) (Nat.gcd_dvd_right _ _), Nat.div_self (by rw [← e]; omega)]; rfl
theorem rat_mk {a b : Int} (h : 0 < b) : asRat (.pair (mkR a b).1 (mkR a b).2) = some (mkR a b) := by
  have h1 := (mkR_ok (a := a) h).1
  have h2 := mkR_low (a := a) h
  show (if isRat (.pair (mkR a b).1 (mkR a b).2) = true then some ((mkR a b).1, (mkR a b).2) else none) = some (mkR a b)
  rw [if_pos]
  show (decide (1 ≤ (mkR a b).2) && decide (gI (mkR a b).1 (mkR a b).2 = 1)) = true
  rw [decide_eq_true (show (1 : Int) ≤ (mkR a b).2 by omega), decide_eq_true h2]; rfl
theorem half_rat {x : Int} {y : Nm} (h : halfOf x y) : asRat y = some (mkR x 2) := by
  rcases h with rfl | ⟨h, rfl⟩
  · exact rat_mk (by decide)
  · show some ((mkR x 2).1, (1 : Int)) = _
    rw [← h]
/-- a number as a multiple: c times it is x -/
structure Sc (c x : Int) (r : Rat2) : Prop where
  eq : r.1 * c = x * r.2
  pos : 0 < r.2
  sm : r.2.natAbs < 2 ^ 3
  le : r.1.natAbs ≤ x.natAbs
theorem ns_sc {xs : List Int} {ns : List Nm} (h : NsOk xs ns) : ns.length = xs.length ∧ ∃ c : Int, c ≠ 0 ∧ ∀ (i : Nat) x, xs[i]? = some x → ∃ y r, ns[i]? = some y ∧ asRat y = some r ∧ Sc c x r := by
  rcases h with rfl | ⟨hl, h⟩
  · refine ⟨List.length_map .., 1, by decide, fun i x hx => ⟨.int x, (x, 1), by rw [List.getElem?_map, hx]; rfl, rfl, rfl, Int.zero_lt_one, by show (1 : Nat) < 2 ^ 3; decide, Nat.le_refl _⟩⟩
  · refine ⟨hl, 2, by decide, fun i x hx => ?_⟩
    obtain ⟨y, h1, h2⟩ := h i x hx
    obtain ⟨g1, g2, g3⟩ := mkR_ok (a := x) (b := 2) (by decide)
    exact ⟨y, _, h1, half_rat h2, mkR_x (by decide), g1, Nat.lt_of_le_of_lt g3 (by decide), g2⟩
theorem sum_sc {c : Int} : ∀ (row : List Int) (rs : List Rat2) (x : Nat → Int) (t : Rat2) (D : Int), row.length = rs.length → (∀ (i : Nat) r, rs[i]? = some r → r.1 * c = x i * r.2) → t.1 * c = D * t.2 →
    ((prodsOf row rs).foldl sumStep t).1 * c = (D + dot row x) * ((prodsOf row rs).foldl sumStep t).2
  | [], _, x, t, D, _, _, h => by
    show t.1 * c = (D + 0) * t.2
    rw [Int.add_zero]; exact h
  | _ :: _, [], _, _, _, hl, _, _ => by cases hl
  | n :: row, r :: rs, x, t, D, hl, hr, h => by
    have h0 := hr 0 r rfl
    have := sum_sc row rs (fun j => x (j + 1)) (sumStep t (n * r.1, r.2)) (D + n * x 0) (by simpa using hl) (fun i r' hi => hr (i + 1) r' hi) (by
      show (t.1 * r.2 + n * r.1 * t.2) * c = (D + n * x 0) * (t.2 * r.2)
      have e1 : (t.1 * r.2 + n * r.1 * t.2) * c = (t.1 * c) * r.2 + n * t.2 * (r.1 * c) := by rw [Int.add_mul]; ac_rfl
      have e2 : (D + n * x 0) * (t.2 * r.2) = D * t.2 * r.2 + n * t.2 * (x 0 * r.2) := by rw [Int.add_mul]; ac_rfl
      rw [e1, e2, h, h0])
    rw [Int.add_assoc] at this
    exact this
theorem some_mem {i : Nat} {l : List Nat} : some (i : Int) ∈ someL l ↔ i ∈ l := by
  unfold someL
  rw [List.mem_map]
  constructor
  · rintro ⟨j, hj, e⟩
    have : (j : Int) = (i : Int) := Option.some.inj e
    have : j = i := by omega
    subst this; exact hj
  · intro h; exact ⟨i, h, rfl⟩
theorem lot_ans {m : Nat} {lot : List Nat} (h : LotOk m lot) : ansOk m (someL lot) = true := by
  have ll : (someL lot).length = lot.length := List.length_map ..
  refine List.all_eq_true.mpr fun i hi => ?_
  have hi := List.mem_range.mp hi
  rw [ll] at hi
  have f1 : lot[i]? = some lot[i] := List.getElem?_eq_getElem hi
  have g1 : (someL lot).getD i none = some ((lot[i] : Nat) : Int) := by
    unfold someL
    rw [List.getD_eq_getElem?_getD, List.getElem?_map, f1]; rfl
  have h1 := h.lt _ (List.getElem_mem hi)
  unfold okAt
  rw [g1]
  show (decide ((0 : Int) ≤ _) && decide (_ ≤ (m : Int) - 1) && (decide (i = 0) || decide (prevOf (someL lot) i < _))) = true
  rw [decide_eq_true (show (0 : Int) ≤ ((lot[i] : Nat) : Int) by omega), decide_eq_true (show ((lot[i] : Nat) : Int) ≤ (m : Int) - 1 by omega)]
  by_cases z : i = 0
  · rw [decide_eq_true z]; rfl
  · have hj : i - 1 < lot.length := by omega
    have f2 : lot[i - 1]? = some lot[i - 1] := List.getElem?_eq_getElem hj
    have g2 : prevOf (someL lot) i = ((lot[i - 1] : Nat) : Int) := by
      unfold prevOf someL
      rw [List.getD_eq_getElem?_getD, List.getElem?_map, f2]; rfl
    have := List.pairwise_iff_getElem.mp h.inc (i - 1) i hj hi (by omega)
    rw [g2, decide_eq_true (show ((lot[i - 1] : Nat) : Int) < ((lot[i] : Nat) : Int) by omega), Bool.or_true]; rfl
theorem al_lot {m : Nat} {lot : List Nat} {al : List (Option Int)} (h : LotOk m lot) (ha : AlOk m lot al) : ∃ l', LotOk m l' ∧ al = someL l' ∧ ∀ i ∈ lot, i ∈ l' := by
  rcases ha with rfl | ⟨p, hp, rfl⟩
  · exact ⟨lot, h, rfl, fun i hi => hi⟩
  · exact ⟨_, ⟨List.pairwise_lt_range.filter _, fun x hx => List.mem_range.mp (List.mem_filter.mp hx).1⟩, rfl, fun i hi => List.mem_filter.mpr ⟨List.mem_range.mpr (h.lt i hi), hp i hi⟩⟩
theorem sound_of {rows : List (List Int)} {n l : Nat} {lot : List Nat} {xs : List Int} (h : ∀ r ∈ rows, r.length = n ∧ Bd 33 r) (hl : l < n) (hs : Shown rows n l lot xs) (ho : LotOk rows.length lot) : Sound rows n l lot xs := fun al ns ha hn => by
  obtain ⟨l', lo, rfl, sub⟩ := al_lot ho ha
  obtain ⟨nl, c, hc, hi⟩ := ns_sc hn
  have xl := hs.len
  have all : ∀ y ∈ ns, ∃ x r, x ∈ xs ∧ asRat y = some r ∧ Sc c x r := fun y hy => by
    obtain ⟨i, hiy⟩ := List.mem_iff_getElem?.mp hy
    have il := (List.getElem?_eq_some_iff.mp hiy).1
    have f1 : xs[i]? = some xs[i] := List.getElem?_eq_getElem (by omega)
    obtain ⟨y', r, g1, g2, g3⟩ := hi i _ f1
    rw [hiy] at g1
    cases g1
    exact ⟨_, r, List.getElem_mem _, g2, g3⟩
  have nok : NumsOk ns := fun y hy r hr => by
    obtain ⟨x, r', hx, g2, g3⟩ := all y hy
    rw [hr] at g2
    cases g2
    exact ⟨g3.pos, g3.sm, Nat.lt_of_le_of_lt g3.le (Nat.lt_of_lt_of_le (hs.bd x hx) (Nat.pow_le_pow_right (by decide) (by decide)))⟩
  refine ⟨?_, nok⟩
  have rl : (ratsOf ns).length = n := by unfold ratsOf; rw [List.length_map]; omega
  have rget : ∀ (i : Nat) r, (ratsOf ns)[i]? = some r → Sc c (xs.getD i 0) r := fun i r hr => by
    have il := (List.getElem?_eq_some_iff.mp hr).1
    have f1 : xs[i]? = some xs[i] := List.getElem?_eq_getElem (by omega)
    obtain ⟨y, r', g1, g2, g3⟩ := hi i _ f1
    unfold ratsOf at hr
    rw [List.getElem?_map, g1] at hr
    have e : (asRat y).getD (0, 1) = r := Option.some.inj hr
    rw [g2] at e
    have e : r' = r := e
    subst e
    rw [List.getD_eq_getElem?_getD, f1]; exact g3
  have rok : RatsOk (ratsOf ns) := fun r hr => by
    obtain ⟨y, hy, rfl⟩ := List.mem_map.mp hr
    obtain ⟨x, r', hx, g2, g3⟩ := all y hy
    rw [g2]
    exact nok y hy r' g2
  unfold lostFault
  show (if ansOk rows.length (someL l') = false then _ else _) = _
  rw [lot_ans lo, if_neg (by decide), if_neg (fun z => z (by omega)), if_neg, if_neg, if_neg]
  · rw [List.getD_eq_getElem?_getD, List.getElem?_eq_getElem (show l < (ratsOf ns).length by omega)]
    have g := rget l _ (List.getElem?_eq_getElem (show l < (ratsOf ns).length by omega))
    generalize (ratsOf ns)[l] = r at g
    intro z
    have z : r.1 = 0 := z
    have e := g.eq
    rw [z, Int.zero_mul] at e
    rcases Int.mul_eq_zero.mp e.symm with y | y
    · exact hs.at_ y
    · have := g.pos; omega
  · intro z
    obtain ⟨i, hi', z⟩ := List.any_eq_true.mp z
    obtain ⟨z1, z2⟩ := Bool.and_eq_true_iff.mp z
    have hi' := List.mem_range.mp hi'
    have z1 := of_decide_eq_true z1
    have z2 := of_decide_eq_true z2
    rw [some_mem] at z1
    have hm := h _ (getD_mem hi')
    have d0 := hs.rest i hi' fun q => z1 (sub i q)
    refine z2 ((sums_zero hm.2 rok (by rw [hm.1, rl])).mp ?_)
    unfold lawSum
    have pl : (prodsOf (rows.getD i []) (ratsOf ns)).length = n := by unfold prodsOf; rw [List.length_map, List.length_zip, hm.1, rl, Nat.min_self]
    have b := (sumT_bd (prods_ok hm.2 rok) _ (Nat.le_refl _)).1
    rw [List.take_length] at b
    rw [mkR_zero b]
    have e := sum_sc (c := c) (rows.getD i []) (ratsOf ns) (fun j => xs.getD j 0) (0, 1) 0 (by rw [hm.1, rl]) (fun j r hr => (rget j r hr).eq) (by show (0 : Int) * c = 0 * 1; rw [Int.zero_mul, Int.zero_mul])
    rw [d0] at e
    have e : (sumT (prodsOf (rows.getD i []) (ratsOf ns))).1 * c = (0 + 0) * _ := e
    rw [Int.add_zero, Int.zero_mul] at e
    rcases Int.mul_eq_zero.mp e with y | y
    · exact y
    · exact absurd y hc
  · intro z
    obtain ⟨y, hy, z⟩ := List.any_eq_true.mp z
    obtain ⟨x, r, _, g2, _⟩ := all y hy
    rw [g2] at z
    cases z
/-! ### what is told fits -/
theorem law_loss_eq {rows : List (List Int)} {n l : Nat} (h : ∀ r ∈ rows, r.length = n ∧ Bd 33 r) (hl : l < n) : lawLoss rows n l = firstLoss rows n l rows.length := by
  unfold lawLoss firstLoss firstIn
  rw [Nat.min_self]
  exact law_first h hl rows.length
theorem told_of {rows : List (List Int)} {n l : Nat} (h : ∀ r ∈ rows, r.length = n ∧ Bd 33 r) (hl : l < n) (hn : n ≤ 5) {lot : List Nat} (hf : firstLoss rows n l rows.length = some lot) (k : Nat) :
    (lot.length ≤ k ∧ ∃ xs, lostTold rows n l k = some (lot, xs) ∧ Shown rows n l lot xs) ∨ (k < lot.length ∧ lostTold rows n l k = none) := by
  have hm := first_least h hl hf
  by_cases hk : lot.length ≤ k
  · obtain ⟨xs, h1, h2⟩ := shown_of (lot := lot) h hl (fun j hj => sz_hb n (by omega) j (by omega) hj) hm.hid
    refine .inl ⟨hk, xs, ?_, h2⟩
    unfold lostTold
    rw [first_cut hf k, if_pos hk]
    show ((hiddenBasis (keptRows rows lot) n).find? fun v => decide (v.getD l 0 ≠ 0)).map _ = _
    rw [h1]; rfl
  · refine .inr ⟨by omega, ?_⟩
    unfold lostTold
    rw [first_cut hf k, if_neg hk]
theorem fits_of {rows : List (List Int)} {n l : Nat} (h : ∀ r ∈ rows, r.length = n ∧ Bd 33 r) (hl : l < n) (hn : n ≤ 5) {lot : List Nat} (hf : firstLoss rows n l rows.length = some lot) (k : Nat) : FitsOk rows n l lot k (lostTold rows n l k) := by
  have hm := first_least h hl hf
  unfold FitsOk
  rcases told_of h hl hn hf k with ⟨hk, xs, e, hs⟩ | ⟨hk, e⟩
  · rw [if_pos hk]
    refine ⟨xs, e, hs.len, hs.bd.mono (by decide), hs.at_, fun i hi => ⟨fun z => ?_, fun z => ?_⟩⟩
    · by_cases q : i ∈ lot
      · exact q
      · exact absurd (hs.rest i hi q) z
    · refine hm.seen (fun r hr => ?_) hs.at_ z
      obtain ⟨j, h1, h2, rfl⟩ := kept_mem.mp hr
      exact hs.rest j h1 h2
  · rw [if_neg (by omega)]; exact e
end Th

/-! part EP -/
namespace Th
open PySem PySem.Spec PyProof.Rows L2

/-! ### the law itself: what stands behind its first lines -/
structure LwE (S : Hp) (ov bv rv mv kv : V) (lt : Addr) (h w : Nat) (cells : List Cell) (ls : List Nat) (book : List Ask) (l : Nat) (lot : List Nat) : Prop where
  one : ∃ p ca la, ov = .ref p ∧ S p = some (.lst [.int (h : Int), .int (w : Int), .ref ca, .ref la])
  bk : Bk S mv kv h w cells ls book
  bkl : lR askT S bv book
  rows : lR lI S rv (spanRows h w cells ls book)
  lt : S lt = some (.tup (lot.map fun n : Nat => V.int n))
  hl : l < manyN ls
  first : firstLoss (spanRows h w cells ls book) (manyN ls) l (spanRows h w cells ls book).length = some lot
  r8 : (spanRows h w cells ls book).length ≤ 8
  b3 : book.length ≤ 3
  h4 : h ≤ 4
  w4 : w ≤ 4
  c5 : cells.length ≤ 5
theorem LwE.mono {S S' : Hp} {ov bv rv mv kv : V} {lt : Addr} {h w : Nat} {cells : List Cell} {ls : List Nat} {book : List Ask} {l : Nat} {lot : List Nat} (k : Same S S') (x : LwE S ov bv rv mv kv lt h w cells ls book l lot) : LwE S' ov bv rv mv kv lt h w cells ls book l lot := by
  obtain ⟨p, ca, la, e, hp⟩ := x.one
  exact ⟨⟨p, ca, la, e, k _ _ hp⟩, x.bk.mono k, lR_m askT_m _ _ _ _ k x.bkl, lR_m lI_m _ _ _ _ k x.rows, k _ _ x.lt, x.hl, x.first, x.r8, x.b3, x.h4, x.w4, x.c5⟩
theorem LwE.lot {S : Hp} {ov bv rv mv kv : V} {lt : Addr} {h w : Nat} {cells : List Cell} {ls : List Nat} {book : List Ask} {l : Nat} {lot : List Nat} (x : LwE S ov bv rv mv kv lt h w cells ls book l lot) : Least (spanRows h w cells ls book) l lot := first_least x.bk.rw x.hl x.first
theorem LwE.len {S : Hp} {ov bv rv mv kv : V} {lt : Addr} {h w : Nat} {cells : List Cell} {ls : List Nat} {book : List Ask} {l : Nat} {lot : List Nat} (x : LwE S ov bv rv mv kv lt h w cells ls book l lot) : lot.length ≤ 8 := Nat.le_trans (lot_len x.lot.ok) x.r8
/-- the slots: the first ten stand, the others as said -/
def lawS (a hd : Addr) (ov bv rv mv kv : V) (lt : Addr) (n l : Nat) (xs : List (Option V)) : L2.St :=
  some (.ref a) :: some (.ref hd) :: some ov :: some (.int (n : Int)) :: some bv :: some rv :: some mv :: some kv :: some (.int (l : Int)) :: some (.ref lt) :: xs
section
variable {P : Program} {w0 : World} {K : PySem.W.Frag} {mg : Str → Option Value} {base : Heap} {cdv : Value} {A : Around} {outer : List Env} {s : Shared} {HH : Hp} {E : XK}
abbrev lawX (P : Program) (w : World) (K : PySem.W.Frag) (mg : Str → Option Value) (base : Heap) (cdv : Value) (A : Around) (outer : List Env) (s : Shared) (H : Hp) (E : XK) : Cx := (cxOf CX0 P w K mg base N_law e_law.qual (defScope st_law) A_law cdv A outer s H E).nox
abbrev lawRoom (A : Around) (s : Shared) (cdv : Value) : Prop := Room 9 (A.deeper (envOfC e_law.qual (defScope st_law) s.heap.objs.size A_law cdv))
theorem askT_in {S : Hp} {v : V} {a : Ask} (h : askT S v a) : askIn S v a := by
  obtain ⟨p, nv, e, h1, h2⟩ := h
  exact ⟨p, nv, e, .inr h1, .inr h2⟩
/-- the end, from statement 20 -/
theorem segF (T : Tx K mg) (hr : lawRoom A s cdv) : ∃ t, PSs (lawX P w0 K mg base cdv A outer s HH E) ((defBody st_law).drop 20) t ∧
    ∀ (D : Ends) (S H : Hp) (a hd hid : Addr) (ov bv rv mv kv : V) (lt : Addr) (h w : Nat) (cells : List Cell) (ls : List Nat) (book : List Ask) (l : Nat) (lot : List Nat) (x10 x11 x12 x13 x15 x16 x17 x18 x19 x20 : Option V),
      Same S H → Hand S H hd → LwE S ov bv rv mv kv lt h w cells ls book l lot → S hid = some (.lst ((unitRow (manyN ls) l).map V.int)) → (∀ H', D.rt (.bl true) H') →
      t D (lawS a hd ov bv rv mv kv lt (manyN ls) l [x10, x11, x12, x13, some (.ref hid), x15, x16, x17, x18, x19, x20]) H := by
  refine ⟨_, (pss_cons (ps_if (pt_cmpR op_ne (pe_call (ok_lost_fault T) (hr.mono (by decide)) (by rfl) (g_lost_fault T) (fn_lost_fault T).kp (b_lost_fault T) .nil pass0 (pa_cons (pv 6) (pa_cons (pv 7) (pa_cons (pv 8) (pa_cons (pe_make (mk_Lost T) (ok_Lost_init T) (hr.mono (by decide)) (by rfl) (g_Lost T) (b_Lost_init T) .nil pass0 (pa_cons pe_non (pa_cons (pv 14) pa_nil))) pa_nil))))) pe_str (nomark _))
      (pss_one (ps_ret pe_bl))
      pss_nil)
      (pss_cons (ps_set (i := 20) sc_law.nd rfl (.inl rfl) (pe_call (ok_law_ask T) (hr.mono (by decide)) (by rfl) (g_law_ask T) (fn_law_ask T).kp (b_law_ask T) .nil pass0 (pa_cons (pv 1) (pa_cons (pe_ix ix_list (pv 2) pe_int (fun _ _ => rfl)) (pa_cons (pe_ix ix_list (pv 2) pe_int (fun _ _ => rfl)) pa_nil)))))
      (pss_one (ps_ret (pe_or (pe_cmpR op_gt (pe_callB call_len_seq (by rfl) (f_len T) bt_len (pa_cons (pv 5) pa_nil)) pe_int (nomark _)) (pe_one (pe_cmpR op_ge (pe_callB call_len_seq (by rfl) (f_len T) bt_len (pa_cons (pe_call (ok_least_loss T) (hr.mono (by decide)) (by rfl) (g_least_loss T) (fn_least_loss T).kp (b_least_loss T) .nil pass0 (pa_cons (pv 6) (pa_cons (pe_op op_cat (pe_callTy call_list_of (by rfl) (f_list T) bt_list (pa_cons (pv 4) pa_nil)) (pe_lst (pa_cons (pv 20) pa_nil))) (pa_cons (pv 8) pa_nil)))) pa_nil)) (pe_callB call_len_seq (by rfl) (f_len T) bt_len (pa_cons (pv 9) pa_nil)) (nomark _)))))))), ?_⟩
  intro D S H a hd hid ov bv rv mv kv lt h w cells ls book l lot x10 x11 x12 x13 x15 x16 x17 x18 x19 x20 hS hH hL hhid q
  have hb := hL.bk
  have nok : NumsOk ((unitRow (manyN ls) l).map Nm.int) := fun x hx r hr => by
    obtain ⟨m, hm, rfl⟩ := List.mem_map.mp hx
    cases hr
    obtain ⟨i, _, rfl⟩ := List.mem_map.mp hm
    exact ⟨Int.zero_lt_one, (by show (1 : Nat) < 8; decide), Nat.lt_of_lt_of_le (show (if i = l then (1 : Int) else 0).natAbs < 2 ^ 1 by split <;> decide) (Nat.pow_le_pow_right (by decide) (by decide))⟩
  refine ⟨_, rfl, _, rfl, _, rfl, _, rfl, fun x dx hx hdx hne => ?_⟩
  have E1 := lost_new (n := No) (r := .non) (m := .ref hid) hS hx hdx hne
  refine ⟨x, .non, .ref hid, dx, rfl, upd_same, rfl, ?_⟩
  have o1 : upd S x (.ins C_Lost dx [("answers", .non), ("numbers", .ref hid)]) x = some (.ins C_Lost dx [("answers", .non), ("numbers", .ref hid)]) := upd_same
  have hH1 := hH.keep E1
  have hL1 := hL.mono E1.s
  have hid1 := E1.s _ _ hhid
  generalize upd S x (.ins C_Lost dx [("answers", .non), ("numbers", .ref hid)]) = S1 at E1 o1 hH1 hL1 hid1
  generalize upd (upd (upd (upd H dx (.own x)) x (.ins C_Lost dx [])) x (.ins C_Lost dx [("answers", .non)])) x (.ins C_Lost dx [("answers", .non), ("numbers", .ref hid)]) = H1 at E1 hH1
  have hb1 := hL1.bk
  have ul := (unit_ok (manyN ls) l).1
  refine ⟨S1, mv, kv, .ref x, h, w, cells, ls, book, none, (unitRow (manyN ls) l).map .int, l, rfl, E1.i, hb1.m, hb1.b, hb1.bo, hb1.co, hb1.ll, hb1.h6, hb1.w6, by have := hb1.n5; omega, hb1.cl, hb1.rw, hL.hl, ⟨x, dx, _, _, rfl, o1, rfl, .inl ⟨hid, _, rfl, hid1, All2.map (R := nmR S1) V.int Nm.int (fun _ => rfl) _⟩⟩, nok, by rw [List.length_map, ul]; have := hb1.n5; omega, fun S2 H2 u e2 hu => ?_⟩
  cases (show u = .str wAnswers from hu)
  refine ⟨rfl, _, rfl, ?_⟩
  refine iteFc (by
    have z : decide (V.str wAnswers = V.str (Str.ofString "answers")) = true := decide_eq_true rfl
    rw [z]; rfl) ?_
  have hL2 := hL1.mono e2.s
  have hH2 := hH1.keep e2
  obtain ⟨op, ca, la, rfl, hop⟩ := hL2.one
  have so := SqL.of (K := K) (e2.i _ _ hop)
  refine ⟨_, rfl, _, rfl, _, _, _, _, rfl, rfl, so, atI_nat (j := 0) rfl, _, rfl, _, _, _, _, rfl, rfl, so, atI_nat (j := 1) rfl, S2, hd, h, w, rfl, e2.i, hH2, by have := hL.h4; omega, by have := hL.w4; omega, fun S3 H3 u3 a3 e3 hH3 hok3 hu3 => ?_⟩
  have hL3 := hL2.mono e3.s
  obtain ⟨ra, rvs, rfl, hra, hrs⟩ := hL3.rows
  have rl := hrs.len
  refine ⟨_, rfl, ra, rvs, rfl, .inl (SqL.of (e3.i _ _ hra)), _, _, rfl, rfl, ?_⟩
  rw [rl]
  refine ⟨_, rfl, ifD (fun z => q _) fun z => ?_⟩
  obtain ⟨bp, bvs, rfl, hbp, hbs⟩ := hL3.bkl
  have bl := hbs.len
  have b3 := hL.b3
  refine ⟨_, rfl, _, rfl, bp, bvs, rfl, .inl (SqL.of (e3.i _ _ hbp)), fun p4 h4 => ⟨_, rfl, (by show (1 : Nat) ≤ sizeLine; decide), fun p5 h5 => ?_⟩⟩
  have E4 := (Ext.refl (m := No) e3.i).newM (o := .lst bvs) h4
  have E5 := E4.newM (o := .lst [u3]) h5
  have q4 := (upd_ne (o := .lst [u3]) (ne_of_none (upd_same (H := H3) (a := p4) (o := .lst bvs)) h5)).trans (upd_same (H := H3) (a := p4) (o := .lst bvs))
  refine ⟨p4, p5, bvs, [u3], rfl, rfl, q4, upd_same, Nat.le_of_lt (szLt (by show bvs.length + 1 ≤ _; omega)), fun p6 h6 => ⟨_, rfl, ?_⟩⟩
  have E6 := E5.new (o := .lst (bvs ++ [u3])) h6
  have m6 := same_upd (o := .lst (bvs ++ [u3])) (none_of_same E5.i h6)
  have hL6 := hL3.mono m6
  have hb6 := hL6.bk
  have o6 : upd S3 p6 (.lst (bvs ++ [u3])) p6 = some (.lst (bvs ++ [u3])) := upd_same
  have ha6 : All2 (askIn (upd S3 p6 (.lst (bvs ++ [u3])))) (bvs ++ [u3]) (book ++ [a3]) := ((hbs.snoc hu3).mono askT_m m6).mp fun _ _ => askT_in
  generalize upd S3 p6 (.lst (bvs ++ [u3])) = S6 at E6 m6 hL6 hb6 o6 ha6
  generalize upd (upd (upd H3 p4 (.lst bvs)) p5 (.lst [u3])) p6 (.lst (bvs ++ [u3])) = H6 at E6
  have bo' : BookOk h w (book ++ [a3]) := ⟨by rw [List.length_append]; show book.length + 1 ≤ 8; omega, fun a ha => by
    rcases List.mem_append.mp ha with y | y
    · exact hb.bo.2 a y
    · rw [List.mem_singleton.mp y]; exact hok3⟩
  have rw' := span_ok (cells := cells) (ls := ls) bo'.2 hL.c5
  have r8 := hL.r8
  have ac := ask_count (cells := cells) (ls := ls) hL.h4 hL.w4 a3
  have sn := span_snoc h w cells ls book a3
  have r12 : (spanRows h w cells ls (book ++ [a3])).length ≤ 12 := by rw [sn, List.length_append]; omega
  refine ⟨S6, mv, .ref p6, h, w, cells, ls, book ++ [a3], l, rfl, E6.i, ⟨hb6.m, .inl ⟨p6, _, rfl, o6, ha6⟩, bo', hb.co, hb.ll, hb.h6, hb.w6, hb.n5, hb.cl, rw'⟩, hL.hl, r12, fun S7 H7 u7 e7 hu7 => ?_⟩
  obtain ⟨lot', hf'⟩ := first_ex rw' hL.hl
  have hm' := first_least rw' hL.hl hf'
  rw [hf'] at hu7
  obtain ⟨ua, rfl, hua⟩ := (show tN S7 u7 lot' from hu7)
  rw [sn] at hm'
  have le := least_more hL.lot hm'
  refine ⟨ua, _, rfl, .inr (SqT.of (e7.i _ _ hua)), _, rfl, lt, _, rfl, .inr (SqT.of (e7.i _ _ (e7.s _ _ hL6.lt))), _, _, rfl, rfl, ?_⟩
  rw [List.length_map, List.length_map]
  have fin : decide ((lot.length : Int) ≤ (lot'.length : Int)) = true := decide_eq_true (by omega)
  show D.rt (V.bl (decide ((lot.length : Int) ≤ (lot'.length : Int)))) H7
  rw [fin]; exact q _
end
end Th

/-! part EQ -/
namespace Th
open PySem PySem.Spec PyProof.Rows L2

theorem unit_set {n l : Nat} (h : l < n) : (List.replicate n (0 : Int)).set l 1 = unitRow n l := by
  refine List.ext_getElem? fun i => ?_
  unfold unitRow
  rw [List.getElem?_map, List.getElem?_set, List.length_replicate]
  by_cases hi : i < n
  · rw [List.getElem?_range hi]
    by_cases e : l = i
    · rw [if_pos e, if_pos h]
      show some (1 : Int) = some (if i = l then 1 else 0)
      rw [if_pos e.symm]
    · rw [if_neg e, List.getElem?_replicate, if_pos hi]
      show some (0 : Int) = some (if i = l then 1 else 0)
      rw [if_neg fun z => e z.symm]
  · rw [show (List.range n)[i]? = none from List.getElem?_eq_none (by rw [List.length_range]; omega), List.getElem?_replicate, if_neg hi, if_neg (by omega)]; rfl
def dueOf (x : Option Str) : Due := match x with
  | none => .non
  | some z => .str z
theorem due_of {S : Hp} {u : V} {x : Option Str} (h : optR strR S u x) : dueR S u (dueOf x) := by
  cases x with
  | none => exact h
  | some z => exact h
theorem fault_sh {rows : List (List Int)} {n l : Nat} {A : Option (List (Option Int))} {ns : List Nm} {z : Str} (h : dueOf (lostFault rows n l A ns) = .str z) : SeqAt.shaped (.str z) = true := by
  have key : ∀ o : Option Str, (o = none ∨ o = some wAnswers ∨ o = some wMany ∨ o = some wOutside ∨ o = some wLetter) → dueOf o = .str z → SeqAt.shaped (.str z) = true := by
    rintro o (rfl | rfl | rfl | rfl | rfl) e
    · cases e
    all_goals
      cases e
      clear h
      decide +kernel
  refine key _ ?_ h
  cases A with
  | none => exact .inr (.inl rfl)
  | some al =>
    unfold lostFault
    dsimp only
    split
    · exact .inr (.inl rfl)
    · split
      · exact .inr (.inr (.inl rfl))
      · split
        · exact .inr (.inr (.inl rfl))
        · split
          · exact .inr (.inr (.inr (.inl rfl)))
          · split
            · exact .inr (.inr (.inr (.inr rfl)))
            · exact .inl rfl
theorem unit_nums {n l : Nat} : NumsOk ((unitRow n l).map Nm.int) := fun x hx r hr => by
  obtain ⟨m, hm, rfl⟩ := List.mem_map.mp hx
  cases hr
  obtain ⟨i, _, rfl⟩ := List.mem_map.mp hm
  exact ⟨Int.zero_lt_one, (by show (1 : Nat) < 8; decide), Nat.lt_of_lt_of_le (show (if i = l then (1 : Int) else 0).natAbs < 2 ^ 1 by split <;> decide) (Nat.pow_le_pow_right (by decide) (by decide))⟩
/-- one of the pairs that are asked -/
def PairR (S : Hp) (v : V) : Prop := ∃ q va vb al ms, v = .ref q ∧ S q = some (.tup [va, vb]) ∧ lR oR S va al ∧ lR nmR S vb ms ∧ ChOk al ms
/-- one of the lots that are shown -/
def ShownR (S : Hp) (hid : Addr) (v : V) : Prop := ∃ q va lt', v = .ref q ∧ S q = some (.tup [va, .ref hid]) ∧ sN S va lt' ∧ lt'.length ≤ 12
theorem ShownR.mono {S S' : Hp} {hid : Addr} {v : V} (k : Same S S') (h : ShownR S hid v) : ShownR S' hid v := by
  obtain ⟨q, va, lt', e, h1, ⟨a, e2, h2⟩, h3⟩ := h
  exact ⟨q, va, lt', e, k _ _ h1, ⟨a, e2, h2.imp (k _ _) (k _ _)⟩, h3⟩
theorem PairR.mono {S S' : Hp} {v : V} (k : Same S S') (h : PairR S v) : PairR S' v := by
  obtain ⟨q, va, vb, al, ms, e, h1, h2, h3, h4⟩ := h
  exact ⟨q, va, vb, al, ms, e, k _ _ h1, lR_m oR_m _ _ _ _ k h2, lR_m nmR_m _ _ _ _ k h3, h4⟩
section
variable {P : Program} {w0 : World} {K : PySem.W.Frag} {mg : Str → Option Value} {base : Heap} {cdv : Value} {A : Around} {outer : List Env} {s : Shared} {HH : Hp} {E : XK}
/-- the shown lots, from statement 17 -/
theorem segE (T : Tx K mg) (hr : lawRoom A s cdv) : ∃ t, PSs (lawX P w0 K mg base cdv A outer s HH E) ((defBody st_law).drop 17) t ∧
    ∀ (D : Ends) (S H : Hp) (a hd : Addr) (ov bv rv mv kv : V) (lt : Addr) (h w : Nat) (cells : List Cell) (ls : List Nat) (book : List Ask) (l : Nat) (lot : List Nat) (x10 x11 x12 x13 x14 x15 x16 x17 x18 x19 x20 : Option V),
      Same S H → Hand S H hd → LwE S ov bv rv mv kv lt h w cells ls book l lot → (∀ H', D.rt (.bl true) H') →
      t D (lawS a hd ov bv rv mv kv lt (manyN ls) l [x10, x11, x12, x13, x14, x15, x16, x17, x18, x19, x20]) H := by
  obtain ⟨tF, pF, hF⟩ := segF (P := P) (w0 := w0) (base := base) (outer := outer) (HH := HH) (E := E) T hr
  refine ⟨_, (pss_cons (ps_set (i := 14) sc_law.nd rfl (.inl rfl) (pe_op op_rep (pe_lst (pa_cons pe_int pa_nil)) (pv 3)))
      (pss_cons (ps_asg pe_int (pg_sub (pv 14) (pv 8) set_list))
      (pss_cons (ps_for PassesOwn.never rfl (pi_list (pe_lst (pa_cons (pe_tup (pa_cons (pv 9) (pa_cons (pv 14) pa_nil))) (pa_cons (pe_tup (pa_cons (pe_listRg rfl (by rfl) (f_list T) (prg_1 (by rfl) (f_range T) (pe_callB call_len_seq (by rfl) (f_len T) bt_len (pa_cons (pv 5) pa_nil)))) (pa_cons (pv 14) pa_nil))) pa_nil)))) (pg_name (i := 15) sc_law.nd rfl (.inl rfl))
      (pss_cons (ps_asg (pe_call (ok_law_changed T) (hr.mono (by decide)) (by rfl) (g_law_changed T) (fn_law_changed T).kp (b_law_changed T) .nil pass0 (pa_cons (pv 1) (pa_cons (pe_ix ix_tup (pv 15) pe_int (fun _ _ => rfl)) (pa_cons (pe_ix ix_tup (pv 15) pe_int (fun _ _ => rfl)) (pa_cons (pv 5) (pa_cons (pv 3) pa_nil)))))) (pg_tup (by rfl) (pgs_cons (pg_name (i := 16) sc_law.nd rfl (.inl rfl)) (pgs_cons (pg_name (i := 17) sc_law.nd rfl (.inl rfl)) pgs_nil))))
      (pss_one (ps_for PassesOwn.never rfl (pi_list (pe_lst (pa_cons (pe_tup (pa_cons (pe_callTy call_list_of (by rfl) (f_list T) bt_list (pa_cons (pe_ix ix_tup (pv 15) pe_int (fun _ _ => rfl)) pa_nil)) (pa_cons (pe_callTy call_list_of (by rfl) (f_list T) bt_list (pa_cons (pe_ix ix_tup (pv 15) pe_int (fun _ _ => rfl)) pa_nil)) pa_nil))) (pa_cons (pe_tup (pa_cons (pv 16) (pa_cons (pv 17) pa_nil))) pa_nil)))) (pg_name (i := 18) sc_law.nd rfl (.inl rfl))
      (pss_cons (ps_set (i := 19) sc_law.nd rfl (.inl rfl) (pe_call (ok_law_lost_word T) (hr.mono (by decide)) (by rfl) (g_law_lost_word T) (fn_law_lost_word T).kp (b_law_lost_word T) .nil pass0 (pa_cons (pv 5) (pa_cons (pv 3) (pa_cons (pv 8) (pa_cons (pe_ix ix_tup (pv 18) pe_int (fun _ _ => rfl)) (pa_cons (pe_ix ix_tup (pv 18) pe_int (fun _ _ => rfl)) pa_nil)))))))
      (pss_one (ps_if (pt_not (pt_val (pe_call (ok_law_exact T) (hr.mono (by decide)) (by rfl) (g_law_exact T) (fn_law_exact T).kp (b_law_exact T) .nil pass0 (pa_cons (pe_call (ok_lost_fault T) (hr.mono (by decide)) (by rfl) (g_lost_fault T) (fn_lost_fault T).kp (b_lost_fault T) .nil pass0 (pa_cons (pv 6) (pa_cons (pv 7) (pa_cons (pv 8) (pa_cons (pe_make (mk_Lost T) (ok_Lost_init T) (hr.mono (by decide)) (by rfl) (g_Lost T) (b_Lost_init T) .nil pass0 (pa_cons (pe_ix ix_tup (pv 18) pe_int (fun _ _ => rfl)) (pa_cons (pe_ix ix_tup (pv 18) pe_int (fun _ _ => rfl)) pa_nil))) pa_nil))))) (pa_cons (pv 19) pa_nil)))))
      (pss_one (ps_ret pe_bl))
      pss_nil)))))))
      pF))), ?_⟩
  intro D S H a hd ov bv rv mv kv lt h w cells ls book l lot x10 x11 x12 x13 x14 x15 x16 x17 x18 x19 x20 hS hH hL q
  have hb := hL.bk
  have n5 := hb.n5
  have hl := hL.hl
  refine ⟨by decide, fun p7 h7 => ⟨_, rfl, p7, _, _, rfl, rfl, upd_same, by omega, by omega, ?_, fun p8 h8 => ?_⟩⟩
  · rw [Int.toNat_natCast]
    have := szLt (n := manyN ls) (by omega)
    show 1 * manyN ls ≤ _
    omega
  · rw [Int.toNat_natCast, flat1]
    have e7 := (Ext.refl (m := No) hS).newM (o := .lst [.int 0]) h7
    have e8 := e7.newM (o := .lst (List.replicate (manyN ls) (.int 0))) h8
    have s8 := none_of_same e7.i h8
    refine ⟨_, rfl, _, rfl, p8, _, (l : Int), l, rfl, rfl, upd_same, ixN_nat (by rw [List.length_replicate]; omega), ?_⟩
    have e9 := e8.mut (o := .lst ((List.replicate (manyN ls) (.int 0)).set l (.int 1))) (.inl (e7.none1 h8)) s8
    have us : (List.replicate (manyN ls) (V.int 0)).set l (.int 1) = (unitRow (manyN ls) l).map V.int := by rw [← unit_set hl, List.map_set, List.map_replicate]
    rw [us] at e9 ⊢
    have e10 := e9.fix (e7.none1 h8) s8 upd_same
    have hH9 : Hand (upd S p8 (.lst ((unitRow (manyN ls) l).map V.int))) (upd (upd (upd H p7 (.lst [.int 0])) p8 (.lst (List.replicate (manyN ls) (.int 0)))) p8 (.lst ((unitRow (manyN ls) l).map V.int))) hd := hH.keep e10
    have hL9 := hL.mono e10.s
    have hhid : upd S p8 (.lst ((unitRow (manyN ls) l).map V.int)) p8 = some (.lst ((unitRow (manyN ls) l).map V.int)) := upd_same
    generalize upd S p8 (.lst ((unitRow (manyN ls) l).map V.int)) = S9 at e10 hH9 hL9 hhid
    generalize upd (upd (upd H p7 (.lst [.int 0])) p8 (.lst (List.replicate (manyN ls) (.int 0)))) p8 (.lst ((unitRow (manyN ls) l).map V.int)) = H9 at e10 hH9
    have i9 := e10.i
    clear e7 e8 e9 e10 s8
    have ul := (unit_ok (manyN ls) l).1
    obtain ⟨ra, rvs, rfl, hra, hrs⟩ := id hL9.rows
    have rl := hrs.len
    have r8 := hL.r8
    refine ⟨_, rfl, _, rfl, two_le, fun q1 hq1 => ?_⟩
    have f1 := (Ext.refl (m := No) i9).new (o := .tup [.ref lt, .ref p8]) hq1
    refine ⟨_, rfl, ra, rvs, rfl, .inl (SqL.of (f1.i _ _ (f1.s _ _ hra))), _, rfl, RgOk.of_le (by omega) (by omega) (by omega) (by omega), fun p9 h9 => ?_⟩
    rw [rl, rgV0]
    have f2 := f1.new (o := .lst ((List.range (spanRows h w cells ls book).length).map fun i : Nat => V.int i)) h9
    refine ⟨_, rfl, two_le, fun q2 hq2 => ⟨two_le, fun l3 hl3 => ?_⟩⟩
    have f3 := f2.new (o := .tup [.ref p9, .ref p8]) hq2
    have f4 := f3.new (o := .lst [.ref q1, .ref q2]) hl3
    have k1 := same_upd (o := .lst ((List.range (spanRows h w cells ls book).length).map fun i : Nat => V.int i)) (none_of_same f1.i h9)
    have k2 := same_upd (o := .tup [.ref p9, .ref p8]) (none_of_same f2.i hq2)
    have k3 := same_upd (o := .lst [.ref q1, .ref q2]) (none_of_same f3.i hl3)
    have sh1 : ShownR (upd S9 q1 (.tup [.ref lt, .ref p8])) p8 (.ref q1) := ⟨q1, .ref lt, lot, rfl, upd_same, ⟨lt, rfl, .inr (f1.s _ _ hL9.lt)⟩, by have := hL.len; omega⟩
    have sh1 := ((sh1.mono k1).mono k2).mono k3
    have sh2 : ShownR (upd (upd (upd S9 q1 (.tup [.ref lt, .ref p8])) p9 (.lst ((List.range (spanRows h w cells ls book).length).map fun i : Nat => V.int i))) q2 (.tup [.ref p9, .ref p8])) p8 (.ref q2) := ⟨q2, .ref p9, List.range (spanRows h w cells ls book).length, rfl, upd_same, ⟨p9, rfl, .inl (k2 _ _ upd_same)⟩, by rw [List.length_range]; omega⟩
    have sh2 := sh2.mono k3
    have hl3' : upd (upd (upd (upd S9 q1 (.tup [.ref lt, .ref p8])) p9 (.lst ((List.range (spanRows h w cells ls book).length).map fun i : Nat => V.int i))) q2 (.tup [.ref p9, .ref p8])) l3 (.lst [.ref q1, .ref q2]) l3 = some (.lst [.ref q1, .ref q2]) := upd_same
    have hH4 := hH9.keep f4
    have hL4 := hL9.mono f4.s
    have hid4 := f4.s _ _ hhid
    have i4 := f4.i
    generalize upd (upd (upd (upd S9 q1 (.tup [.ref lt, .ref p8])) p9 (.lst ((List.range (spanRows h w cells ls book).length).map fun i : Nat => V.int i))) q2 (.tup [.ref p9, .ref p8])) l3 (.lst [.ref q1, .ref q2]) = S4 at sh1 sh2 hl3' hH4 hL4 hid4 i4
    generalize upd (upd (upd (upd H9 q1 (.tup [.ref lt, .ref p8])) p9 (.lst ((List.range (spanRows h w cells ls book).length).map fun i : Nat => V.int i))) q2 (.tup [.ref p9, .ref p8])) l3 (.lst [.ref q1, .ref q2]) = H4 at hH4 i4
    clear f1 f2 f3 f4 k1 k2 k3 h9 hq1 hq2 hl3
    refine ⟨l3, rfl, ⟨_, SqL.of (i4 _ _ hl3')⟩, forE (S0 := S4) (H0 := H4) (m := (· = hd)) (σ := lawS a hd ov bv (.ref ra) mv kv lt (manyN ls) l [x10, x11, x12, x13, some (.ref p8), x15, x16, x17, x18, x19, x20]) (walk_list (xs := [V.ref q1, .ref q2]))
      (fun i σ S' H' => Hand S' H' hd ∧ ∃ x15 x16 x17 x18 x19, σ = lawS a hd ov bv (.ref ra) mv kv lt (manyN ls) l [x10, x11, x12, x13, some (.ref p8), x15, x16, x17, x18, x19, x20])
      (Ext.refl i4) ⟨hH4, _, _, _, _, _, rfl⟩ (fun _ _ _ _ _ e p => SqL.of (e.i _ _ (e.s _ _ hl3'))) (fun i x σ S5 H5 H6 hi e5 p5 hy => ?_) fun σ S5 H5 e5 p5 => ?_⟩
    · obtain ⟨hH5, y15, y16, y17, y18, y19, rfl⟩ := p5
      obtain ⟨rfl, hx⟩ := hy
      have hsh : ShownR S5 p8 x := by
        match i, hx with
        | 0, hx => cases hx; exact sh1.mono e5.s
        | 1, hx => cases hx; exact sh2.mono e5.s
        | n + 2, hx => cases hx
      obtain ⟨qx, va, lt', rfl, hqx, hva, hlt'⟩ := hsh
      have hL5 := hL4.mono e5.s
      have hid5 := e5.s _ _ hid4
      have sq5 := fun (H' : Hp) (k : Same S5 H') => SqT.of (K := K) (k _ _ hqx)
      refine ⟨_, rfl, _, rfl, _, _, _, _, rfl, rfl, sq5 _ e5.i, atI_nat (j := 0) rfl, _, rfl, _, _, _, _, rfl, rfl, sq5 _ e5.i, atI_nat (j := 1) rfl, _, rfl, _, rfl, ?_⟩
      refine ⟨S5, hd, va, .ref p8, .ref ra, lt', unitRow (manyN ls) l, spanRows h w cells ls book, manyN ls, rfl, e5.i, hH5, hva, ⟨p8, rfl, hid5⟩, hL5.rows, hlt', ul, ?_, by omega, n5, by omega, fun S7 H7 u7 al ms e7 hH7 hch hck => ?_⟩
      · intro x hx
        obtain ⟨i, _, rfl⟩ := List.mem_map.mp hx
        split <;> decide
      · obtain ⟨pc, ca, cb, rfl, hpc, hca, hcb⟩ := hch
        obtain ⟨va', rfl, hva'⟩ := hva
        refine ⟨pc, _, rfl, SqT.of (e7.i _ _ hpc), rfl, _, _, rfl, _, _, rfl, rfl, ?_⟩
        refine ⟨_, rfl, _, _, _, _, rfl, rfl, sq5 _ (e7.s.trans e7.i), atI_nat (j := 0) rfl, va', _, rfl, hva'.imp (fun z => SqL.of (e7.i _ _ (e7.s _ _ z))) (fun z => SqT.of (e7.i _ _ (e7.s _ _ z))), fun p11 h11 => ?_⟩
        have g1 := (Ext.refl (m := No) e7.i).new (o := .lst (lt'.map fun n : Nat => V.int n)) h11
        have m1 := same_upd (o := .lst (lt'.map fun n : Nat => V.int n)) (none_of_same e7.i h11)
        have o1 : upd S7 p11 (.lst (lt'.map fun n : Nat => V.int n)) p11 = some (.lst (lt'.map fun n : Nat => V.int n)) := upd_same
        have r1 := m1 _ _ (e7.s _ _ hid5)
        have hca := lR_m oR_m _ _ _ _ m1 hca
        have hcb := lR_m nmR_m _ _ _ _ m1 hcb
        have k57 := e7.s.trans m1
        generalize upd S7 p11 (.lst (lt'.map fun n : Nat => V.int n)) = S11 at g1 o1 r1 hca hcb k57
        generalize upd H7 p11 (.lst (lt'.map fun n : Nat => V.int n)) = H11 at g1
        clear m1
        refine ⟨_, rfl, _, _, _, _, rfl, rfl, sq5 _ (k57.trans g1.i), atI_nat (j := 1) rfl, p8, _, rfl, .inl (SqL.of (g1.i _ _ r1)), fun p12 h12 => ⟨two_le, fun q13 hq13 => ⟨_, rfl, _, rfl, two_le, fun q14 hq14 => ⟨two_le, fun l15 hl15 => ?_⟩⟩⟩⟩
        have g2 := g1.new (o := .lst ((unitRow (manyN ls) l).map V.int)) h12
        have g3 := g2.new (o := .tup [.ref p11, .ref p12]) hq13
        have g4 := g3.new (o := .tup [.ref ca, .ref cb]) hq14
        have g5 := g4.new (o := .lst [.ref q13, .ref q14]) hl15
        have m2 := same_upd (o := .lst ((unitRow (manyN ls) l).map V.int)) (none_of_same g1.i h12)
        have m3 := same_upd (o := .tup [.ref p11, .ref p12]) (none_of_same g2.i hq13)
        have m4 := same_upd (o := .tup [.ref ca, .ref cb]) (none_of_same g3.i hq14)
        have m5 := same_upd (o := .lst [.ref q13, .ref q14]) (none_of_same g4.i hl15)
        have al1 : lR oR (upd S11 p12 (.lst ((unitRow (manyN ls) l).map V.int))) (.ref p11) (someL lt') := ⟨p11, _, rfl, m2 _ _ o1, All2.map (R := oR _) (fun n : Nat => V.int n) (fun i : Nat => some (i : Int)) (fun _ => rfl) lt'⟩
        have nm1 : lR nmR (upd S11 p12 (.lst ((unitRow (manyN ls) l).map V.int))) (.ref p12) ((unitRow (manyN ls) l).map Nm.int) := ⟨p12, _, rfl, upd_same, All2.map (R := nmR _) V.int Nm.int (fun _ => rfl) _⟩
        have sl' : (someL lt').length = lt'.length := List.length_map ..
        have ck1 : ChOk (someL lt') ((unitRow (manyN ls) l).map Nm.int) := ⟨by omega, by rw [List.length_map, ul]; omega, unit_nums, fun x hx a b z => by
          subst z
          obtain ⟨m, _, z⟩ := List.mem_map.mp hx
          cases z⟩
        have pr1 : PairR (upd (upd S11 p12 (.lst ((unitRow (manyN ls) l).map V.int))) q13 (.tup [.ref p11, .ref p12])) (.ref q13) := ⟨q13, _, _, _, _, rfl, upd_same, lR_m oR_m _ _ _ _ m3 al1, lR_m nmR_m _ _ _ _ m3 nm1, ck1⟩
        have pr1 := (pr1.mono m4).mono m5
        have k23 := (m2.trans m3).trans m4
        have pr2 : PairR (upd (upd (upd S11 p12 (.lst ((unitRow (manyN ls) l).map V.int))) q13 (.tup [.ref p11, .ref p12])) q14 (.tup [.ref ca, .ref cb])) (.ref q14) := ⟨q14, _, _, _, _, rfl, upd_same, lR_m oR_m _ _ _ _ k23 hca, lR_m nmR_m _ _ _ _ k23 hcb, hck⟩
        have pr2 := pr2.mono m5
        have ol : upd (upd (upd (upd S11 p12 (.lst ((unitRow (manyN ls) l).map V.int))) q13 (.tup [.ref p11, .ref p12])) q14 (.tup [.ref ca, .ref cb])) l15 (.lst [.ref q13, .ref q14]) l15 = some (.lst [.ref q13, .ref q14]) := upd_same
        generalize upd (upd (upd (upd S11 p12 (.lst ((unitRow (manyN ls) l).map V.int))) q13 (.tup [.ref p11, .ref p12])) q14 (.tup [.ref ca, .ref cb])) l15 (.lst [.ref q13, .ref q14]) = S15 at g5 pr1 pr2 ol
        generalize upd (upd (upd (upd H11 p12 (.lst ((unitRow (manyN ls) l).map V.int))) q13 (.tup [.ref p11, .ref p12])) q14 (.tup [.ref ca, .ref cb])) l15 (.lst [.ref q13, .ref q14]) = H15 at g5
        have hH15 := hH7.keep g5
        have G5 := (e5.trans e7).trans g5.weak
        clear g1 g2 g3 g4 m2 m3 m4 m5 al1 nm1 k23 h11 h12 hq13 hq14 hl15
        refine ⟨l15, rfl, ⟨_, SqL.of (G5.i _ _ ol)⟩, forE (S0 := S4) (H0 := H4) (m := (· = hd)) (σ := lawS a hd ov bv (.ref ra) mv kv lt (manyN ls) l [x10, x11, x12, x13, some (.ref p8), some (.ref qx), some (.ref ca), some (.ref cb), y18, y19, x20]) (walk_list (xs := [V.ref q13, .ref q14]))
          (fun i σ S' H' => Same S15 S' ∧ Hand S' H' hd ∧ ∃ x18 x19, σ = lawS a hd ov bv (.ref ra) mv kv lt (manyN ls) l [x10, x11, x12, x13, some (.ref p8), some (.ref qx), some (.ref ca), some (.ref cb), x18, x19, x20])
          G5 ⟨Same.refl _, hH15, _, _, rfl⟩ (fun _ _ _ _ _ e p => SqL.of (e.i _ _ (p.1 _ _ ol))) (fun j x σ S16 H16 H17 hj e16 p16 hy16 => ?_) fun σ S16 H16 e16 p16 => ?_⟩
        · obtain ⟨sm, hH16, y18, y19, rfl⟩ := p16
          obtain ⟨rfl, hx16⟩ := hy16
          have hpr : PairR S16 x := by
            match j, hx16 with
            | 0, hx => cases hx; exact pr1.mono sm
            | 1, hx => cases hx; exact pr2.mono sm
            | n + 2, hx => cases hx
          obtain ⟨qp, wa, wb, al, ms, rfl, hqp, hwa, hwb, ck⟩ := hpr
          have hL16 := hL4.mono e16.s
          have hb16 := hL16.bk
          have sp := fun (H' : Hp) (k : Same S16 H') => SqT.of (K := K) (k _ _ hqp)
          refine ⟨_, rfl, _, rfl, _, rfl, _, rfl, _, _, _, _, rfl, rfl, sp _ e16.i, atI_nat (j := 0) rfl, _, rfl, _, _, _, _, rfl, rfl, sp _ e16.i, atI_nat (j := 1) rfl, ?_⟩
          refine ⟨S16, .ref ra, wa, wb, spanRows h w cells ls book, al, ms, manyN ls, l, rfl, e16.i, hL16.rows, hwa, hwb, hb16.rw, n5, hl, by omega, ck.1, ck.2.1, ck.2.2.1, ck.2.2.2, fun S17 H17 u17 e17 hu17 => ?_⟩
          refine ⟨_, rfl, _, rfl, _, rfl, _, rfl, _, _, _, _, rfl, rfl, sp _ (e17.s.trans e17.i), atI_nat (j := 0) rfl, _, rfl, _, _, _, _, rfl, rfl, sp _ (e17.s.trans e17.i), atI_nat (j := 1) rfl, fun x8 dx8 hx8 hdx8 hne8 => ?_⟩
          have E18 := lost_new (n := No) (r := wa) (m := wb) e17.i hx8 hdx8 hne8
          refine ⟨x8, wa, wb, dx8, rfl, upd_same, rfl, ?_⟩
          have o8 : upd S17 x8 (.ins C_Lost dx8 [("answers", wa), ("numbers", wb)]) x8 = some (.ins C_Lost dx8 [("answers", wa), ("numbers", wb)]) := upd_same
          generalize upd S17 x8 (.ins C_Lost dx8 [("answers", wa), ("numbers", wb)]) = S18 at E18 o8
          generalize upd (upd (upd (upd H17 dx8 (.own x8)) x8 (.ins C_Lost dx8 [])) x8 (.ins C_Lost dx8 [("answers", wa)])) x8 (.ins C_Lost dx8 [("answers", wa), ("numbers", wb)]) = H18 at E18
          have k18 := e17.s.trans E18.s
          have hb18 := hb16.mono k18
          refine ⟨S18, mv, kv, .ref x8, h, w, cells, ls, book, some al, ms, l, rfl, E18.i, hb18.m, hb18.b, hb18.bo, hb18.co, hb18.ll, hb18.h6, hb18.w6, by omega, hb18.cl, hb18.rw, hl, ⟨x8, dx8, _, _, rfl, o8, .inl (lR_m oR_m _ _ _ _ k18 hwa), .inl (lR_m nmR_m _ _ _ _ k18 hwb)⟩, ck.2.2.1, ck.2.1, fun S19 H19 u19 e19 hu19 => ?_⟩
          have k19 := E18.s.trans e19.s
          have hu17' := optR_m strR_m _ _ _ _ k19 hu17
          refine ⟨_, rfl, S19, u19, u17, dueOf (lostFault (spanRows h w cells ls book) (manyN ls) l (some al) ms), rfl, e19.i, due_of hu19, due_of hu17', fun z hz => ?_, fun z hz => fault_sh hz, fun H20 e20 => ?_⟩
          · exfalso
            revert hz
            cases lostFault (spanRows h w cells ls book) (manyN ls) l (some al) ms <;> intro hz <;> cases hz
          · have EE := ((e17.trans E18).trans e19).trans e20
            refine ⟨_, rfl, iteF ⟨S19, e16.trans EE.weak, (sm.trans EE.s), hH16.keep EE, _, _, rfl⟩⟩
        · obtain ⟨sm, hH16, y18, y19, rfl⟩ := p16
          exact ⟨S16, e16, hH16, _, _, _, _, _, rfl⟩
    · obtain ⟨hH5, y15, y16, y17, y18, y19, rfl⟩ := p5
      exact hF D S5 H5 a hd p8 ov bv (.ref ra) mv kv lt h w cells ls book l lot _ _ _ _ _ _ _ _ _ _ e5.i hH5 (hL4.mono e5.s) (e5.s _ _ hid4) q
end
end Th

/-! part ER -/
namespace Th
open PySem PySem.Spec PyProof.Rows L2

/-- an odd number asked of lost_told; m' of wrong_told -/
structure OddOk (m m' : V) : Prop where
  t1 : ∃ t, ∀ H, tyN H m = some t
  t2 : ∃ t, ∀ H, tyN H m' = some t
  w1 : wh (some 0) (some 4) m = false
  w2 : wh (some 0) (some 2) m' = false
  s1 : scal m m = true
  s2 : scal m' m' = true
  d : ∃ d, (∀ (K : PySem.W.Frag) H, Dp K H m d) ∧ SeqAt.shaped d = true ∧ ((PyData.eqv d (.int 5) = true ∧ m' = .int 3) ∨ (PyData.eqv d (.int 5) = false ∧ m' = m))
theorem odd_ok {r : Nat} (h : r < 5) : ∃ m m', [V.int (-1), .int 5, .non, .bl true, .int ((10 : Int) ^ 20)][r]? = some m ∧ OddOk m m' := by
  rcases r with _ | _ | _ | _ | _ | r
  · exact ⟨_, _, rfl, ⟨_, fun _ => rfl⟩, ⟨_, fun _ => rfl⟩, rfl, rfl, rfl, rfl, .int (-1), fun _ _ => .int _, rfl, .inr ⟨rfl, rfl⟩⟩
  · exact ⟨_, .int 3, rfl, ⟨_, fun _ => rfl⟩, ⟨_, fun _ => rfl⟩, rfl, rfl, rfl, rfl, .int 5, fun _ _ => .int _, rfl, .inl ⟨rfl, rfl⟩⟩
  · exact ⟨_, _, rfl, ⟨_, fun _ => rfl⟩, ⟨_, fun _ => rfl⟩, rfl, rfl, rfl, rfl, .none, fun _ _ => .non, rfl, .inr ⟨rfl, rfl⟩⟩
  · exact ⟨_, _, rfl, ⟨_, fun _ => rfl⟩, ⟨_, fun _ => rfl⟩, rfl, rfl, rfl, rfl, .bool true, fun _ _ => .bl _, rfl, .inr ⟨rfl, rfl⟩⟩
  · exact ⟨_, _, rfl, ⟨_, fun _ => rfl⟩, ⟨_, fun _ => rfl⟩, by decide +kernel, by decide +kernel, rfl, rfl, .int ((10 : Int) ^ 20), fun _ _ => .int _, rfl, .inr ⟨by decide +kernel, rfl⟩⟩
  · omega
theorem if_odd {b : Bool} {m m' : V} {Q : VK} {H : Hp} {σ : L2.St} {i : Nat} (h : (b = true ∧ m' = .int 3) ∨ (b = false ∧ m' = m)) (hs : σ[i]? = some (some m)) (q : Q m' H) : if b = true then tC (V.int 3) σ H Q else tVar i σ H Q := by
  rcases h with ⟨rfl, rfl⟩ | ⟨rfl, rfl⟩
  · exact iteT q
  · exact iteF ⟨_, hs, q⟩
section
variable {P : Program} {w0 : World} {K : PySem.W.Frag} {mg : Str → Option Value} {base : Heap} {cdv : Value} {A : Around} {outer : List Env} {s : Shared} {HH : Hp} {E : XK}
/-- wrong answers, odd numbers: from statement 12 -/
theorem segD (T : Tx K mg) (hr : lawRoom A s cdv) : ∃ t, PSs (lawX P w0 K mg base cdv A outer s HH E) ((defBody st_law).drop 12) t ∧
    ∀ (D : Ends) (S H : Hp) (a hd : Addr) (ov bv rv mv kv : V) (lt : Addr) (h w : Nat) (cells : List Cell) (ls : List Nat) (book : List Ask) (l : Nat) (lot : List Nat) (x10 x11 x12 x13 x14 x15 x16 x17 x18 x19 x20 : Option V),
      Same S H → Hand S H hd → LwE S ov bv rv mv kv lt h w cells ls book l lot → (∀ H', D.rt (.bl true) H') →
      t D (lawS a hd ov bv rv mv kv lt (manyN ls) l [x10, x11, x12, x13, x14, x15, x16, x17, x18, x19, x20]) H := by
  obtain ⟨tE, pE, hE⟩ := segE (P := P) (w0 := w0) (base := base) (outer := outer) (HH := HH) (E := E) T hr
  refine ⟨_, (pss_cons (ps_set (i := 12) sc_law.nd rfl (.inl rfl) (pe_call (ok_law_take T) (hr.mono (by decide)) (by rfl) (g_law_take T) (fn_law_take T).kp (b_law_take T) .nil pass0 (pa_cons (pv 1) (pa_cons pe_int pa_nil))))
      (pss_cons (ps_if (pt_not (pt_val (pe_call (ok_law_lost_fits T) (hr.mono (by decide)) (by rfl) (g_law_lost_fits T) (fn_law_lost_fits T).kp (b_law_lost_fits T) .nil pass0 (pa_cons (pe_call (ok_wrong_told T) (hr.mono (by decide)) (by rfl) (g_wrong_told T) (fn_wrong_told T).kp (b_wrong_told T) .nil passL (pa_cons (pv 6) (pa_cons (pv 7) (pa_cons (pv 8) (pa_cons (pv 12) pa_nil))))) (pa_cons (pv 5) (pa_cons (pv 3) (pa_cons (pv 8) (pa_cons (pv 9) (pa_cons (pe_op op_mul pe_int (pv 12)) pa_nil)))))))))
      (pss_one (ps_ret pe_bl))
      pss_nil)
      (pss_cons (ps_set (i := 13) sc_law.nd rfl (.inl rfl) (pe_ix ix_tup (pe_tup (pa_cons (pe_un un_neg pe_int) (pa_cons pe_int (pa_cons pe_non (pa_cons pe_bl (pa_cons (pe_op op_pow pe_int pe_int) pa_nil)))))) (pe_call (ok_law_take T) (hr.mono (by decide)) (by rfl) (g_law_take T) (fn_law_take T).kp (b_law_take T) .nil pass0 (pa_cons (pv 1) (pa_cons pe_int pa_nil))) (fun _ _ => rfl)))
      (pss_cons (ps_if (pt_not (pt_val (pe_call (ok_law_alike T) (hr.mono (by decide)) (by rfl) (g_law_alike T) (fn_law_alike T).kp (b_law_alike T) .nil pass0 (pa_cons (pe_call (ok_law_most_refused T) hr (by rfl) (g_law_most_refused T) (fn_law_most_refused T).kp (b_law_most_refused T) .nil pass0 (pa_cons (pv 6) (pa_cons (pv 7) (pa_cons (pv 8) (pa_cons (pv 13) (pa_cons pe_bl pa_nil)))))) (pa_cons (pe_tup (pa_cons pe_str (pa_cons (pv 13) pa_nil))) pa_nil)))))
      (pss_one (ps_ret pe_bl))
      pss_nil)
      (pss_cons (ps_if (pt_not (pt_val (pe_call (ok_law_alike T) (hr.mono (by decide)) (by rfl) (g_law_alike T) (fn_law_alike T).kp (b_law_alike T) .nil pass0 (pa_cons (pe_call (ok_law_most_refused T) hr (by rfl) (g_law_most_refused T) (fn_law_most_refused T).kp (b_law_most_refused T) .nil pass0 (pa_cons (pv 6) (pa_cons (pv 7) (pa_cons (pv 8) (pa_cons (pe_ifExp (pt_cmpR (op_eqD hr.units) (pv 13) pe_int (nomark _)) pe_int (pv 13)) (pa_cons pe_bl pa_nil)))))) (pa_cons (pe_tup (pa_cons pe_str (pa_cons (pe_ifExp (pt_cmpR (op_eqD hr.units) (pv 13) pe_int (nomark _)) pe_int (pv 13)) pa_nil))) pa_nil)))))
      (pss_one (ps_ret pe_bl))
      pss_nil)
      pE))))), ?_⟩
  intro D S H a hd ov bv rv mv kv lt h w cells ls book l lot x10 x11 x12 x13 x14 x15 x16 x17 x18 x19 x20 hS hH hL q
  have hb := hL.bk
  have n5 := hb.n5
  have hl := hL.hl
  have r8 := hL.r8
  have ll := hL.len
  refine ⟨_, rfl, S, hd, 3, rfl, hS, hH, by decide, by decide, fun H1 r1 e1 hH1 hr1 => ?_⟩
  refine ⟨_, rfl, _, rfl, _, rfl, _, rfl, S, mv, kv, h, w, cells, ls, book, .int (r1 : Int), "int", l, rfl, e1.i, hb, hl, by omega, rfl, fun hw => ?_, fun j hj j2 S2 H2 u2 e2 hu2 => ?_⟩
  · exfalso
    have : wh (some 0) (some 2) (.int (r1 : Int)) = true := wh_t (by omega) (by omega)
    rw [this] at hw; cases hw
  · have e := V.int.inj hj
    have ej : j = r1 := by omega
    subst ej
    have hL2 := hL.mono e2.s
    have hb2 := hL2.bk
    refine ⟨_, rfl, _, rfl, _, rfl, _, rfl, _, rfl, _, _, rfl, rfl, .inl ⟨by decide, by decide⟩, S2, u2, rv, .ref lt, spanRows h w cells ls book, lot, lostTold (spanRows h w cells ls book) (manyN ls) l (2 * j), manyN ls, l, 2 * j, ?_, e2.i, hu2, hL2.rows, ⟨lt, rfl, hL2.lt⟩, hb2.rw, n5, hl, by omega, by omega, fits_of hb2.rw hl n5 hL.first (2 * j), fun H3 e3 => ⟨_, rfl, iteF ?_⟩⟩
    · show [u2, rv, V.int (manyN ls : Nat), V.int (l : Int), V.ref lt, V.int (2 * (j : Int))] = _
      rw [Int.natCast_mul]; rfl
    have hH3 := (hH1.keep e2).keep e3
    refine ⟨_, rfl, _, _, rfl, rfl, ⟨by decide, by decide, by decide⟩, (by show (5 : Nat) ≤ sizeLine; decide), fun t4 ht4 => ?_⟩
    have e4 := (Ext.refl (m := No) e3.i).newM (o := .tup [V.int (-1), .int 5, .non, .bl true, .int ((10 : Int) ^ 20)]) ht4
    refine ⟨_, rfl, S2, hd, 5, rfl, e4.i, hH3.keep e4, by decide, by decide, fun H5 r5 e5 hH5 hr5 => ?_⟩
    obtain ⟨m, m', hm, ok⟩ := odd_ok hr5
    obtain ⟨d, hd1, hd2, hd3⟩ := ok.d
    obtain ⟨ty1, hty1⟩ := ok.t1
    obtain ⟨ty2, hty2⟩ := ok.t2
    refine ⟨_, _, _, _, rfl, rfl, SqT.of (e5.h t4 _ (fun z => hH3.ne ht4 z.symm) upd_same), atI_nat hm, ?_⟩
    have i5 := e5.i
    clear ht4 e4
    refine ⟨_, rfl, _, rfl, _, rfl, _, rfl, S2, mv, kv, h, w, cells, ls, book, m, ty1, l, false, rfl, i5, hb2, hl, by omega, hty1 _, ok.w1, fun S6 H6 u6 e6 hu6 => ?_⟩
    refine ⟨_, rfl, two_le, fun p7 h7 => ?_⟩
    have e7 := (Ext.refl (m := No) e6.i).new (o := .tup [.str (Str.ofString "most"), m]) h7
    obtain ⟨a6, rfl, ha6⟩ := (show mostP S6 u6 m from hu6)
    refine ⟨upd S6 p7 (.tup [.str (Str.ofString "most"), m]), .ref a6, .ref p7, m, ty1, rfl, e7.i, ⟨a6, rfl, e7.s _ _ ha6⟩, ⟨p7, rfl, upd_same⟩, hty1 _, ok.s1, ⟨_, rfl, iteF ?_⟩⟩
    have e67 := e6.trans e7
    have hH7 := hH5.keep e67
    have hL7 := hL2.mono e67.s
    generalize upd S6 p7 (.tup [.str (Str.ofString "most"), m]) = S7 at e67 hH7 hL7
    generalize upd H6 p7 (.tup [.str (Str.ofString "most"), m]) = H7 at e67 hH7
    clear e7
    have hb7 := hL7.bk
    refine ⟨_, rfl, _, rfl, _, rfl, _, rfl, d, .int 5, hd1 _ _, .int 5, hd2, rfl, _, rfl, if_odd (i := 13) hd3 rfl ?_⟩
    refine ⟨S7, mv, kv, h, w, cells, ls, book, m', ty2, l, true, rfl, e67.i, hb7, hl, by omega, hty2 _, ok.w2, fun S8 H8 u8 e8 hu8 => ?_⟩
    refine ⟨_, rfl, d, .int 5, hd1 _ _, .int 5, hd2, rfl, _, rfl, if_odd (i := 13) hd3 rfl ?_⟩
    refine ⟨two_le, fun p9 h9 => ?_⟩
    have e9 := (Ext.refl (m := No) e8.i).new (o := .tup [.str (Str.ofString "most"), m']) h9
    obtain ⟨a8, rfl, ha8⟩ := (show mostP S8 u8 m' from hu8)
    refine ⟨upd S8 p9 (.tup [.str (Str.ofString "most"), m']), .ref a8, .ref p9, m', ty2, rfl, e9.i, ⟨a8, rfl, e9.s _ _ ha8⟩, ⟨p9, rfl, upd_same⟩, hty2 _, ok.s2, ⟨_, rfl, iteF ?_⟩⟩
    have e89 := e8.trans e9
    exact hE D _ _ a hd ov bv rv mv kv lt h w cells ls book l lot _ _ _ _ _ _ _ _ _ _ _ e89.i (hH7.keep e89) (hL7.mono e89.s) q
end
end Th

/-! part ES -/
namespace Th
open PySem PySem.Spec PyProof.Rows L2

section
variable {P : Program} {w0 : World} {K : PySem.W.Frag} {mg : Str → Option Value} {base : Heap} {cdv : Value} {A : Around} {outer : List Env} {s : Shared} {HH : Hp} {E : XK}
/-- lost answers: from statement 11 -/
theorem segC (T : Tx K mg) (hr : lawRoom A s cdv) : ∃ t, PSs (lawX P w0 K mg base cdv A outer s HH E) ((defBody st_law).drop 11) t ∧
    ∀ (D : Ends) (S H : Hp) (a hd : Addr) (ov bv rv mv kv : V) (lt : Addr) (h w : Nat) (cells : List Cell) (ls : List Nat) (book : List Ask) (l : Nat) (lot : List Nat) (x10 x11 x12 x13 x14 x15 x16 x17 x18 x19 x20 : Option V),
      Same S H → Hand S H hd → LwE S ov bv rv mv kv lt h w cells ls book l lot → (∀ H', D.rt (.bl true) H') →
      t D (lawS a hd ov bv rv mv kv lt (manyN ls) l [x10, x11, x12, x13, x14, x15, x16, x17, x18, x19, x20]) H := by
  obtain ⟨tD, pD, hD⟩ := segD (P := P) (w0 := w0) (base := base) (outer := outer) (HH := HH) (E := E) T hr
  refine ⟨_, (pss_cons (ps_for PassesOwn.never rfl (pi_list (pe_lst (pa_cons (pe_call (ok_law_take T) (hr.mono (by decide)) (by rfl) (g_law_take T) (fn_law_take T).kp (b_law_take T) .nil pass0 (pa_cons (pv 1) (pa_cons pe_int pa_nil))) (pa_cons (pe_op op_mod (pe_callB call_len_seq (by rfl) (f_len T) bt_len (pa_cons (pv 9) pa_nil)) pe_int) pa_nil)))) (pg_name (i := 10) sc_law.nd rfl (.inl rfl))
      (pss_cons (ps_set (i := 11) sc_law.nd rfl (.inl rfl) (pe_call (ok_lost_told T) (hr.mono (by decide)) (by rfl) (g_lost_told T) (fn_lost_told T).kp (b_lost_told T) .nil passL (pa_cons (pv 6) (pa_cons (pv 7) (pa_cons (pv 8) (pa_cons (pv 10) pa_nil))))))
      (pss_cons (ps_if (pt_not (pt_val (pe_call (ok_law_lost_fits T) (hr.mono (by decide)) (by rfl) (g_law_lost_fits T) (fn_law_lost_fits T).kp (b_law_lost_fits T) .nil pass0 (pa_cons (pv 11) (pa_cons (pv 5) (pa_cons (pv 3) (pa_cons (pv 8) (pa_cons (pv 9) (pa_cons (pv 10) pa_nil)))))))))
      (pss_one (ps_ret pe_bl))
      pss_nil)
      (pss_one (ps_if (PW.pt (pw_and (pt_cmpR op_notN (pv 11) pe_non (nomark _)) (pw_and1 (pt_not (pt_val (pe_call (ok_law_judged T) (hr.mono (by decide)) (by rfl) (g_law_judged T) (fn_law_judged T).kp (b_law_judged T) .nil pass0 (pa_cons (pv 1) (pa_cons (pv 6) (pa_cons (pv 7) (pa_cons (pv 8) (pa_cons (pv 11) (pa_cons (pv 5) pa_nil))))))))))))
      (pss_one (ps_ret pe_bl))
      pss_nil)))))
      pD), ?_⟩
  intro D S H a hd ov bv rv mv kv lt h w cells ls book l lot x10 x11 x12 x13 x14 x15 x16 x17 x18 x19 x20 hS hH hL q
  have n5 := hL.bk.n5
  have hl := hL.hl
  have r8 := hL.r8
  have ll := hL.len
  refine ⟨_, rfl, S, hd, 5, rfl, hS, hH, by decide, by decide, fun H1 r1 e1 hH1 hr1 => ?_⟩
  refine ⟨_, rfl, lt, _, rfl, .inr (SqT.of (e1.i _ _ hL.lt)), _, _, rfl, rfl, (by show (0 : Int) < 5; decide), two_le, fun p2 h2 => ?_⟩
  have em : (((lot.map fun n : Nat => V.int n).length : Nat) : Int) % 5 = ((lot.length % 5 : Nat) : Int) := by rw [List.length_map]; omega
  have e2 := (Ext.refl (m := No) e1.i).new (o := .lst [.int (r1 : Int), .int ((((lot.map fun n : Nat => V.int n).length : Nat) : Int) % 5)]) h2
  have o2 : upd S p2 (.lst [.int (r1 : Int), .int ((((lot.map fun n : Nat => V.int n).length : Nat) : Int) % 5)]) p2 = some (.lst [.int (r1 : Int), .int ((((lot.map fun n : Nat => V.int n).length : Nat) : Int) % 5)]) := upd_same
  have hL2 := hL.mono e2.s
  have hH2 := hH1.keep e2
  have i2 := e2.i
  generalize upd S p2 (.lst [.int (r1 : Int), .int ((((lot.map fun n : Nat => V.int n).length : Nat) : Int) % 5)]) = S2 at o2 hL2 hH2 i2
  clear e2
  refine ⟨p2, rfl, ⟨_, SqL.of (i2 _ _ o2)⟩, forE (S0 := S2) (H0 := upd H1 p2 (.lst [.int (r1 : Int), .int ((((lot.map fun n : Nat => V.int n).length : Nat) : Int) % 5)])) (m := (· = hd)) (σ := lawS a hd ov bv rv mv kv lt (manyN ls) l [x10, x11, x12, x13, x14, x15, x16, x17, x18, x19, x20]) (walk_list (xs := [V.int (r1 : Int), .int ((((lot.map fun n : Nat => V.int n).length : Nat) : Int) % 5)]))
    (fun i σ S' H' => Hand S' H' hd ∧ ∃ x10 x11, σ = lawS a hd ov bv rv mv kv lt (manyN ls) l [x10, x11, x12, x13, x14, x15, x16, x17, x18, x19, x20])
    (Ext.refl i2) ⟨hH2, _, _, rfl⟩ (fun _ _ _ _ _ e p => SqL.of (e.i _ _ (e.s _ _ o2))) (fun i x σ S5 H5 H6 hi e5 p5 hy => ?_) fun σ S5 H5 e5 p5 => ?_⟩
  · obtain ⟨hH5, y10, y11, rfl⟩ := p5
    obtain ⟨rfl, hx⟩ := hy
    have hk : ∃ k : Nat, x = .int (k : Int) ∧ k ≤ 4 := by
      match i, hx with
      | 0, hx => cases hx; exact ⟨r1, rfl, by omega⟩
      | 1, hx => cases hx; exact ⟨lot.length % 5, congrArg V.int em, by omega⟩
      | n + 2, hx => cases hx
    obtain ⟨k, rfl, hk4⟩ := hk
    have hL5 := hL2.mono e5.s
    have hb5 := hL5.bk
    refine ⟨_, rfl, _, rfl, _, rfl, _, rfl, S5, mv, kv, h, w, cells, ls, book, .int (k : Int), "int", l, rfl, e5.i, hb5, hl, by omega, rfl, fun hw => ?_, fun j hj j4 S6 H6 u6 e6 hu6 => ?_⟩
    · exfalso
      have : wh (some 0) (some 4) (.int (k : Int)) = true := wh_t (by omega) (by omega)
      rw [this] at hw; cases hw
    have e := V.int.inj hj
    have ej : j = k := by omega
    subst ej
    have hL6 := hL5.mono e6.s
    have hb6 := hL6.bk
    have hH6 := hH5.keep e6
    refine ⟨_, rfl, _, rfl, _, rfl, _, rfl, _, rfl, _, rfl, S6, u6, rv, .ref lt, spanRows h w cells ls book, lot, lostTold (spanRows h w cells ls book) (manyN ls) l j, manyN ls, l, j, rfl, e6.i, hu6, hL6.rows, ⟨lt, rfl, hL6.lt⟩, hb6.rw, n5, hl, by omega, by omega, fits_of hb6.rw hl n5 hL.first j, fun H7 e7 => ⟨_, rfl, iteF ?_⟩⟩
    have hH7 := hH6.keep e7
    rcases told_of hb6.rw hl n5 hL.first j with ⟨hk, xs, e, hs⟩ | ⟨hk, e⟩
    · rw [e] at hu6
      obtain ⟨ta, dx, av, nv, rfl, hta, hav, hnv⟩ := (show LostV S6 u6 (lot, xs) from hu6)
      have z : (!decide (V.ref ta = V.non)) = true := by rw [decide_eq_false (fun z => by cases z)]; rfl
      refine ⟨_, rfl, rfl, _, rfl, ?_⟩
      rw [z]
      have sd := sound_of hb6.rw hl hs hL.lot.ok
      have xl := hs.len
      refine iteT ⟨_, rfl, _, rfl, _, rfl, _, rfl, _, rfl, _, rfl, S6, hd, mv, kv, .ref ta, rv, h, w, cells, ls, book, lot, xs, l, rfl, e7.i, hH7, hb6, hl, ⟨ta, dx, av, nv, rfl, hta, hav, hnv⟩, hL6.rows, by omega, by omega, hL.lot.ok.lt, sd, fun S8 H8 e8 hH8 => ⟨_, rfl, iteF ?_⟩⟩
      exact ⟨S8, (e5.trans (e6.trans e7).weak).trans e8, hH8, _, _, rfl⟩
    · rw [e] at hu6
      cases (show u6 = .non from hu6)
      refine ⟨_, rfl, rfl, _, rfl, iteFc (by rw [decide_eq_true rfl]; rfl) (iteF ?_)⟩
      exact ⟨S6, e5.trans (e6.trans e7).weak, hH7, _, _, rfl⟩
  · obtain ⟨hH5, y10, y11, rfl⟩ := p5
    exact hD D S5 H5 a hd ov bv rv mv kv lt h w cells ls book l lot _ _ _ _ _ _ _ _ _ _ _ e5.i hH5 (hL2.mono e5.s) q
end
end Th

/-! part ET -/
namespace Th
open PySem PySem.Spec PyProof.Rows L2

theorem most_eq {h w : Nat} (h1 : 1 ≤ h) (h4 : h ≤ 4) (w1 : 1 ≤ w) (w4 : w ≤ 4) : ∃ n : Nat, (if (8 : Int) / (if (w : Int) > (h : Int) then (w : Int) else (h : Int)) < 3 then (8 : Int) / (if (w : Int) > (h : Int) then (w : Int) else (h : Int)) else 3) = (n : Int) ∧ n ≤ 3 ∧ n * (max h w) ≤ 8 := by
  have hh : h = 1 ∨ h = 2 ∨ h = 3 ∨ h = 4 := by omega
  have hw : w = 1 ∨ w = 2 ∨ w = 3 ∨ w = 4 := by omega
  rcases hh with rfl | rfl | rfl | rfl <;> rcases hw with rfl | rfl | rfl | rfl
  · exact ⟨3, by decide, by decide, by decide⟩
  · exact ⟨3, by decide, by decide, by decide⟩
  · exact ⟨2, by decide, by decide, by decide⟩
  · exact ⟨2, by decide, by decide, by decide⟩
  · exact ⟨3, by decide, by decide, by decide⟩
  · exact ⟨3, by decide, by decide, by decide⟩
  · exact ⟨2, by decide, by decide, by decide⟩
  · exact ⟨2, by decide, by decide, by decide⟩
  · exact ⟨2, by decide, by decide, by decide⟩
  · exact ⟨2, by decide, by decide, by decide⟩
  · exact ⟨2, by decide, by decide, by decide⟩
  · exact ⟨2, by decide, by decide, by decide⟩
  · exact ⟨2, by decide, by decide, by decide⟩
  · exact ⟨2, by decide, by decide, by decide⟩
  · exact ⟨2, by decide, by decide, by decide⟩
  · exact ⟨2, by decide, by decide, by decide⟩
theorem cdiv_max {h w : Nat} (h1 : 1 ≤ h) (h4 : h ≤ 4) (w4 : w ≤ 4) : CDiv 8 (if (w : Int) > (h : Int) then (w : Int) else (h : Int)) := by
  constructor
  · split <;> omega
  · split <;> omega
theorem one_fix {h w : Nat} {cells : List Cell} {ls : List Nat} (ok : OneOk h w cells ls) : OneOk h w [(0, 0)] [0] := by
  refine ⟨ok.h1, ok.h4, ok.w1, ok.w4, ?_, by decide, rfl, fun i x hx => ?_⟩
  · refine List.singleton_sublist.mpr ?_
    unfold pairsOf
    exact List.mem_flatMap.mpr ⟨0, List.mem_range.mpr ok.h1, List.mem_map.mpr ⟨0, List.mem_range.mpr ok.w1, rfl⟩⟩
  · cases i with
    | zero => cases hx; exact Nat.zero_le _
    | succ i => cases hx
def lawN (a hd : Addr) (ov : V) : L2.St := [some (.ref a), some (.ref hd), some ov, none, none, none, none, none, none, none, none, none, none, none, none, none, none, none, none, none, none]
def sp_law (K : PySem.W.Frag) : Sp := fun vs H Q _ => ∃ a, ∃ ns : List Int, vs = [.ref a] ∧ SqL K H a (ns.map V.int) ∧ ns.length ≤ 63 ∧ ∀ H', Q (.bl true) H'
theorem ok_law {P : Program} {w : World} {K : PySem.W.Frag} {mg : Str → Option Value} {base : Heap} (T : Tx K mg) : FnOk P w K mg base CX0 10 A_law (fdAt K A_law) P_law (sp_law K) := by
  refine (fn_law T).ok sc_law (fun vs H Q E h => ?_) (fun cdv A outer s H vs Q E hr h => ?_)
  · obtain ⟨a, ns, rfl, _⟩ := h; rfl
  · obtain ⟨a, ns, rfl, ha, hns, q⟩ := h
    obtain ⟨tC, pC, hC⟩ := segC (P := P) (w0 := w) (base := base) (outer := outer) (HH := H) (E := E) T hr
    refine ⟨_, PSs.nox (pss_cons (ps_set (i := 1) sc_law.nd rfl (.inl rfl) (pe_call (ok_law_hand T) (hr.mono (by decide)) (by rfl) (g_law_hand T) (fn_law_hand T).kp (b_law_hand T) .nil pass0 (pa_cons (pv 0) pa_nil)))
      (pss_cons (ps_set (i := 2) sc_law.nd rfl (.inl rfl) (pe_call (ok_law_drawn T) (hr.mono (by decide)) (by rfl) (g_law_drawn T) (fn_law_drawn T).kp (b_law_drawn T) .nil pass0 (pa_cons (pv 1) (pa_cons pe_int pa_nil))))
      (pss_cons (ps_if (pt_not (pt_truK (pe_ix ix_list (pv 2) pe_int (fun _ _ => rfl)) (by intro _; rfl)))
      (pss_one (ps_set (i := 2) sc_law.nd rfl (.inl rfl) (pe_lst (pa_cons (pe_ix ix_list (pv 2) pe_int (fun _ _ => rfl)) (pa_cons (pe_ix ix_list (pv 2) pe_int (fun _ _ => rfl)) (pa_cons (pe_lst (pa_cons (pe_tup (pa_cons pe_int (pa_cons pe_int pa_nil))) pa_nil)) (pa_cons (pe_lst (pa_cons pe_int pa_nil)) pa_nil)))))))
      pss_nil)
      (pss_cons (ps_set (i := 3) sc_law.nd rfl (.inl rfl) (pe_call (ok_law_many T) (hr.mono (by decide)) (by rfl) (g_law_many T) (fn_law_many T).kp (b_law_many T) .nil pass0 (pa_cons (pe_ix ix_list (pv 2) pe_int (fun _ _ => rfl)) pa_nil)))
      (pss_cons (ps_set (i := 4) sc_law.nd rfl (.inl rfl) (pe_call (ok_law_asked T) (hr.mono (by decide)) (by rfl) (g_law_asked T) (fn_law_asked T).kp (b_law_asked T) .nil pass0 (pa_cons (pv 1) (pa_cons (pe_ix ix_list (pv 2) pe_int (fun _ _ => rfl)) (pa_cons (pe_ix ix_list (pv 2) pe_int (fun _ _ => rfl)) (pa_cons (pe_callB (call_min2 rfl) (by rfl) (f_min T) bt_min (pa_cons pe_int (pa_cons (pe_op op_fdiv pe_int (pe_callB (call_max2 rfl) (by rfl) (f_max T) bt_max (pa_cons (pe_ix ix_list (pv 2) pe_int (fun _ _ => rfl)) (pa_cons (pe_ix ix_list (pv 2) pe_int (fun _ _ => rfl)) pa_nil)))) pa_nil))) pa_nil))))))
      (pss_cons (ps_set (i := 5) sc_law.nd rfl (.inl rfl) (pe_call (ok_law_span T) (hr.mono (by decide)) (by rfl) (g_law_span T) (fn_law_span T).kp (b_law_span T) .nil pass0 (pa_cons (pe_ix ix_list (pv 2) pe_int (fun _ _ => rfl)) (pa_cons (pe_ix ix_list (pv 2) pe_int (fun _ _ => rfl)) (pa_cons (pe_ix ix_list (pv 2) pe_int (fun _ _ => rfl)) (pa_cons (pe_ix ix_list (pv 2) pe_int (fun _ _ => rfl)) (pa_cons (pv 4) pa_nil)))))))
      (pss_cons (ps_set (i := 6) sc_law.nd rfl (.inl rfl) (pe_call (ok_law_built T) (hr.mono (by decide)) (by rfl) (g_law_built T) (fn_law_built T).kp (b_law_built T) .nil pass0 (pa_cons (pv 1) (pa_cons (pv 2) pa_nil))))
      (pss_cons (ps_set (i := 7) sc_law.nd rfl (.inl rfl) (pe_call (ok_law_passed T) (hr.mono (by decide)) (by rfl) (g_law_passed T) (fn_law_passed T).kp (b_law_passed T) .nil pass0 (pa_cons (pv 1) (pa_cons (pv 4) pa_nil))))
      (pss_cons (ps_set (i := 8) sc_law.nd rfl (.inl rfl) (pe_call (ok_law_take T) (hr.mono (by decide)) (by rfl) (g_law_take T) (fn_law_take T).kp (b_law_take T) .nil pass0 (pa_cons (pv 1) (pa_cons (pv 3) pa_nil))))
      (pss_cons (ps_set (i := 9) sc_law.nd rfl (.inl rfl) (pe_call (ok_law_loss T) (hr.mono (by decide)) (by rfl) (g_law_loss T) (fn_law_loss T).kp (b_law_loss T) .nil pass0 (pa_cons (pv 5) (pa_cons (pv 3) (pa_cons (pv 8) pa_nil)))))
      (pss_cons (ps_if (PW.pt (pw_or (pt_cmpR op_isN (pv 9) pe_non (nomark _)) (pw_or1 (pt_not (pt_val (pe_call (ok_law_exact T) (hr.mono (by decide)) (by rfl) (g_law_exact T) (fn_law_exact T).kp (b_law_exact T) .nil pass0 (pa_cons (pe_call (ok_least_loss T) (hr.mono (by decide)) (by rfl) (g_least_loss T) (fn_least_loss T).kp (b_least_loss T) .nil pass0 (pa_cons (pv 6) (pa_cons (pv 7) (pa_cons (pv 8) pa_nil)))) (pa_cons (pv 9) pa_nil))))))))
      (pss_one (ps_ret pe_bl))
      pss_nil)
      pC))))))))))), ?_⟩
    refine ⟨_, rfl, H, a, ns, rfl, Same.refl H, ha, Nat.le_of_lt (szLt (by omega)), fun S1 H1 hd e1 hH1 _ => ?_⟩
    refine ⟨_, rfl, S1, hd, rfl, e1.i, hH1, fun S2 H2 ov h w' cells ls e2 hH2 ok one => ?_⟩
    have i2 := e2.i
    clear e1 e2 hH1
    refine gName_run ?_
    dsimp only
    refine seqJoin (fun σ' H' => ∃ S' ov cells ls, σ' = lawN a hd ov ∧ Same S' H' ∧ Hand S' H' hd ∧ OneOk h w' cells ls ∧ OneR S' ov h w' cells ls ∧ cells ≠ []) (fun σ' H' p => ?_) fun nx hnx => ?_
    · obtain ⟨S3, ov, cells, ls, rfl, i3, hH3, ok, one, cne⟩ := p
      clear hH2 i2
      obtain ⟨po, ca, la, rfl, hpo, hca, ⟨_, z2, hla⟩⟩ := id one.ob
      cases z2
      have so := fun (H' : Hp) (k : Same S3 H') => SqL.of (K := K) (k _ _ hpo)
      have co := cells_of ok.sub
      have c5 := ok.c5
      have ll := ok.ll
      have b1 := ok.h1
      have b2 := ok.h4
      have b3 := ok.w1
      have b4 := ok.w4
      have n5 : manyN ls ≤ 5 := by have := fresh_len ok.lo; unfold manyN; omega
      have n0 : 0 < manyN ls := by
        cases ls with
        | nil => cases cells with
          | nil => exact absurd rfl cne
          | cons _ _ => cases ll
        | cons x r => exact Nat.lt_of_lt_of_le (Nat.succ_pos x) (fresh_le (x :: r) x (List.mem_cons_self ..))
      refine ⟨_, rfl, _, _, _, _, rfl, rfl, so _ i3, atI_nat (j := 3) rfl, la, ls, rfl, i3 _ _ hla, ?_⟩
      obtain ⟨k, hk, hk3, hk8⟩ := most_eq b1 b2 b3 b4
      refine ⟨_, rfl, _, rfl, _, _, _, _, rfl, rfl, so _ i3, atI_nat (j := 0) rfl, _, rfl, _, _, _, _, rfl, rfl, so _ i3, atI_nat (j := 1) rfl, _, rfl, _, _, _, _, rfl, rfl, so _ i3, atI_nat (j := 0) rfl, _, rfl, _, _, _, _, rfl, rfl, so _ i3, atI_nat (j := 1) rfl, _, _, rfl, _, _, rfl, rfl, cdiv_max b1 b2 b4, _, _, rfl, ?_⟩
      refine ⟨S3, hd, h, w', k, congrArg (fun z => [V.ref hd, .int (h : Int), .int (w' : Int), .int z]) hk, i3, hH3, by omega, by omega, by omega, fun S4 H4 u4 book e4 hH4 hbl hbo hu4 => ?_⟩
      have b38 : book.length ≤ 3 := by omega
      have rc : (spanRows h w' cells ls book).length ≤ 8 := by
        have := span_count (cells := cells) (ls := ls) (Nat.le_max_left h w') (Nat.le_max_right h w') book
        have := Nat.mul_le_mul_right (max h w') hbl
        omega
      have so4 := fun (H' : Hp) (k : Same S4 H') => so H' (e4.s.trans k)
      refine ⟨_, rfl, _, _, _, _, rfl, rfl, so4 _ e4.i, atI_nat (j := 0) rfl, _, rfl, _, _, _, _, rfl, rfl, so4 _ e4.i, atI_nat (j := 1) rfl, _, rfl, _, _, _, _, rfl, rfl, so4 _ e4.i, atI_nat (j := 2) rfl, _, rfl, _, _, _, _, rfl, rfl, so4 _ e4.i, atI_nat (j := 3) rfl, _, rfl, ?_⟩
      refine ⟨S4, .ref ca, .ref la, u4, h, w', cells, ls, book, rfl, e4.i, lR_m cellP_m _ _ _ _ e4.s hca, ⟨la, rfl, e4.s _ _ hla⟩, hu4, hbo, co, ll, by omega, by omega, by omega, by omega, by omega, fun S5 H5 u5 e5 hu5 => ?_⟩
      have one5 : OneR S5 (.ref po) h w' cells ls := ⟨po, ca, la, rfl, e5.s _ _ (e4.s _ _ hpo), lR_m cellP_m _ _ _ _ (e4.s.trans e5.s) hca, ⟨la, rfl, e5.s _ _ (e4.s _ _ hla)⟩⟩
      refine ⟨_, rfl, _, rfl, S5, hd, .ref po, h, w', cells, ls, rfl, e5.i, hH4.keep e5, one5, ok, fun S6 H6 u6 e6 hH6 hu6 => ?_⟩
      have k46 := e5.s.trans e6.s
      refine ⟨_, rfl, _, rfl, S6, hd, u4, book, rfl, e6.i, hH6, lR_m askT_m _ _ _ _ k46 hu4, by omega, fun S7 H7 u7 e7 hH7 hu7 => ?_⟩
      refine ⟨_, rfl, _, rfl, S7, hd, manyN ls, rfl, e7.i, hH7, n0, by omega, fun H8 l e8 hH8 hl => ?_⟩
      have k47 := k46.trans e7.s
      have k57 := e6.s.trans e7.s
      have rw' := span_ok (cells := cells) (ls := ls) hbo c5
      have hrows := lR_m lI_m _ _ _ _ k57 hu5
      refine ⟨_, rfl, _, rfl, _, rfl, S7, u5, spanRows h w' cells ls book, manyN ls, l, rfl, e8.i, hrows, rw', n5, by omega, fun S9 H9 u9 e9 hu9 => ?_⟩
      obtain ⟨lot, hf⟩ := first_ex rw' hl
      rw [law_loss_eq rw' hl, hf] at hu9
      obtain ⟨lt, rfl, hlt⟩ := (show tN S9 u9 lot from hu9)
      have bk : Bk S9 u6 u7 h w' cells ls book := ⟨hu6.mono (e7.s.trans e9.s), sR_m askIn_m _ _ _ _ e9.s hu7, ⟨by omega, hbo⟩, co, ll, by omega, by omega, n5, by omega, rw'⟩
      have hL : LwE S9 (.ref po) u4 u5 u6 u7 lt h w' cells ls book l lot := ⟨⟨po, ca, la, rfl, e9.s _ _ (k47 _ _ (e4.s _ _ hpo))⟩, bk, lR_m askT_m _ _ _ _ (k47.trans e9.s) hu4, lR_m lI_m _ _ _ _ e9.s hrows, hlt, hl, hf, rc, b38, b2, b4, c5⟩
      have lo8 := hL.len
      have hH9 := hH8.keep e9
      refine ⟨_, rfl, rfl, _, rfl, iteFc (decide_eq_false fun z => by cases z) ?_⟩
      refine ⟨_, rfl, _, rfl, _, rfl, S9, u6, u7, h, w', cells, ls, book, l, rfl, e9.i, bk, hl, by omega, fun S10 H10 u10 e10 hu10 => ?_⟩
      rw [hf] at hu10
      have hu10 : tN S10 u10 lot := hu10
      refine ⟨_, rfl, S10, u10, .ref lt, .tup lot, rfl, e10.i, hu10, ⟨lt, rfl, e10.s _ _ hlt⟩, fun z hz => (by cases hz; omega), fun z hz => (by cases hz), fun H11 e11 => ⟨_, rfl, iteF ?_⟩⟩
      exact hC _ S10 H11 a hd (.ref po) u4 u5 u6 u7 lt h w' cells ls book l lot _ _ _ _ _ _ _ _ _ _ _ e11.i ((hH9.keep e10).keep e11) (hL.mono e10.s) q
    · obtain ⟨po, ca, la, rfl, hpo, ⟨_, cvs, z, hca, hcs⟩, ⟨_, z2, hla⟩⟩ := id one.ob
      cases z
      cases z2
      have cl := hcs.len
      have so := SqL.of (K := K) (i2 _ _ hpo)
      refine ⟨_, rfl, _, _, _, _, rfl, rfl, so, atI_nat (j := 2) rfl, !cvs.isEmpty, .inl ⟨cvs, SqL.of (i2 _ _ hca), rfl⟩, ?_⟩
      cases hc : cvs.isEmpty with
      | false =>
        refine iteF ?_
        refine hnx _ _ ⟨S2, .ref po, cells, ls, rfl, i2, hH2, ok, one, fun z => ?_⟩
        subst z
        cases cvs with
        | nil => cases hc
        | cons _ _ => cases cl
      | true =>
        refine iteT ?_
        refine ⟨_, rfl, _, _, _, _, rfl, rfl, so, atI_nat (j := 0) rfl, _, rfl, _, _, _, _, rfl, rfl, so, atI_nat (j := 1) rfl, two_le, fun p3 h3 => ⟨(by show (1 : Nat) ≤ sizeLine; decide), fun p4 h4 => ⟨(by show (1 : Nat) ≤ sizeLine; decide), fun p5 h5 => ⟨(by show (4 : Nat) ≤ sizeLine; decide), fun p6 h6 => ?_⟩⟩⟩⟩
        have f3 := (Ext.refl (m := No) i2).new (o := .tup [.int 0, .int 0]) h3
        have f4 := f3.new (o := .lst [.ref p3]) h4
        have f5 := f4.new (o := .lst [.int 0]) h5
        have f6 := f5.new (o := .lst [.int (h : Int), .int (w' : Int), .ref p4, .ref p5]) h6
        have m4 := same_upd (o := .lst [.ref p3]) (none_of_same f3.i h4)
        have m5 := same_upd (o := .lst [.int 0]) (none_of_same f4.i h5)
        have m6 := same_upd (o := .lst [.int (h : Int), .int (w' : Int), .ref p4, .ref p5]) (none_of_same f5.i h6)
        refine hnx _ _ ⟨_, .ref p6, [(0, 0)], [0], rfl, f6.i, hH2.keep f6, one_fix ok, ⟨p6, p4, p5, rfl, upd_same, ⟨p4, _, rfl, m6 _ _ (m5 _ _ upd_same), .cons ⟨p3, rfl, m6 _ _ (m5 _ _ (m4 _ _ upd_same))⟩ .nil⟩, ⟨p5, rfl, m6 _ _ upd_same⟩⟩, fun z => by cases z⟩
end Th

/-! part ZZ -/
namespace Th
open PySem PySem.Spec PyProof.Rows L2

noncomputable def obZ (s : PySem.W.SharedT) : hookT.α := obsK (obT s)
theorem obZ_eq (s : PySem.W.SharedT) : obZ s = hookT.obs s.abs := by
  have e : HandSHeadRun.getT s = s.abs.heap.get? := funext (HandSHeadRun.getT_eq s)
  show obsK (He.frG (HandSHeadRun.getT s) (asT (HandSHeadRun.getT s))) = obsK (He.frG s.abs.heap.get? (asT s.abs.heap.get?))
  rw [e]
theorem comb6 {α b1 b2 b3 b4 b5 b6 : Type} {W : Option α} {f1 : α → b1} {f2 : α → b2} {f3 : α → b3} {f4 : α → b4} {f5 : α → b5} {f6 : α → b6} {v1 : b1} {v2 : b2} {v3 : b3} {v4 : b4} {v5 : b5} {v6 : b6}
    (h1 : W.map f1 = some v1) (h2 : W.map f2 = some v2) (h3 : W.map f3 = some v3) (h4 : W.map f4 = some v4) (h5 : W.map f5 = some v5) (h6 : W.map f6 = some v6) :
    W.map (fun x => (f1 x, f2 x, (f3 x, f4 x, f5 x, f6 x))) = some (v1, v2, (v3, v4, v5, v6)) := by
  cases W with
  | none => cases h1
  | some x =>
    have e1 := Option.some.inj h1
    have e2 := Option.some.inj h2
    have e3 := Option.some.inj h3
    have e4 := Option.some.inj h4
    have e5 := Option.some.inj h5
    have e6 := Option.some.inj h6
    subst e1 e2 e3 e4 e5 e6
    rfl
theorem run_all (w : World) : HandSHeadRun.RunEqI RR QV hookT obZ 6000 looseN w :=
  comb6 (run_looks w) (run_seen w) (run_nam w) (run_cla w) (run_fnok w) (run_fnv w)
theorem law_facts {P : Program} {w : World} {K : PySem.W.Frag} {h : Heap} {mg : Str → Option Value} {f : Addr} (X : K.In h) (G : h.Ns mainGlobals mg) (hfa : mg ("law" : Str) = some (.ref f)) (c : obsK K = valT) :
    ∃ fd : FuncData, (∀ (s : Shared) (v : Value), BindsTo s fd ⟨[v], []⟩ [("_law_script", v)]) ∧ ∀ base : Heap, K.In base → base.Ns mainGlobals mg → FnOk P w K mg base CX0 10 f fd ["_law_script"] (sp_law K) := by
  have T := says_tx X G c
  have e := hfa.symm.trans (g_law T)
  cases e
  have b := FunD.bindsA (ps := ["_law_script"]) (fn_law T) fun _ _ _ _ _ _ us hl => match us, hl with | [_], _ => rfl
  exact ⟨_, fun s v => b s [v] rfl, fun base _ _ => ok_law T⟩
end Th
open PySem PySem.W PySem.Calls PyProof.Rows
theorem PySem.Challenge.cw_thinslopes_k21_whole_least_losses_by_all_holds : PySem.Challenge.rw_thinslopes_k21_whole_least_losses_by_all.Holds := by
  w_on; o_law
  refine HandSHeadRun.head_imp (r := Th.RR) (q := Th.QV) (H := Th.hookT) (ob := Th.obZ) (M := 6000) (loose := Th.looseN) (d := HandSHeadRun.topDef Th.RR.prog 100) (kwd := []) Th.obZ_eq Th.run_all
    (by kernel_rfl) (by kernel_rfl) (by kernel_rfl) (by rfl) (by first | assumption | decide +kernel) (by decide +kernel) ⟨rfl, rfl, rfl, rfl, rfl, by decide +kernel⟩ ?hw ?hc
  case hw => w_witness2
  case hc =>
    refine L2.walk_ofE (l := PySem.Challenge.rw_thinslopes_k21_whole_least_losses_by_all) (n := 63) (k := 10) (x := "_law_script") (CX := L2.CX0) rfl (by decide) (by kernel_rfl) ⟨rfl, by decide, by decide⟩ ?F (fun _ _ _ _ z => z)
    intro w mg fa h Y G hmg0
    obtain ⟨K, KX, c⟩ := Y
    have hmg : mg ("law" : PySem.Str) = some (.ref fa) := by
      have e : (HandSHeadRun.topDef Th.RR.prog 100).name = ("law" : PySem.Str) := by kernel_rfl
      rw [← e]
      exact hmg0
    obtain ⟨fd, hb, hF⟩ := Th.law_facts (P := (PySem.Challenge.rw_thinslopes_k21_whole_least_losses_by_all).prog) (w := w) KX G hmg c
    exact ⟨K, fd, Th.sp_law K, KX, hb, fun H a ns hl _ hS => ⟨a, ns, rfl, hS, hl, fun _ => rfl⟩, hF⟩
