import PyProof.Rows.All
import Wide.All
import OpenK.AllK
import Wide.FinOn
import HandS.ForMost
import HandS.ForExc
import HandS.CallSlots
import HandS.Wide
import HandS.TupAny
import HandS.WideBits
import HandS.Style
import HandS.Conv
import HandS.IsInst
import PyProof.Rows.RuleB_pow
import KE.KTupSum
import HandS.Zip
import HandS.TryOnly
import HandS.ExcField
import HandS.ExcInit
import PySem.Challenge.RW_swingposts_k37_before_on_large_lines
set_option Elab.async false
set_option linter.all false
set_option maxRecDepth 100000
namespace MP
open PySem PySem.Spec PyProof.Rows L2

/-! values, contents, states -/
inductive D where
  | non | bl (b : Bool) | int (i : Int) | str (x : Str)
  | lst (xs : List D) | tup (xs : List D) | fz (ns : List Int)
  | dct (ks : List Key) (vs : List D) | ref (n : Nat) | glob (x : Str)
  deriving Inhabited
inductive Con where
  | lst (xs : List D) | dct (ks : List Key) (vs : List D) | ins (C : Str) (ns : List Str) (vs : List D)
inductive SD where
  | no | val (d : D) | own (c : Con)
structure S where
  v : List SD
  h : List Con
inductive Er where
  | val (d : D) | new (c : Con)
inductive Ex where
  | cls (C : Str) | lim (C f : Str) (d : D)
inductive R (α : Type) where
  | ok (a : α) (s : S) | ex (e : Ex) (s : S) | bad
inductive Fl where
  | nx | rt (e : Er) | bk | ct
def R.bind {α β : Type} (r : R α) (f : α → S → R β) : R β := match r with
  | .ok a s => f a s
  | .ex e s => .ex e s
  | .bad => .bad
mutual
def D.flat : D → Bool
  | .lst _ => false
  | .dct _ _ => false
  | .tup xs => D.flatL xs
  | _ => true
def D.flatL : List D → Bool
  | [] => true
  | d :: r => D.flat d && D.flatL r
end
def Con.flat : Con → Bool
  | .lst xs => D.flatL xs
  | .dct _ vs => D.flatL vs
  | .ins _ _ vs => D.flatL vs
def Er.toD : Er → D
  | .val d => d
  | .new (.lst xs) => .lst xs
  | .new (.dct ks vs) => .dct ks vs
  | .new (.ins _ _ _) => .non

/-! relations -/
structure RC where
  K : PySem.W.Frag
  mg : Str → Option Value
  av : Addr → Prop
  ava : Addr → Prop
  al : Nat → Addr
  k : Nat
def KLst (K : PySem.W.Frag) (a : Addr) (xs : List V) : Prop :=
  ∃ (o : Obj) (its : Array Value) (n : Nat), K.lookup a = some o ∧ o.cls = .type "list" ∧ o.dict = none ∧ o.data = .seq its n ∧ its.size ≤ sizeLine ∧ Vals xs its.toList
mutual
def Rl (E : RC) (H : Hp) : D → V → Prop
  | .non, v => v = .non
  | .bl b, v => v = .bl b
  | .int i, v => v = .int i
  | .str x, v => v = .str x
  | .lst xs, v => ∃ a us, v = .ref a ∧ H a = some (.lst us) ∧ ¬ E.av a ∧ RlL E H xs us
  | .tup xs, v => ∃ a us, v = .ref a ∧ H a = some (.tup us) ∧ RlL E H xs us
  | .fz ns, v => ∃ a, v = .ref a ∧ ((∃ o, H a = some (.frz o (.lst (ns.map V.int)))) ∨ KLst E.K a (ns.map V.int))
  | .dct ks vs, v => ∃ a us, v = .ref a ∧ ks.length = us.length ∧ H a = some (.dK (ks.zip us)) ∧ ¬ E.av a ∧ RlL E H vs us
  | .ref n, v => n < E.k ∧ v = .ref (E.al n)
  | .glob x, v => ∃ a, E.mg x = some (.ref a) ∧ v = .ref a
def RlL (E : RC) (H : Hp) : List D → List V → Prop
  | [], vs => vs = []
  | d :: ds, vs => ∃ v r, vs = v :: r ∧ Rl E H d v ∧ RlL E H ds r
end
def ConR (E : RC) (H : Hp) : Con → Addr → Prop
  | .lst xs, a => ∃ us, H a = some (.lst us) ∧ RlL E H xs us
  | .dct ks vs, a => ∃ us, ks.length = us.length ∧ H a = some (.dK (ks.zip us)) ∧ RlL E H vs us
  | .ins C ns vs, a => ∃ Ca dx us, E.mg C = some (.ref Ca) ∧ ns.length = us.length ∧ H a = some (.ins Ca dx (ns.zip us)) ∧ RlL E H vs us
def ErR (E : RC) (H H' : Hp) : Er → V → Prop
  | .val d, v => Rl E H' d v
  | .new (.ins _ _ _), _ => False
  | .new c, v => ∃ a, v = .ref a ∧ H a = none ∧ ¬ E.ava a ∧ ¬ E.av a ∧ ConR E H' c a
def ExR (E : RC) (H : Hp) : Ex → Value → Option Addr → Prop
  | .cls C, c, d => E.mg C = some c ∧ d = none
  | .lim C f x, c, d => E.mg C = some c ∧ ∃ da v, d = some da ∧ H da = some (.xd [(f, v)]) ∧ x.flat = true ∧ Rl E H x v

def stay : HO → Bool
  | .tup _ => true
  | .frz _ _ => true
  | .xd _ => true
  | _ => false
/-- what is known goes on -/
structure Mo (E : RC) (H : Hp) (E' : RC) (H' : Hp) : Prop where
  keep : ∀ a o, H a = some o → (stay o = true ∨ ¬ E.av a) → H' a = some o
  av : ∀ a, H a ≠ none → ¬ E.av a → ¬ E'.av a
  dom : ∀ a, H' a = none → H a = none
  k : E.k ≤ E'.k
  al : ∀ n, n < E.k → E'.al n = E.al n
  mg : E'.mg = E.mg
  K : E'.K = E.K
theorem Mo.refl (E : RC) (H : Hp) : Mo E H E H := ⟨fun _ _ h _ => h, fun _ _ h => h, fun _ h => h, Nat.le_refl _, fun _ _ => rfl, rfl, rfl⟩
theorem Mo.trans {E E1 E2 : RC} {H H1 H2 : Hp} (a : Mo E H E1 H1) (b : Mo E1 H1 E2 H2) : Mo E H E2 H2 where
  keep := fun x o h s => by
    have h1 := a.keep x o h s
    refine b.keep x o h1 ?_
    rcases s with s | s
    · exact .inl s
    · exact .inr (a.av x (by rw [h]; exact fun z => nomatch z) s)
  av := fun x h s => b.av x (fun z => h (a.dom x z)) (a.av x h s)
  dom := fun x h => a.dom x (b.dom x h)
  k := Nat.le_trans a.k b.k
  al := fun n h => (b.al n (Nat.lt_of_lt_of_le h a.k)).trans (a.al n h)
  mg := b.mg.trans a.mg
  K := b.K.trans a.K

mutual
theorem Rl.mo {E E' : RC} {H H' : Hp} (m : Mo E H E' H') : ∀ {d : D} {v : V}, Rl E H d v → Rl E' H' d v
  | .non, v, h => h
  | .bl b, v, h => h
  | .int i, v, h => h
  | .str x, v, h => h
  | .lst xs, v, h => by
    obtain ⟨a, us, e, h1, h2, h3⟩ := h
    exact ⟨a, us, e, m.keep a _ h1 (.inr h2), m.av a (by rw [h1]; exact fun z => nomatch z) h2, RlL.mo m h3⟩
  | .tup xs, v, h => by
    obtain ⟨a, us, e, h1, h3⟩ := h
    exact ⟨a, us, e, m.keep a _ h1 (.inl rfl), RlL.mo m h3⟩
  | .fz ns, v, h => by
    obtain ⟨a, e, h⟩ := h
    refine ⟨a, e, ?_⟩
    rcases h with ⟨o, h⟩ | h
    · exact .inl ⟨o, m.keep a _ h (.inl rfl)⟩
    · exact .inr (m.K ▸ h)
  | .dct ks vs, v, h => by
    obtain ⟨a, us, e, l, h1, h2, h3⟩ := h
    exact ⟨a, us, e, l, m.keep a _ h1 (.inr h2), m.av a (by rw [h1]; exact fun z => nomatch z) h2, RlL.mo m h3⟩
  | .ref n, v, h => ⟨Nat.lt_of_lt_of_le h.1 m.k, by rw [m.al n h.1]; exact h.2⟩
  | .glob x, v, h => by
    obtain ⟨u, h1, h2⟩ := h
    exact ⟨u, by rw [m.mg]; exact h1, h2⟩
theorem RlL.mo {E E' : RC} {H H' : Hp} (m : Mo E H E' H') : ∀ {ds : List D} {vs : List V}, RlL E H ds vs → RlL E' H' ds vs
  | [], vs, h => h
  | d :: ds, vs, h => by
    obtain ⟨v, r, e, h1, h2⟩ := h
    exact ⟨v, r, e, Rl.mo m h1, RlL.mo m h2⟩
end
/-- flat data does not lean on what is avoided -/
structure Fo (E : RC) (H : Hp) (E' : RC) (H' : Hp) : Prop where
  keep : ∀ a o, H a = some o → stay o = true → H' a = some o
  k : E.k ≤ E'.k
  al : ∀ n, n < E.k → E'.al n = E.al n
  mg : E'.mg = E.mg
  K : E'.K = E.K
theorem Mo.fo {E E' : RC} {H H' : Hp} (m : Mo E H E' H') : Fo E H E' H' := ⟨fun a o h s => m.keep a o h (.inl s), m.k, m.al, m.mg, m.K⟩
theorem Fo.trans {E E1 E2 : RC} {H H1 H2 : Hp} (a : Fo E H E1 H1) (b : Fo E1 H1 E2 H2) : Fo E H E2 H2 :=
  ⟨fun x o h s => b.keep x o (a.keep x o h s) s, Nat.le_trans a.k b.k, fun n h => (b.al n (Nat.lt_of_lt_of_le h a.k)).trans (a.al n h), b.mg.trans a.mg, b.K.trans a.K⟩
mutual
theorem Rl.fo {E E' : RC} {H H' : Hp} (m : Fo E H E' H') : ∀ {d : D} {v : V}, d.flat = true → Rl E H d v → Rl E' H' d v
  | .non, v, _, h => h
  | .bl b, v, _, h => h
  | .int i, v, _, h => h
  | .str x, v, _, h => h
  | .lst xs, v, f, h => by simp [D.flat] at f
  | .tup xs, v, f, h => by
    obtain ⟨a, us, e, h1, h3⟩ := h
    exact ⟨a, us, e, m.keep a _ h1 rfl, RlL.fo m (by simpa [D.flat] using f) h3⟩
  | .fz ns, v, _, h => by
    obtain ⟨a, e, h⟩ := h
    refine ⟨a, e, ?_⟩
    rcases h with ⟨o, h⟩ | h
    · exact .inl ⟨o, m.keep a _ h rfl⟩
    · exact .inr (m.K ▸ h)
  | .dct ks vs, v, f, h => by simp [D.flat] at f
  | .ref n, v, _, h => ⟨Nat.lt_of_lt_of_le h.1 m.k, by rw [m.al n h.1]; exact h.2⟩
  | .glob x, v, _, h => by
    obtain ⟨u, h1, h2⟩ := h
    exact ⟨u, by rw [m.mg]; exact h1, h2⟩
theorem RlL.fo {E E' : RC} {H H' : Hp} (m : Fo E H E' H') : ∀ {ds : List D} {vs : List V}, D.flatL ds = true → RlL E H ds vs → RlL E' H' ds vs
  | [], vs, _, h => h
  | d :: ds, vs, f, h => by
    obtain ⟨v, r, e, h1, h2⟩ := h
    simp only [D.flatL, Bool.and_eq_true] at f
    exact ⟨v, r, e, Rl.fo m f.1 h1, RlL.fo m f.2 h2⟩
end
theorem ConR.mo {E E' : RC} {H H' : Hp} {c : Con} {a : Addr} (m : Mo E H E' H') (e : ∀ o, H a = some o → H' a = some o) (h : ConR E H c a) : ConR E' H' c a := by
  cases c with
  | lst xs => obtain ⟨us, h1, h2⟩ := h; exact ⟨us, e _ h1, h2.mo m⟩
  | dct ks vs => obtain ⟨us, l, h1, h2⟩ := h; exact ⟨us, l, e _ h1, h2.mo m⟩
  | ins C ns vs => obtain ⟨Ca, dx, us, g, l, h1, h2⟩ := h; exact ⟨Ca, dx, us, by rw [m.mg]; exact g, l, e _ h1, h2.mo m⟩
theorem ConR.fo {E E' : RC} {H H' : Hp} {c : Con} {a : Addr} (m : Fo E H E' H') (f : c.flat = true) (e : ∀ o, H a = some o → H' a = some o) (h : ConR E H c a) : ConR E' H' c a := by
  cases c with
  | lst xs => obtain ⟨us, h1, h2⟩ := h; exact ⟨us, e _ h1, h2.fo m f⟩
  | dct ks vs => obtain ⟨us, l, h1, h2⟩ := h; exact ⟨us, l, e _ h1, h2.fo m f⟩
  | ins C ns vs => obtain ⟨Ca, dx, us, g, l, h1, h2⟩ := h; exact ⟨Ca, dx, us, by rw [m.mg]; exact g, l, e _ h1, h2.fo m f⟩
theorem ConR.some {E : RC} {H : Hp} {c : Con} {a : Addr} (h : ConR E H c a) : ∃ o, H a = some o ∧ stay o = false := by
  cases c with
  | lst xs => obtain ⟨us, h1, _⟩ := h; exact ⟨_, h1, rfl⟩
  | dct ks vs => obtain ⟨us, l, h1, _⟩ := h; exact ⟨_, h1, rfl⟩
  | ins C ns vs => obtain ⟨Ca, dx, us, g, l, h1, _⟩ := h; exact ⟨_, h1, rfl⟩
theorem ExR.fo {E E' : RC} {H H' : Hp} {e : Ex} {c : Value} {d : Option Addr} (m : Fo E H E' H') (h : ExR E H e c d) : ExR E' H' e c d := by
  cases e with
  | cls C => exact ⟨by rw [m.mg]; exact h.1, h.2⟩
  | lim C f x =>
    obtain ⟨h1, da, v, h2, h3, h4, h5⟩ := h
    exact ⟨by rw [m.mg]; exact h1, da, v, h2, m.keep _ _ h3 rfl, h4, h5.fo m h4⟩
theorem ErR.toD {E : RC} {H H' : Hp} {r : Er} {v : V} (h : ErR E H H' r v) : Rl E H' r.toD v := by
  cases r with
  | val d => exact h
  | new c => cases c with
    | lst xs => obtain ⟨a, e, _, _, n, us, h1, h2⟩ := h; exact ⟨a, us, e, h1, n, h2⟩
    | dct ks vs => obtain ⟨a, e, _, _, n, us, l, h1, h2⟩ := h; exact ⟨a, us, e, l, h1, n, h2⟩
    | ins C ns vs => exact h.elim
theorem RlL.length {E : RC} {H : Hp} : ∀ {ds : List D} {vs : List V}, RlL E H ds vs → ds.length = vs.length
  | [], vs, h => by cases h; rfl
  | d :: ds, vs, h => by
    obtain ⟨v, r, rfl, _, h2⟩ := h
    simp [RlL.length h2]
theorem RlL.get {E : RC} {H : Hp} : ∀ {ds : List D} {vs : List V} {i : Nat} {d : D}, RlL E H ds vs → ds[i]? = some d → ∃ v, vs[i]? = some v ∧ Rl E H d v
  | [], vs, i, d, h, e => by simp at e
  | d' :: ds, vs, 0, d, h, e => by
    obtain ⟨v, r, rfl, h1, h2⟩ := h
    simp at e; subst e
    exact ⟨v, rfl, h1⟩
  | d' :: ds, vs, i + 1, d, h, e => by
    obtain ⟨v, r, rfl, h1, h2⟩ := h
    obtain ⟨v', e', h'⟩ := RlL.get (i := i) h2 (by simpa using e)
    exact ⟨v', by simpa using e', h'⟩
theorem RlL.append {E : RC} {H : Hp} : ∀ {ds es : List D} {vs us : List V}, RlL E H ds vs → RlL E H es us → RlL E H (ds ++ es) (vs ++ us)
  | [], es, vs, us, h, h' => by cases h; exact h'
  | d :: ds, es, vs, us, h, h' => by
    obtain ⟨v, r, rfl, h1, h2⟩ := h
    exact ⟨v, r ++ us, rfl, h1, RlL.append h2 h'⟩
theorem RlL.set {E : RC} {H : Hp} {d : D} {v : V} (hd : Rl E H d v) : ∀ {ds : List D} {vs : List V} (i : Nat), RlL E H ds vs → RlL E H (ds.set i d) (vs.set i v)
  | [], vs, i, h => by cases h; exact rfl
  | d' :: ds, vs, 0, h => by
    obtain ⟨v', r, rfl, h1, h2⟩ := h
    exact ⟨v, r, rfl, hd, h2⟩
  | d' :: ds, vs, i + 1, h => by
    obtain ⟨v', r, rfl, h1, h2⟩ := h
    exact ⟨v', _, rfl, h1, RlL.set hd i h2⟩
theorem RlL.take {E : RC} {H : Hp} : ∀ {ds : List D} {vs : List V} (n : Nat), RlL E H ds vs → RlL E H (ds.take n) (vs.take n)
  | ds, vs, 0, h => by simp [RlL]
  | [], vs, n + 1, h => by cases h; simp [RlL]
  | d :: ds, vs, n + 1, h => by
    obtain ⟨v, r, rfl, h1, h2⟩ := h
    exact ⟨v, _, rfl, h1, RlL.take n h2⟩
theorem RlL.drop {E : RC} {H : Hp} : ∀ {ds : List D} {vs : List V} (n : Nat), RlL E H ds vs → RlL E H (ds.drop n) (vs.drop n)
  | ds, vs, 0, h => h
  | [], vs, n + 1, h => by cases h; simp [RlL]
  | d :: ds, vs, n + 1, h => by
    obtain ⟨v, r, rfl, h1, h2⟩ := h
    exact RlL.drop n h2
theorem RlL.reverse {E : RC} {H : Hp} : ∀ {ds : List D} {vs : List V}, RlL E H ds vs → RlL E H ds.reverse vs.reverse
  | [], vs, h => by cases h; exact rfl
  | d :: ds, vs, h => by
    obtain ⟨v, r, rfl, h1, h2⟩ := h
    rw [List.reverse_cons, List.reverse_cons]
    exact RlL.append (RlL.reverse h2) ⟨v, [], rfl, h1, rfl⟩
theorem RlL.ints {E : RC} {H : Hp} : ∀ {ns : List Int} {vs : List V}, RlL E H (ns.map D.int) vs → vs = ns.map V.int
  | [], vs, h => h
  | n :: ns, vs, h => by
    obtain ⟨v, r, rfl, h1, h2⟩ := h
    have h1 : v = .int n := h1
    rw [RlL.ints h2, h1]; rfl
end MP

namespace MP
open PySem PySem.Spec PyProof.Rows L2

/-! the entry of a def, the state's relation -/
structure En where
  al : Nat → Addr
  k : Nat
  H : Hp
  ex : Addr → Prop
  hold : List (D × V)
  pin : List (Addr × HO)
/-- one more thing stands apart -/
def En.add (en : En) (a : Addr) (o : HO) : En := { en with ex := fun b => en.ex b ∨ b = a, pin := (a, o) :: en.pin }
abbrev PSt := L2.St
def av (en : En) (B : List Nat) (al : Nat → Addr) (s : S) (σ : PSt) (a : Addr) : Prop :=
  (∃ n, n < s.h.length ∧ al n = a) ∨ (∃ i c, i ∉ B ∧ s.v[i]? = some (.own c) ∧ σ[i]? = some (some (.ref a))) ∨ en.ex a
section
variable (K : PySem.W.Frag) (mg : Str → Option Value)
def rc (en : En) (B : List Nat) (al : Nat → Addr) (s : S) (σ : PSt) : RC := ⟨K, mg, av en B al s σ, av en [] al s σ, al, s.h.length⟩
structure Sm (en : En) (al : Nat → Addr) (s : S) (σ : PSt) (H : Hp) : Prop where
  len : s.v.length = σ.length
  cell : ∀ (n : Nat) (c : Con), s.h[n]? = some c → c.flat = true ∧ ConR (rc K mg en [] al s σ) H c (al n)
  inj : ∀ n m, n < s.h.length → m < s.h.length → al n = al m → n = m
  slot : ∀ (i : Nat) (d : D), s.v[i]? = some (.val d) → ∃ v, σ[i]? = some (some v) ∧ Rl (rc K mg en [] al s σ) H d v
  own : ∀ (i : Nat) (c : Con), s.v[i]? = some (.own c) → ∃ a, σ[i]? = some (some (.ref a)) ∧ ConR (rc K mg en [] al s σ) H c a ∧ en.H a = none ∧ ∀ n, n < s.h.length → al n ≠ a
  dis : ∀ (i j : Nat) (c c' : Con) (a : Addr), s.v[i]? = some (.own c) → s.v[j]? = some (.own c') → σ[i]? = some (some (.ref a)) → σ[j]? = some (some (.ref a)) → i = j
  ek : en.k ≤ s.h.length
  eal : ∀ n, n < en.k → al n = en.al n
  enew : ∀ n, en.k ≤ n → n < s.h.length → en.H (al n) = none
  pres : ∀ a o, en.H a = some o → (∀ n, n < en.k → en.al n ≠ a) → H a = some o
  dom : ∀ a, H a = none → en.H a = none
  ext : ∀ a, en.ex a → (∃ o, H a = some o ∧ stay o = false) ∧ (∀ n, n < s.h.length → al n ≠ a) ∧ ∀ (i : Nat) (c : Con), s.v[i]? = some (.own c) → σ[i]? ≠ some (some (.ref a))
  pin : ∀ p ∈ en.pin, en.ex p.1 ∧ H p.1 = some p.2
  hold : ∀ p ∈ en.hold, Rl (rc K mg en [] al s σ) H p.1 p.2
end
section
variable {K : PySem.W.Frag} {mg : Str → Option Value} {en : En} {B B' : List Nat} {al al' : Nat → Addr} {s s' : S} {σ σ' : PSt} {H H' : Hp}
theorem Sm.avs (m : Sm K mg en al s σ H) {a : Addr} (h : av en B al s σ a) : ∃ o, H a = some o ∧ stay o = false := by
  rcases h with ⟨n, hn, rfl⟩ | ⟨i, c, _, h1, h2⟩ | h
  · exact (m.cell n _ (List.getElem?_eq_getElem hn)).2.some
  · obtain ⟨a', e, q, _⟩ := m.own i c h1
    rw [h2] at e; cases e
    exact q.some
  · exact (m.ext a h).1
theorem av_mono (h : ∀ i, i ∈ B → i ∈ B') {a : Addr} (x : av en B' al s σ a) : av en B al s σ a := by
  rcases x with x | ⟨i, c, h0, h1, h2⟩ | x
  · exact .inl x
  · exact .inr (.inl ⟨i, c, fun z => h0 (h i z), h1, h2⟩)
  · exact .inr (.inr x)
theorem mo_B (h : ∀ i, i ∈ B → i ∈ B') : Mo (rc K mg en B al s σ) H (rc K mg en B' al s σ) H :=
  ⟨fun _ _ h _ => h, fun a _ n x => n (av_mono h x), fun _ h => h, Nat.le_refl _, fun _ _ => rfl, rfl, rfl⟩
theorem mo_nil : Mo (rc K mg en [] al s σ) H (rc K mg en B al s σ) H := mo_B (fun _ z => nomatch z)
/-- more stands in the heap -/
def Grow (H H' : Hp) : Prop := ∀ a o, H a = some o → H' a = some o
theorem Grow.refl (H : Hp) : Grow H H := fun _ _ h => h
theorem Grow.trans {H H1 H2 : Hp} (a : Grow H H1) (b : Grow H1 H2) : Grow H H2 := fun x o h => b x o (a x o h)
theorem Grow.new {H : Hp} {p : Addr} {o : HO} (h : H p = none) : Grow H (upd H p o) := fun a u e => by
  rw [upd_ne (ne_of_none e h)]; exact e
theorem Grow.dom {H H' : Hp} (g : Grow H H') (a : Addr) (h : H' a = none) : H a = none := by
  cases q : H a with
  | none => rfl
  | some o => rw [g a o q] at h; cases h
theorem Grow.mo {E : RC} {H H' : Hp} (g : Grow H H') : Mo E H E H' := ⟨fun a o h _ => g a o h, fun _ _ h => h, fun a h => g.dom a h, Nat.le_refl _, fun _ _ => rfl, rfl, rfl⟩
theorem Sm.grow (m : Sm K mg en al s σ H) (g : Grow H H') : Sm K mg en al s σ H' where
  len := m.len
  cell := fun n c h => ⟨(m.cell n c h).1, (m.cell n c h).2.mo g.mo (g _)⟩
  inj := m.inj
  slot := fun i d h => let ⟨v, e, r⟩ := m.slot i d h; ⟨v, e, r.mo g.mo⟩
  own := fun i c h => let ⟨a, e, r, x, y⟩ := m.own i c h; ⟨a, e, r.mo g.mo (g _), x, y⟩
  dis := m.dis
  ek := m.ek
  eal := m.eal
  enew := m.enew
  pres := fun a o h n => g a o (m.pres a o h n)
  dom := fun a h => m.dom a (g.dom a h)
  ext := fun a x => let ⟨⟨o, h1, h2⟩, h3⟩ := m.ext a x; ⟨⟨o, g a o h1, h2⟩, h3⟩
  pin := fun p hp => ⟨(m.pin p hp).1, g _ _ (m.pin p hp).2⟩
  hold := fun p hp => (m.hold p hp).mo g.mo
theorem Sm.nav (m : Sm K mg en al s σ H) {p : Addr} (h : H p = none) : ¬ av en B al s σ p := fun x => by
  obtain ⟨o, e, _⟩ := m.avs x
  rw [h] at e; cases e

theorem av_add {o : HO} {a b : Addr} (x : av (en.add a o) B al s σ b) : av en B al s σ b ∨ b = a := by
  rcases x with x | x | x | x
  · exact .inl (.inl x)
  · exact .inl (.inr (.inl x))
  · exact .inl (.inr (.inr x))
  · exact .inr x
theorem Sm.add (m : Sm K mg en al s σ H) (g : Grow H H') {a : Addr} {o : HO} (h0 : H a = none) (h1 : H' a = some o) (ho : stay o = false) : Sm K mg (en.add a o) al s σ H' := by
  have mo : Mo (rc K mg en [] al s σ) H (rc K mg (en.add a o) [] al s σ) H' := ⟨fun b u e _ => g b u e, fun b e x y => (av_add y).elim x fun z => e (z ▸ h0), fun b h => g.dom b h, Nat.le_refl _, fun _ _ => rfl, rfl, rfl⟩
  refine ⟨m.len, fun n c h => ⟨(m.cell n c h).1, (m.cell n c h).2.mo mo (g _)⟩, m.inj, fun i d h => ?_, fun i c h => ?_, m.dis, m.ek, m.eal, m.enew, fun b u e x => g b u (m.pres b u e x), fun b h => m.dom b (g.dom b h), fun b x => ?_, fun p hp => ?_, fun p hp => (m.hold p hp).mo mo⟩
  · obtain ⟨v, e, r⟩ := m.slot i d h
    exact ⟨v, e, r.mo mo⟩
  · obtain ⟨b, e, r, x, y⟩ := m.own i c h
    exact ⟨b, e, r.mo mo (g _), x, y⟩
  · rcases x with x | x
    · obtain ⟨⟨o, h1, h2⟩, h3⟩ := m.ext b x
      exact ⟨⟨o, g b o h1, h2⟩, h3⟩
    · subst x
      refine ⟨⟨o, h1, ho⟩, fun n hn e => ?_, fun i c hi e => ?_⟩
      · exact m.nav (B := []) h0 (.inl ⟨n, hn, e⟩)
      · exact m.nav (B := []) h0 (.inr (.inl ⟨i, c, (fun z => nomatch z), hi, e⟩))
  · rcases List.mem_cons.mp hp with rfl | hp
    · exact ⟨.inr rfl, h1⟩
    · exact ⟨.inl (m.pin p hp).1, g _ _ (m.pin p hp).2⟩
end
/-- what came of an expression: a value, or a new thing that nothing else knows -/
def ErN (K : PySem.W.Frag) (mg : Str → Option Value) (en : En) (B : List Nat) (al : Nat → Addr) (s : S) (σ : PSt) (H0 H : Hp) : Er → V → Prop
  | .val d, v => Rl (rc K mg en B al s σ) H d v
  | .new (.ins _ _ _), _ => False
  | .new c, v => ∃ a o, v = .ref a ∧ H0 a = none ∧ H a = some o ∧ ¬ av en [] al s σ a ∧ ConR (rc K mg en B al s σ) H c a ∧ Sm K mg (en.add a o) al s σ H
section
variable {K : PySem.W.Frag} {mg : Str → Option Value} {en : En} {B B' : List Nat} {al al' : Nat → Addr} {s s' : S} {σ σ' : PSt} {H H' : Hp}
theorem ErN.toD {H0 : Hp} {r : Er} {v : V} (h : ErN K mg en B al s σ H0 H r v) : Rl (rc K mg en B al s σ) H r.toD v := by
  cases r with
  | val d => exact h
  | new c => cases c with
    | lst xs => obtain ⟨a, o, e, _, _, n, ⟨us, h1, h2⟩, _⟩ := h; exact ⟨a, us, e, h1, fun z => n (av_mono (B := []) (fun _ z => nomatch z) z), h2⟩
    | dct ks vs => obtain ⟨a, o, e, _, _, n, ⟨us, l, h1, h2⟩, _⟩ := h; exact ⟨a, us, e, l, h1, fun z => n (av_mono (B := []) (fun _ z => nomatch z) z), h2⟩
    | ins C ns vs => exact h.elim
theorem ErN.back {H0 H1 : Hp} {r : Er} {v : V} (d : ∀ a, H1 a = none → H0 a = none) (h : ErN K mg en B al s σ H1 H r v) : ErN K mg en B al s σ H0 H r v := by
  cases r with
  | val x => exact h
  | new c => cases c with
    | lst xs => obtain ⟨a, o, e, n, r⟩ := h; exact ⟨a, o, e, d a n, r⟩
    | dct ks vs => obtain ⟨a, o, e, n, r⟩ := h; exact ⟨a, o, e, d a n, r⟩
    | ins C ns vs => exact h.elim
/-- what an operation on values made -/
theorem ErR.made {r : Er} {v : V} (m : Sm K mg en al s σ H) (g : Grow H H') (h : ErR (rc K mg en B al s σ) H H' r v) : ErN K mg en B al s σ H H' r v := by
  cases r with
  | val x => exact h
  | new c => cases c with
    | lst xs =>
      obtain ⟨a, e, n, n1, n2, r⟩ := h
      obtain ⟨o, ho, hs⟩ := r.some
      exact ⟨a, o, e, n, ho, n1, r, m.add g n ho hs⟩
    | dct ks vs =>
      obtain ⟨a, e, n, n1, n2, r⟩ := h
      obtain ⟨o, ho, hs⟩ := r.some
      exact ⟨a, o, e, n, ho, n1, r, m.add g n ho hs⟩
    | ins C ns vs => exact h.elim
end

/-! what is wanted behind a piece -/
section
variable (K : PySem.W.Frag) (mg : Str → Option Value) (W : WX)
def Wp {α : Type} (en : En) (B : List Nat) (al : Nat → Addr) (s : S) (σ : PSt) (H : Hp) (r : R α) (Kk : α → S → (Nat → Addr) → Hp → Prop) : Prop := match r with
  | .ok a s' => ∀ al' H', Sm K mg en al' s' σ H' → Mo (rc K mg en B al s σ) H (rc K mg en B al' s' σ) H' → Kk a s' al' H'
  | .ex e s' => ∀ al' H' c d, Sm K mg en al' s' σ H' → ExR (rc K mg en [] al' s' σ) H' e c d → W c d σ H'
  | .bad => False
def TEm (en : En) (B : List Nat) (m : S → R Er) : TE := fun σ H Q => ∃ al s, Sm K mg en al s σ H ∧
  Wp K mg W en B al s σ H (m s) (fun r s' al' H' => ∀ v, ErN K mg en B al' s' σ H H' r v → Q v H')
def TTm (en : En) (B : List Nat) (m : S → R Bool) : TT := fun σ H Q => ∃ al s, Sm K mg en al s σ H ∧
  Wp K mg W en B al s σ H (m s) (fun b s' al' H' => Q b H')
def TAm (en : En) (B : List Nat) (m : S → R (List D)) : TA := fun σ H Q => ∃ al s, Sm K mg en al s σ H ∧
  Wp K mg W en B al s σ H (m s) (fun ds s' al' H' => ∀ vs, RlL (rc K mg en B al' s' σ) H' ds vs → Q vs H')
end
section
variable {K : PySem.W.Frag} {mg : Str → Option Value} {W : WX} {en : En} {B : List Nat} {al al1 : Nat → Addr} {s s1 : S} {σ : PSt} {H H1 : Hp}
theorem Wp.rebase {α : Type} {r : R α} {Kk : α → S → (Nat → Addr) → Hp → Prop} (mo : Mo (rc K mg en B al s σ) H (rc K mg en B al1 s1 σ) H1) (h : Wp K mg W en B al s σ H r Kk) : Wp K mg W en B al1 s1 σ H1 r Kk := by
  cases r with
  | ok a s' => exact fun al' H' st m => h al' H' st (mo.trans m)
  | ex e s' => exact h
  | bad => exact h
theorem Wp.imp {α : Type} {r : R α} {Kk Kk' : α → S → (Nat → Addr) → Hp → Prop} (h : Wp K mg W en B al s σ H r Kk) (i : ∀ a s' al' H', Kk a s' al' H' → Kk' a s' al' H') : Wp K mg W en B al s σ H r Kk' := by
  cases r with
  | ok a s' => exact fun al' H' st m => i _ _ _ _ (h al' H' st m)
  | ex e s' => exact h
  | bad => exact h
theorem T_sub {β : Type} {m : S → R Er} {f : Er → S → R β} {Kk : β → S → (Nat → Addr) → Hp → Prop} {Q : VK} (hs : Sm K mg en al s σ H) (hw : Wp K mg W en B al s σ H ((m s).bind f) Kk)
    (hk : ∀ r s1 al1 H1 v, Sm K mg en al1 s1 σ H1 → Mo (rc K mg en B al s σ) H (rc K mg en B al1 s1 σ) H1 → ErN K mg en B al1 s1 σ H H1 r v → Wp K mg W en B al1 s1 σ H1 (f r s1) Kk → Q v H1) : TEm K mg W en B m σ H Q := by
  refine ⟨al, s, hs, ?_⟩
  revert hw
  cases m s with
  | ok r s1 => exact fun hw al1 H1 st mo v hv => hk r s1 al1 H1 v st mo hv (hw.rebase mo)
  | ex e s1 => exact fun hw => hw
  | bad => exact fun hw => hw
theorem TT_sub {β : Type} {m : S → R Bool} {f : Bool → S → R β} {Kk : β → S → (Nat → Addr) → Hp → Prop} {Q : Bool → Hp → Prop} (hs : Sm K mg en al s σ H) (hw : Wp K mg W en B al s σ H ((m s).bind f) Kk)
    (hk : ∀ r s1 al1 H1, Sm K mg en al1 s1 σ H1 → Mo (rc K mg en B al s σ) H (rc K mg en B al1 s1 σ) H1 → Wp K mg W en B al1 s1 σ H1 (f r s1) Kk → Q r H1) : TTm K mg W en B m σ H Q := by
  refine ⟨al, s, hs, ?_⟩
  revert hw
  cases m s with
  | ok r s1 => exact fun hw al1 H1 st mo => hk r s1 al1 H1 st mo (hw.rebase mo)
  | ex e s1 => exact fun hw => hw
  | bad => exact fun hw => hw
theorem TA_sub {β : Type} {m : S → R (List D)} {f : List D → S → R β} {Kk : β → S → (Nat → Addr) → Hp → Prop} {Q : List V → Hp → Prop} (hs : Sm K mg en al s σ H) (hw : Wp K mg W en B al s σ H ((m s).bind f) Kk)
    (hk : ∀ r s1 al1 H1 vs, Sm K mg en al1 s1 σ H1 → Mo (rc K mg en B al s σ) H (rc K mg en B al1 s1 σ) H1 → RlL (rc K mg en B al1 s1 σ) H1 r vs → Wp K mg W en B al1 s1 σ H1 (f r s1) Kk → Q vs H1) : TAm K mg W en B m σ H Q := by
  refine ⟨al, s, hs, ?_⟩
  revert hw
  cases m s with
  | ok r s1 => exact fun hw al1 H1 st mo vs hv => hk r s1 al1 H1 vs st mo hv (hw.rebase mo)
  | ex e s1 => exact fun hw => hw
  | bad => exact fun hw => hw
/-- the heap grew, a value came -/
theorem Wp.val {r : Er} {v : V} {Kk : Er → S → (Nat → Addr) → Hp → Prop} (st : Sm K mg en al s σ H) (h : Wp K mg W en B al s σ H (.ok r s) Kk) {H' : Hp} (g : Grow H H') : Kk r s al H' := h al H' (st.grow g) g.mo
end
/-! the judgements -/
structure ME (X : Cx) (W : WX) (B : List Nat) (e : Expr) (m : S → R Er) : Prop where
  run : ∀ en, PE X e (TEm X.K X.mg W en B m)
structure MT (X : Cx) (W : WX) (B : List Nat) (e : Expr) (m : S → R Bool) : Prop where
  run : ∀ en, PT X e (TTm X.K X.mg W en B m)
structure MA (X : Cx) (W : WX) (B : List Nat) (es : List Expr) (m : S → R (List D)) : Prop where
  run : ∀ en, PA X es (TAm X.K X.mg W en B m)
theorem pe_imp {X : Cx} {e : Expr} {t t' : TE} (h : PE X e t) (i : ∀ σ H Q, t' σ H Q → t σ H Q) : PE X e t' := ⟨fun pins s σ H Q I q => h.run pins s σ H Q I (i σ H Q q)⟩
theorem pt_imp {X : Cx} {e : Expr} {t t' : TT} (h : PT X e t) (i : ∀ σ H Q, t' σ H Q → t σ H Q) : PT X e t' := ⟨fun pins s σ H Q I q => h.run pins s σ H Q I (i σ H Q q)⟩
theorem pa_imp {X : Cx} {e : List Expr} {t t' : TA} (h : PA X e t) (i : ∀ σ H Q, t' σ H Q → t σ H Q) : PA X e t' := ⟨fun pos pins s σ H Q I q => h.run pos pins s σ H Q I (i σ H Q q)⟩
theorem ps_imp {X : Cx} {e : Stmt} {t t' : TS} (h : PS X e t) (i : ∀ D σ H, t' D σ H → t D σ H) : PS X e t' := ⟨fun pins s σ H Q I q => h.run pins s σ H Q I (i _ σ H q)⟩
theorem pss_imp {X : Cx} {e : List Stmt} {t t' : TS} (h : PSs X e t) (i : ∀ D σ H, t' D σ H → t D σ H) : PSs X e t' := ⟨fun pins s σ H Q I q => h.run pins s σ H Q I (i _ σ H q)⟩

/-! names, constants -/
def eC (d : D) : S → R Er := fun s => .ok (.val d) s
def Con.toD : Con → D
  | .lst xs => .lst xs
  | .dct ks vs => .dct ks vs
  | .ins _ _ _ => .non
def eVar (i : Nat) : S → R Er := fun s => match s.v[i]? with
  | some (.val d) => .ok (.val d) s
  | some (.own (.lst xs)) => .ok (.val (.lst xs)) s
  | some (.own (.dct ks vs)) => .ok (.val (.dct ks vs)) s
  | _ => .bad
section
variable {X : Cx} {W : WX} {B : List Nat}
theorem me_c {d : D} {v : V} {e : Expr} (h : PE X e (tC v)) (r : ∀ E H, E.mg = X.mg → Rl E H d v) : ME X W B e (eC d) := ⟨fun en => pe_imp h fun σ H Q ⟨al, s, hs, hw⟩ => hw al H hs (Mo.refl _ _) v (r _ H rfl)⟩
theorem me_int {i : Int} {j pos} : ME X W B (.Constant (.int i) j pos) (eC (.int i)) := me_c pe_int fun _ _ _ => rfl
theorem me_str {x : Str} {j pos} : ME X W B (.Constant (.str x) j pos) (eC (.str x)) := me_c pe_str fun _ _ _ => rfl
theorem me_bl {b : Bool} {j pos} : ME X W B (.Constant (.bool b) j pos) (eC (.bl b)) := me_c pe_bl fun _ _ _ => rfl
theorem me_non {j pos} : ME X W B (.Constant .none j pos) (eC .non) := me_c pe_non fun _ _ _ => rfl
theorem me_gint {x : Str} {i : Int} {pos : Pos} (hg : Gl X x) (hm : ∃ t, X.mg x = some (.int i t)) (hd : (x == ("__debug__" : Str)) = false := by decide) : ME X W B (.Name x pos) (eC (.int i)) := by
  obtain ⟨t, hm⟩ := hm
  exact me_c (pe_glob (v := .int i) hg hm ⟨t, rfl⟩ hd) fun _ _ _ => rfl
theorem me_gstr {x : Str} {i : Str} {pos : Pos} (hg : Gl X x) (hm : ∃ t, X.mg x = some (.str i t)) (hd : (x == ("__debug__" : Str)) = false := by decide) : ME X W B (.Name x pos) (eC (.str i)) := by
  obtain ⟨t, hm⟩ := hm
  exact me_c (pe_glob (v := .str i) hg hm ⟨t, rfl⟩ hd) fun _ _ _ => rfl
theorem me_glob {x : Str} {a : Addr} {pos : Pos} (hg : Gl X x) (hm : X.mg x = some (.ref a)) (hd : (x == ("__debug__" : Str)) = false := by decide) : ME X W B (.Name x pos) (eC (.glob x)) :=
  me_c (pe_glob (v := .ref a) hg hm rfl hd) fun E _ e => ⟨a, by rw [e]; exact hm, rfl⟩
theorem me_var (i : Nat) {x : Str} {pos : Pos} (hB : i ∈ B) (h : PE X (.Name x pos) (tVar i)) : ME X W B (.Name x pos) (eVar i) := by
  refine ⟨fun en => pe_imp h fun σ H Q ⟨al, s, hs, hw⟩ => ?_⟩
  unfold eVar at hw
  cases q : s.v[i]? with
  | none => rw [q] at hw; exact hw.elim
  | some sd =>
    rw [q] at hw
    cases sd with
    | no => exact hw.elim
    | val d =>
      obtain ⟨v, e, r⟩ := hs.slot i d q
      exact ⟨v, e, hw al H hs (Mo.refl _ _) v (r.mo mo_nil)⟩
    | own c =>
      obtain ⟨a, e, r, n, z⟩ := hs.own i c q
      have na : ¬ av en B al s σ a := by
        rintro (⟨m, hm, e'⟩ | ⟨j, c', h0, h1, h2⟩ | h)
        · exact z m hm e'
        · exact h0 (hs.dis i j c c' a q h1 e h2 ▸ hB)
        · exact (hs.ext a h).2.2 i c q e
      cases c with
      | lst xs =>
        obtain ⟨us, h1, h2⟩ := r
        exact ⟨_, e, hw al H hs (Mo.refl _ _) _ ⟨a, us, rfl, h1, na, h2.mo mo_nil⟩⟩
      | dct ks vs =>
        obtain ⟨us, l, h1, h2⟩ := r
        exact ⟨_, e, hw al H hs (Mo.refl _ _) _ ⟨a, us, rfl, l, h1, na, h2.mo mo_nil⟩⟩
      | ins C ns vs => exact hw.elim
end
end MP

namespace MP
open PySem PySem.Spec PyProof.Rows L2

/-! operations by values -/
structure Cl (E : RC) (H : Hp) (h : List Con) : Prop where
  cell : ∀ (n : Nat) (c : Con), h[n]? = some c → n < E.k ∧ c.flat = true ∧ ConR E H c (E.al n)
  nav : ∀ p, H p = none → ¬ E.av p
  nava : ∀ p, H p = none → ¬ E.ava p
theorem Sm.cl {K : PySem.W.Frag} {mg : Str → Option Value} {en : En} {B : List Nat} {al : Nat → Addr} {s : S} {σ : PSt} {H : Hp} (m : Sm K mg en al s σ H) : Cl (rc K mg en B al s σ) H s.h :=
  ⟨fun n c h => ⟨(List.getElem?_eq_some_iff.mp h).1, (m.cell n c h).1, (m.cell n c h).2.mo mo_nil fun _ q => q⟩, fun p h => m.nav h, fun p h => m.nav h⟩
def Op2 (K : PySem.W.Frag) (r : R2) (f : List Con → D → D → Option Er) : Prop :=
  ∀ (E : RC) (H : Hp) (h : List Con), E.K = K → Cl E H h → ∀ (d1 d2 : D) (x y : V), Rl E H d1 x → Rl E H d2 y → ∀ er, f h d1 d2 = some er →
    ∀ Q : VK, (∀ H' v, Grow H H' → ErR E H H' er v → Q v H') → r x y H Q
def Op1 (K : PySem.W.Frag) (r : V → Hp → VK → Prop) (f : List Con → D → Option Er) : Prop :=
  ∀ (E : RC) (H : Hp) (h : List Con), E.K = K → Cl E H h → ∀ (d1 : D) (x : V), Rl E H d1 x → ∀ er, f h d1 = some er →
    ∀ Q : VK, (∀ H' v, Grow H H' → ErR E H H' er v → Q v H') → r x H Q
def OpN (K : PySem.W.Frag) (r : List V → Hp → VK → Prop) (f : List Con → List D → Option Er) : Prop :=
  ∀ (E : RC) (H : Hp) (h : List Con), E.K = K → Cl E H h → ∀ (ds : List D) (xs : List V), RlL E H ds xs → ∀ er, f h ds = some er →
    ∀ Q : VK, (∀ H' v, Grow H H' → ErR E H H' er v → Q v H') → r xs H Q
def opt {α : Type} (o : Option α) (s : S) : R α := match o with
  | some e => .ok e s
  | none => .bad
def eOp2 (f : List Con → D → D → Option Er) (ma mb : S → R Er) : S → R Er := fun s => (ma s).bind fun r1 s1 => (mb s1).bind fun r2 s2 => opt (f s2.h r1.toD r2.toD) s2
def eOp1 (f : List Con → D → Option Er) (ma : S → R Er) : S → R Er := fun s => (ma s).bind fun r1 s1 => opt (f s1.h r1.toD) s1
def eOpN (f : List Con → List D → Option Er) (ma : S → R (List D)) : S → R Er := fun s => (ma s).bind fun r1 s1 => opt (f s1.h r1) s1
section
variable {K : PySem.W.Frag} {mg : Str → Option Value} {W : WX} {en : En} {B : List Nat} {al al1 : Nat → Addr} {s s1 : S} {σ : PSt} {H H0 H1 : Hp}
theorem wp_opt {o : Option Er} {Q : VK} (hs : Sm K mg en al s σ H) (d0 : ∀ a, H a = none → H0 a = none) (hw : Wp K mg W en B al s σ H (opt o s) (fun r s' al' H' => ∀ v, ErN K mg en B al' s' σ H0 H' r v → Q v H')) :
    ∃ er, o = some er ∧ ∀ H' v, Grow H H' → ErR (rc K mg en B al s σ) H H' er v → Q v H' := by
  cases o with
  | none => exact hw.elim
  | some er => exact ⟨er, rfl, fun H' v g e => hw al H' (hs.grow g) g.mo v ((e.made hs g).back d0)⟩
theorem t_op2 {r : R2} {f : List Con → D → D → Option Er} {ma mb : S → R Er} (hf : Op2 K r f) {Q : VK} (h : TEm K mg W en B (eOp2 f ma mb) σ H Q) : tOp r (TEm K mg W en B ma) (TEm K mg W en B mb) σ H Q := by
  obtain ⟨al, s, hs, hw⟩ := h
  refine T_sub hs hw fun r1 s1 al1 H1 x st1 mo1 e1 hw1 => T_sub st1 hw1 fun r2 s2 al2 H2 y st2 mo2 e2 hw2 => ?_
  obtain ⟨er, ho, hq⟩ := wp_opt st2 (fun a z => mo1.dom a (mo2.dom a z)) hw2
  exact hf _ H2 s2.h rfl st2.cl _ _ x y (e1.toD.mo mo2) e2.toD er ho Q hq
theorem t_op1 {r : V → Hp → VK → Prop} {f : List Con → D → Option Er} {ma : S → R Er} (hf : Op1 K r f) {Q : VK} (h : TEm K mg W en B (eOp1 f ma) σ H Q) : tUn r (TEm K mg W en B ma) σ H Q := by
  obtain ⟨al, s, hs, hw⟩ := h
  refine T_sub hs hw fun r1 s1 al1 H1 x st1 mo1 e1 hw1 => ?_
  obtain ⟨er, ho, hq⟩ := wp_opt st1 (fun a z => mo1.dom a z) hw1
  exact hf _ H1 s1.h rfl st1.cl _ x e1.toD er ho Q hq
theorem t_opN {r : List V → Hp → VK → Prop} {f : List Con → List D → Option Er} {ma : S → R (List D)} (hf : OpN K r f) {Q : VK} (h : TEm K mg W en B (eOpN f ma) σ H Q) : tCB r (TAm K mg W en B ma) σ H Q := by
  obtain ⟨al, s, hs, hw⟩ := h
  refine TA_sub hs hw fun r1 s1 al1 H1 xs st1 mo1 e1 hw1 => ?_
  obtain ⟨er, ho, hq⟩ := wp_opt st1 (fun a z => mo1.dom a z) hw1
  exact hf _ H1 s1.h rfl st1.cl _ xs e1 er ho Q hq
end
theorem Op2.or {K : PySem.W.Frag} {r r' : R2} {f f' : List Con → D → D → Option Er} (a : Op2 K r f) (b : Op2 K r' f') : Op2 K (fun x y H Q => r x y H Q ∨ r' x y H Q) (fun h x y => (f h x y).or (f' h x y)) := by
  intro E H h eK c d1 d2 x y r1 r2 er e Q q
  replace e : (f h d1 d2).or (f' h d1 d2) = some er := e
  cases z : f h d1 d2 with
  | some u => rw [z] at e; exact .inl (a E H h eK c d1 d2 x y r1 r2 er (by rw [z]; exact e) Q q)
  | none => rw [z] at e; exact .inr (b E H h eK c d1 d2 x y r1 r2 er e Q q)
theorem OpN.or {K : PySem.W.Frag} {r r' : List V → Hp → VK → Prop} {f f' : List Con → List D → Option Er} (a : OpN K r f) (b : OpN K r' f') : OpN K (fun x H Q => r x H Q ∨ r' x H Q) (fun h x => (f h x).or (f' h x)) := by
  intro E H h eK c ds xs r1 er e Q q
  replace e : (f h ds).or (f' h ds) = some er := e
  cases z : f h ds with
  | some u => rw [z] at e; exact .inl (a E H h eK c ds xs r1 er (by rw [z]; exact e) Q q)
  | none => rw [z] at e; exact .inr (b E H h eK c ds xs r1 er e Q q)
theorem CallR.or {X : Cx} {f : Value} {r r' : List V → Hp → VK → Prop} (h : CallR X f r) (h' : CallR X f r') : CallR X f (fun xs H Q => r xs H Q ∨ r' xs H Q) :=
  fun pins s σ H xs us Q I rl q => q.elim (h pins s σ H xs us Q I rl) (h' pins s σ H xs us Q I rl)

/-! ints -/
def vI (i : Int) : Option Er := some (.val (.int i))
def vB (b : Bool) : Option Er := some (.val (.bl b))
def szB : Nat := 2 ^ 4000
def sz (i : Int) : Bool := decide (i.natAbs < szB)
def maxL : Nat := 100000
theorem maxL_le {n : Nat} (h : n ≤ maxL) : n ≤ sizeLine := Nat.le_trans h (by decide)
theorem maxL_lt {n : Nat} (h : n < maxL) : n < sizeLine := Nat.lt_of_lt_of_le h (by decide)
/-- the items of a list that may be written -/
def asL (h : List Con) : D → Option (List D)
  | .lst xs => some xs
  | .ref n => match h[n]? with
    | some (.lst xs) => some xs
    | _ => none
  | _ => none
theorem asL_ok {E : RC} {H : Hp} {h : List Con} {d : D} {xs : List D} {x : V} (c : Cl E H h) (r : Rl E H d x) (e : asL h d = some xs) : ∃ a us, x = .ref a ∧ H a = some (.lst us) ∧ RlL E H xs us := by
  cases d with
  | lst ys =>
    simp only [asL, Option.some.injEq] at e; subst e
    obtain ⟨a, us, e, h1, _, h2⟩ := r
    exact ⟨a, us, e, h1, h2⟩
  | ref n =>
    simp only [asL] at e
    split at e
    · rename_i ys q
      cases e
      obtain ⟨_, _, us, h1, h2⟩ := c.cell n _ q
      exact ⟨_, us, r.2, h1, h2⟩
    · cases e
  | _ => simp [asL] at e
theorem new_lst {E : RC} {H : Hp} {h : List Con} {xs : List D} {us : List V} {Q : VK} (c : Cl E H h) (r : RlL E H xs us) (q : ∀ H' v, Grow H H' → ErR E H H' (.new (.lst xs)) v → Q v H') : ∀ p, H p = none → Q (.ref p) (upd H p (.lst us)) :=
  fun p hp => q _ _ (Grow.new hp) ⟨p, rfl, hp, c.nava p hp, c.nav p hp, us, upd_same, r.mo (Grow.new hp).mo⟩
theorem new_tup {E : RC} {H : Hp} {xs : List D} {us : List V} {Q : VK} (r : RlL E H xs us) (q : ∀ H' v, Grow H H' → ErR E H H' (.val (.tup xs)) v → Q v H') : ∀ p, H p = none → Q (.ref p) (upd H p (.tup us)) :=
  fun p hp => q _ _ (Grow.new hp) ⟨p, us, rfl, upd_same, r.mo (Grow.new hp).mo⟩
theorem Rl.int_inv {E : RC} {H : Hp} {i : Int} {x : V} (h : Rl E H (.int i) x) : x = .int i := h
theorem Rl.str_inv {E : RC} {H : Hp} {i : Str} {x : V} (h : Rl E H (.str i) x) : x = .str i := h

def fI2 (g : Int → Int → Option Er) : List Con → D → D → Option Er
  | _, .int i, .int j => g i j
  | _, _, _ => none
theorem fI2_ok {h : List Con} {g : Int → Int → Option Er} {d1 d2 : D} {er : Er} (e : fI2 g h d1 d2 = some er) : ∃ i j, d1 = .int i ∧ d2 = .int j ∧ g i j = some er := by
  cases d1 <;> cases d2 <;> first | exact ⟨_, _, rfl, rfl, e⟩ | cases e
theorem op2_I0 {K : PySem.W.Frag} (g : Int → Int → D) (gv : Int → Int → V) (hg : ∀ i j E H, Rl E H (g i j) (gv i j)) : Op2 K (rI0 gv) (fI2 fun i j => some (.val (g i j))) := by
  intro E H h eK c d1 d2 x y r1 r2 er e Q q
  obtain ⟨i, j, rfl, rfl, e⟩ := fI2_ok e
  cases e
  exact ⟨i, j, r1, r2, q H _ (Grow.refl H) (hg i j E H)⟩
theorem op2_IC {K : PySem.W.Frag} {C : Int → Int → Prop} (cb : Int → Int → Bool) (g : Int → Int → D) (gv : Int → Int → V) (hc : ∀ i j, cb i j = true → C i j) (hg : ∀ i j E H, Rl E H (g i j) (gv i j)) : Op2 K (rI C gv) (fI2 fun i j => if cb i j = true then some (.val (g i j)) else none) := by
  intro E H h eK c d1 d2 x y r1 r2 er e Q q
  obtain ⟨i, j, rfl, rfl, e2⟩ := fI2_ok e
  by_cases z : cb i j = true
  · rw [if_pos z] at e2; cases e2
    exact ⟨i, j, r1, r2, hc i j z, q H _ (Grow.refl H) (hg i j E H)⟩
  · rw [if_neg z] at e2; cases e2
/-! + -/
def fAddS : List Con → D → D → Option Er
  | _, .str x, .str y => if x.length + y.length ≤ maxL then some (.val (.str (x ++ y))) else none
  | _, _, _ => none
def fAddT : List Con → D → D → Option Er
  | _, .tup xs, .tup ys => if xs.length + ys.length ≤ maxL then some (.val (.tup (xs ++ ys))) else none
  | _, _, _ => none
def fAddL : List Con → D → D → Option Er := fun h x y => match asL h x, asL h y with
  | some xs, some ys => if xs.length + ys.length ≤ maxL then some (.new (.lst (xs ++ ys))) else none
  | _, _ => none
def fAdd : List Con → D → D → Option Er := fun h x y => (fI2 (fun i j => some (.val (.int (i + j)))) h x y).or ((fAddS h x y).or ((fAddT h x y).or (fAddL h x y)))
theorem o2_addS {K : PySem.W.Frag} : Op2 K (fun x y H Q => ∃ i j, x = .str i ∧ y = .str j ∧ i.length + j.length ≤ sizeLine ∧ Q (.str (i ++ j)) H) fAddS := by
  intro E H h eK c d1 d2 x y r1 r2 er e Q q
  cases d1 <;> cases d2 <;> first | (simp only [fAddS] at e; done) | skip
  all_goals first | (cases e; done) | skip
  rename_i a b
  simp only [fAddS] at e
  split at e
  · rename_i z
    cases e
    exact ⟨a, b, r1, r2, maxL_le z, q H _ (Grow.refl H) rfl⟩
  · cases e
theorem o2_addT {K : PySem.W.Frag} : Op2 K (rCatA K) fAddT := by
  intro E H h eK c d1 d2 x y r1 r2 er e Q q
  cases d1 <;> cases d2 <;> first | (cases e; done) | skip
  rename_i xs ys
  simp only [fAddT] at e
  split at e
  · rename_i z
    cases e
    obtain ⟨a, us, rfl, h1, h2⟩ := r1
    obtain ⟨b, ws, rfl, h3, h4⟩ := r2
    have l1 := h2.length
    have l2 := h4.length
    refine ⟨a, b, us, ws, rfl, rfl, SqT.of h1, SqT.of h3, by rw [← l1, ← l2]; exact maxL_le z, fun e => ?_, fun _ e => ?_, fun _ _ => new_tup (h2.append h4) q⟩
    · subst e
      cases xs with
      | nil => exact q H _ (Grow.refl H) ⟨b, ws, rfl, h3, h4⟩
      | cons _ _ => simp at l1
    · subst e
      cases ys with
      | nil => exact q H _ (Grow.refl H) ⟨a, us, rfl, h1, by simpa using h2⟩
      | cons _ _ => simp at l2
  · cases e
theorem o2_addL {K : PySem.W.Frag} : Op2 K rCat fAddL := by
  intro E H h eK c d1 d2 x y r1 r2 er e Q q
  unfold fAddL at e
  split at e
  · rename_i xs ys e1 e2
    split at e
    · rename_i z
      cases e
      obtain ⟨a, us, rfl, h1, h2⟩ := asL_ok c r1 e1
      obtain ⟨b, ws, rfl, h3, h4⟩ := asL_ok c r2 e2
      exact ⟨a, b, us, ws, rfl, rfl, h1, h3, by rw [← h2.length, ← h4.length]; exact maxL_le z, new_lst c (h2.append h4) q⟩
    · cases e
  · cases e
section
variable {X : Cx} {W : WX} {B : List Nat} {a b : Expr} {ma mb : S → R Er} {pos : Pos}
theorem me_bin {op : Operator} {r : R2} {f : List Con → D → D → Option Er} (ho : OpR X (binaryOp op) r) (hf : Op2 X.K r f) (ha : ME X W B a ma) (hb : ME X W B b mb) : ME X W B (.BinOp a op b pos) (eOp2 f ma mb) :=
  ⟨fun en => pe_imp (pe_op ho (ha.run en) (hb.run en)) fun _ _ _ h => t_op2 hf h⟩
theorem me_add (ha : ME X W B a ma) (hb : ME X W B b mb) : ME X W B (.BinOp a .Add b pos) (eOp2 fAdd ma mb) :=
  me_bin (OpR.or op_add (OpR.or op_add_str (OpR.or op_catA op_cat))) (Op2.or (op2_I0 _ _ fun _ _ _ _ => rfl) (Op2.or o2_addS (Op2.or o2_addT o2_addL))) ha hb
def fSub : List Con → D → D → Option Er := fI2 fun i j => some (.val (.int (i - j)))
theorem me_sub (ha : ME X W B a ma) (hb : ME X W B b mb) : ME X W B (.BinOp a .Sub b pos) (eOp2 fSub ma mb) := me_bin op_sub (op2_I0 _ _ fun _ _ _ _ => rfl) ha hb
def fMod : List Con → D → D → Option Er := fI2 fun i j => if decide (0 < j) = true then some (.val (.int (i % j))) else none
theorem me_mod (ha : ME X W B a ma) (hb : ME X W B b mb) : ME X W B (.BinOp a .Mod b pos) (eOp2 fMod ma mb) := me_bin op_mod (op2_IC _ _ _ (fun _ _ h => of_decide_eq_true h) fun _ _ _ _ => rfl) ha hb
def fDiv : List Con → D → D → Option Er := fI2 fun i j => if (decide (0 < j) && sz j) = true then some (.val (.int (i / j))) else none
theorem sz_lt {i : Int} (h : sz i = true) : i.natAbs < 2 ^ 4000 := of_decide_eq_true h
theorem me_div (ha : ME X W B a ma) (hb : ME X W B b mb) : ME X W B (.BinOp a .FloorDiv b pos) (eOp2 fDiv ma mb) :=
  me_bin op_fdivW (op2_IC _ _ _ (fun i j h => by
    rw [Bool.and_eq_true] at h
    exact wide_div (of_decide_eq_true h.1) (sz_lt h.2) (by decide) (by decide)) fun _ _ _ _ => rfl) ha hb
theorem op_powX : OpR X (binaryOp .Pow) (rI (fun i j => 0 ≤ j ∧ (Builtin.Int.intBits i : Int) * j ≤ 2 ^ 27) fun i j => .int (i ^ j.toNat)) := opI fun _ _ _ _ _ _ _ hc q => pow_int hc.1 hc.2 q
theorem bits_le {i : Int} {n : Nat} (h : i.natAbs < 2 ^ n) : Builtin.Int.intBits i ≤ n := by
  unfold Builtin.Int.intBits
  split
  · exact Nat.zero_le _
  · rename_i hz
    have h0 : i.natAbs ≠ 0 := fun z => hz (by simpa using Int.natAbs_eq_zero.mp z)
    have := (Nat.log2_lt h0).mpr h
    omega
def fPow : List Con → D → D → Option Er := fI2 fun i j => if (sz i && (decide (0 ≤ j) && decide (j ≤ 1000))) = true then some (.val (.int (i ^ j.toNat))) else none
theorem me_pow (ha : ME X W B a ma) (hb : ME X W B b mb) : ME X W B (.BinOp a .Pow b pos) (eOp2 fPow ma mb) :=
  me_bin op_powX (op2_IC _ _ _ (fun i j h => by
    simp only [Bool.and_eq_true, decide_eq_true_eq] at h
    obtain ⟨h1, h2, h3⟩ := h
    have b := bits_le (sz_lt h1)
    refine ⟨h2, ?_⟩
    have b' : (Builtin.Int.intBits i : Int) ≤ 4000 := by omega
    have : (Builtin.Int.intBits i : Int) * j ≤ 4000 * 1000 := Int.mul_le_mul b' h3 h2 (by decide)
    omega) fun _ _ _ _ => rfl) ha hb
end
/-! * -/
def fMulI : List Con → D → D → Option Er := fI2 fun i j => if (sz i && sz j) = true then some (.val (.int (i * j))) else none
def fMulL : List Con → D → D → Option Er := fun h x y => match asL h x, y with
  | some xs, .int k => if (decide (-(2 ^ 63) ≤ k) && (decide (k < 2 ^ 63) && decide (xs.length * k.toNat ≤ maxL))) = true then some (.new (.lst (List.replicate k.toNat xs).flatten)) else none
  | _, _ => none
theorem RlL.rep {E : RC} {H : Hp} {xs : List D} {us : List V} (h : RlL E H xs us) : ∀ k : Nat, RlL E H (List.replicate k xs).flatten (List.replicate k us).flatten
  | 0 => rfl
  | k + 1 => by
    rw [List.replicate_succ, List.replicate_succ, List.flatten_cons, List.flatten_cons]
    exact h.append (RlL.rep h k)
theorem o2_mulL {K : PySem.W.Frag} : Op2 K rRep fMulL := by
  intro E H h eK c d1 d2 x y r1 r2 er e Q q
  unfold fMulL at e
  split at e
  · rename_i xs k e1
    split at e
    · rename_i z
      cases e
      simp only [Bool.and_eq_true, decide_eq_true_eq] at z
      obtain ⟨a, us, rfl, h1, h2⟩ := asL_ok c r1 e1
      exact ⟨a, k, us, rfl, r2, h1, z.1, z.2.1, by rw [← h2.length]; exact maxL_le z.2.2, new_lst c (h2.rep _) q⟩
    · cases e
  · cases e
end MP

namespace MP
open PySem PySem.Spec PyProof.Rows L2

/-! data without cells -/
mutual
def D.py : D → Option PyData
  | .non => some .none
  | .bl b => some (.bool b)
  | .int i => some (.int i)
  | .str x => some (.str x)
  | .lst xs => (D.pyL xs).map .list
  | .tup xs => (D.pyL xs).map .tuple
  | .fz ns => some (.list (ns.map .int))
  | .dct _ _ => none
  | .ref _ => none
  | .glob _ => none
def D.pyL : List D → Option (List PyData)
  | [] => some []
  | d :: r => (D.py d).bind fun p => (D.pyL r).map (p :: ·)
end
def pyOf (h : List Con) : D → Option PyData
  | .ref n => match h[n]? with
    | some (.lst xs) => (D.pyL xs).map .list
    | _ => none
  | d => D.py d
theorem dp_ints {K : PySem.W.Frag} {H : Hp} : ∀ ns : List Int, DpAll K H (ns.map V.int) (ns.map PyData.int)
  | [] => .nil
  | n :: r => .cons (.int n) (dp_ints r)
mutual
theorem dp_of {E : RC} {H : Hp} : ∀ {d : D} {v : V} {p : PyData}, Rl E H d v → D.py d = some p → Dp E.K H v p
  | .non, v, p, r, e => by cases e; cases r; exact .non
  | .bl b, v, p, r, e => by cases e; cases r; exact .bl b
  | .int b, v, p, r, e => by cases e; cases r; exact .int b
  | .str b, v, p, r, e => by cases e; cases r; exact .str b
  | .lst xs, v, p, r, e => by
    obtain ⟨a, us, rfl, h1, _, h2⟩ := r
    simp only [D.py, Option.map_eq_some_iff] at e
    obtain ⟨ps, e, rfl⟩ := e
    exact .lst (SqL.of h1) (dp_all h2 e)
  | .tup xs, v, p, r, e => by
    obtain ⟨a, us, rfl, h1, h2⟩ := r
    simp only [D.py, Option.map_eq_some_iff] at e
    obtain ⟨ps, e, rfl⟩ := e
    exact .tup (SqT.of h1) (dp_all h2 e)
  | .fz ns, v, p, r, e => by
    obtain ⟨a, rfl, h⟩ := r
    cases e
    refine .lst (xs := ns.map V.int) ?_ (dp_ints ns)
    rcases h with ⟨o, h⟩ | h
    · exact .inl (.inr ⟨o, h⟩)
    · exact .inr h
  | .dct _ _, v, p, r, e => by cases e
  | .ref _, v, p, r, e => by cases e
  | .glob _, v, p, r, e => by cases e
theorem dp_all {E : RC} {H : Hp} : ∀ {ds : List D} {vs : List V} {ps : List PyData}, RlL E H ds vs → D.pyL ds = some ps → DpAll E.K H vs ps
  | [], vs, ps, r, e => by cases e; cases r; exact .nil
  | d :: ds, vs, ps, r, e => by
    obtain ⟨v, us, rfl, h1, h2⟩ := r
    simp only [D.pyL, Option.bind_eq_some_iff, Option.map_eq_some_iff] at e
    obtain ⟨p, e1, qs, e2, rfl⟩ := e
    exact .cons (dp_of h1 e1) (dp_all h2 e2)
end
theorem dp_pyOf {E : RC} {H : Hp} {h : List Con} {d : D} {v : V} {p : PyData} (c : Cl E H h) (r : Rl E H d v) (e : pyOf h d = some p) : Dp E.K H v p := by
  cases d with
  | ref n =>
    simp only [pyOf] at e
    split at e
    · rename_i xs q
      rw [Option.map_eq_some_iff] at e
      obtain ⟨ps, e, rfl⟩ := e
      obtain ⟨_, _, us, h1, h2⟩ := c.cell n _ q
      rw [r.2]
      exact .lst (SqL.of h1) (dp_all h2 e)
    · cases e
  | _ => exact dp_of r e

/-! comparisons -/
def fEq : List Con → D → D → Option Er := fun h x y => match pyOf h x, pyOf h y with
  | some p, some q => if (SeqAt.shaped p && SeqAt.shaped q) = true then vB (PyData.eqv p q) else none
  | _, _ => none
def fNe : List Con → D → D → Option Er := fun h x y => match pyOf h x, pyOf h y with
  | some p, some q => if (SeqAt.shaped p && SeqAt.shaped q) = true then vB (!PyData.eqv p q) else none
  | _, _ => none
theorem o2_eq {K : PySem.W.Frag} : Op2 K (rEqD K) fEq := by
  intro E H h eK c d1 d2 x y r1 r2 er e Q q
  unfold fEq at e
  split at e
  · rename_i p p' e1 e2
    split at e
    · rename_i z
      rw [Bool.and_eq_true] at z
      cases e
      exact ⟨p, p', eK ▸ dp_pyOf c r1 e1, eK ▸ dp_pyOf c r2 e2, z.1, z.2, q H _ (Grow.refl H) rfl⟩
    · cases e
  · cases e
theorem o2_ne {K : PySem.W.Frag} : Op2 K (rNeD K) fNe := by
  intro E H h eK c d1 d2 x y r1 r2 er e Q q
  unfold fNe at e
  split at e
  · rename_i p p' e1 e2
    split at e
    · rename_i z
      rw [Bool.and_eq_true] at z
      cases e
      exact ⟨p, p', eK ▸ dp_pyOf c r1 e1, eK ▸ dp_pyOf c r2 e2, z.1, z.2, q H _ (Grow.refl H) rfl⟩
    · cases e
  · cases e
def fLtS : List Con → D → D → Option Er
  | _, .str x, .str y => vB (decide (x.cps.toList < y.cps.toList))
  | _, _, _ => none
def fLt : List Con → D → D → Option Er := fun h x y => (fI2 (fun i j => some (.val (.bl (decide (i < j))))) h x y).or (fLtS h x y)
def fLe : List Con → D → D → Option Er := fI2 fun i j => some (.val (.bl (decide (i ≤ j))))
def fGt : List Con → D → D → Option Er := fI2 fun i j => some (.val (.bl (decide (j < i))))
def fGe : List Con → D → D → Option Er := fI2 fun i j => some (.val (.bl (decide (j ≤ i))))
theorem o2_ltS {K : PySem.W.Frag} : Op2 K (fun x y H Q => ∃ i j, x = .str i ∧ y = .str j ∧ Q (.bl (decide (i.cps.toList < j.cps.toList))) H) fLtS := by
  intro E H h eK c d1 d2 x y r1 r2 er e Q q
  cases d1 <;> cases d2 <;> first | (cases e; done) | skip
  rename_i a b
  cases e
  exact ⟨a, b, r1, r2, q H _ (Grow.refl H) rfl⟩
/-- is None; is True, is False -/
def D.isNon : D → Bool
  | .non => true
  | _ => false
def fIs : List Con → D → D → Option Er
  | _, .bl a, .bl b => vB (decide (a = b))
  | _, x, .non => vB x.isNon
  | _, _, _ => none
def fIsNot : List Con → D → D → Option Er
  | _, .bl a, .bl b => vB (!decide (a = b))
  | _, x, .non => vB (!x.isNon)
  | _, _, _ => none
theorem isNon_ok {E : RC} {H : Hp} {d : D} {v : V} (r : Rl E H d v) : decide (v = .non) = d.isNon := by
  cases d with
  | non => cases r; rfl
  | bl b => cases r; rfl
  | int b => cases r; rfl
  | str b => cases r; rfl
  | lst xs => obtain ⟨a, us, rfl, _⟩ := r; rfl
  | tup xs => obtain ⟨a, us, rfl, _⟩ := r; rfl
  | fz ns => obtain ⟨a, rfl, _⟩ := r; rfl
  | dct ks vs => obtain ⟨a, us, rfl, _⟩ := r; rfl
  | ref n => obtain ⟨_, rfl⟩ := r; rfl
  | glob x =>
    obtain ⟨u, _, rfl⟩ := r
    rfl
def rIsA : R2 := fun x y H Q => rIsB x y H Q ∨ (y = .non ∧ Q (.bl (decide (x = .non))) H)
def rNotA : R2 := fun x y H Q => rNotB x y H Q ∨ (y = .non ∧ Q (.bl (!decide (x = .non))) H)
theorem o2_is {K : PySem.W.Frag} : Op2 K rIsA fIs := by
  intro E H h eK c d1 d2 x y r1 r2 er e Q q
  unfold fIs at e
  split at e
  · cases e
    exact .inl ⟨_, _, r1, r2, q H _ (Grow.refl H) rfl⟩
  · cases e
    refine .inr ⟨r2, ?_⟩
    rw [isNon_ok r1]
    exact q H _ (Grow.refl H) rfl
  · cases e
theorem o2_isnot {K : PySem.W.Frag} : Op2 K rNotA fIsNot := by
  intro E H h eK c d1 d2 x y r1 r2 er e Q q
  unfold fIsNot at e
  split at e
  · cases e
    exact .inl ⟨_, _, r1, r2, q H _ (Grow.refl H) rfl⟩
  · cases e
    refine .inr ⟨r2, ?_⟩
    rw [isNon_ok r1]
    exact q H _ (Grow.refl H) rfl
  · cases e
/-! in -/
def D.scal : D → Bool
  | .non => true
  | .bl _ => true
  | .int _ => true
  | .str _ => true
  | _ => false
def D.eqs : D → D → Bool
  | .non, .non => true
  | .bl a, .bl b => a == b
  | .bl a, .int b => (if a then 1 else 0) == b
  | .int a, .bl b => a == (if b then 1 else 0)
  | .int a, .int b => a == b
  | .str a, .str b => a == b
  | _, _ => false
theorem scal_flat {E : RC} {H : Hp} {d : D} {v : V} (r : Rl E H d v) (s : d.scal = true) : flatV v = true := by
  cases d <;> first | (cases s; done) | (cases r; rfl)
theorem eqs_ok {E : RC} {H : Hp} {d e : D} {v u : V} (r : Rl E H d v) (r' : Rl E H e u) (s : d.scal = true) (s' : e.scal = true) : eqV v u = D.eqs d e := by
  cases d <;> first | (cases s; done) | skip
  all_goals cases e <;> first | (cases s'; done) | skip
  all_goals cases r; cases r'; rfl
/-- the items that 'in' looks at -/
def seqOf (h : List Con) : D → Option (List D)
  | .tup xs => some xs
  | d => asL h d
def fInW (neg : Bool) : List Con → D → D → Option Er := fun h x y => match seqOf h y with
  | some ys => if (x.scal && ys.all D.scal) = true then vB (if neg then !(ys.any fun z => D.eqs z x) else ys.any fun z => D.eqs z x) else none
  | none => none
theorem all_flat {E : RC} {H : Hp} : ∀ {ds : List D} {vs : List V}, RlL E H ds vs → ds.all D.scal = true → vs.all flatV = true
  | [], vs, r, _ => by cases r; rfl
  | d :: ds, vs, r, s => by
    obtain ⟨v, us, rfl, h1, h2⟩ := r
    simp only [List.all_cons, Bool.and_eq_true] at s
    rw [List.all_cons, scal_flat h1 s.1, all_flat h2 s.2]; rfl
theorem any_eqs {E : RC} {H : Hp} {x : D} {u : V} (rx : Rl E H x u) (sx : x.scal = true) : ∀ {ds : List D} {vs : List V}, RlL E H ds vs → ds.all D.scal = true → (vs.any fun y => eqV y u) = ds.any fun z => D.eqs z x
  | [], vs, r, _ => by cases r; rfl
  | d :: ds, vs, r, s => by
    obtain ⟨v, us, rfl, h1, h2⟩ := r
    simp only [List.all_cons, Bool.and_eq_true] at s
    rw [List.any_cons, List.any_cons, any_eqs rx sx h2 s.2, eqs_ok h1 rx s.1 sx]
end MP

namespace MP
open PySem PySem.Spec PyProof.Rows L2
theorem o2_in {K : PySem.W.Frag} (neg : Bool) : Op2 K (rIn K neg) (fInW neg) := by
  intro E H h eK c d1 d2 x y r1 r2 er e Q q
  unfold fInW at e
  split at e
  · rename_i ys e1
    split at e
    · rename_i z
      rw [Bool.and_eq_true] at z
      cases e
      have fin : ∀ (p : Addr) (us : List V), y = .ref p → (SqL K H p us ∨ SqT K H p us) → RlL E H ys us → rIn K neg x y H Q := by
        intro p us ey hs ru
        refine ⟨p, us, ey, hs, scal_flat r1 z.1, all_flat ru z.2, ?_⟩
        have h2 : inV x us = ys.any fun w => D.eqs w d1 := any_eqs r1 z.1 ru z.2
        rw [h2]
        exact q H _ (Grow.refl H) rfl
      unfold seqOf at e1
      split at e1
      · cases e1
        obtain ⟨a, us, e, h1, h2⟩ := r2
        exact fin a us e (.inr (SqT.of h1)) h2
      · obtain ⟨a, us, e, h1, h2⟩ := asL_ok c r2 e1
        exact fin a us e (.inl (SqL.of h1)) h2
    · cases e
  · cases e
/-! judgements of comparisons and tests -/
def eB (m : S → R Er) : S → R Bool := fun s => (m s).bind fun r s1 => match r.toD with
  | .bl b => .ok b s1
  | _ => .bad
/-- a value's truth -/
def truD (h : List Con) : D → Option Bool
  | .non => some false
  | .bl b => some b
  | .int i => some (i != 0)
  | .str x => if x.length ≤ maxL then some ((x.length : Int) != 0) else none
  | .tup xs => some (!xs.isEmpty)
  | d => (asL h d).map fun xs => !xs.isEmpty
def eTru (m : S → R Er) : S → R Bool := fun s => (m s).bind fun r s1 => opt (truD s1.h r.toD) s1
section
variable {K : PySem.W.Frag} {mg : Str → Option Value} {W : WX} {en : En} {B : List Nat} {al al1 : Nat → Addr} {s s1 : S} {σ : PSt} {H H0 H1 : Hp}
theorem t_B {m : S → R Er} {Q : Bool → Hp → Prop} (h : TTm K mg W en B (eB m) σ H Q) : TEm K mg W en B m σ H fun x H' => ∃ k, x = .bl k ∧ Q k H' := by
  obtain ⟨al, s, hs, hw⟩ := h
  refine T_sub hs hw fun r1 s1 al1 H1 x st1 mo1 e1 hw1 => ?_
  have e2 := e1.toD
  revert e2 hw1
  generalize r1.toD = d
  intro hw1 e2
  cases d with
  | bl b => exact ⟨b, e2, hw1 al1 H1 st1 (Mo.refl _ _)⟩
  | _ => exact hw1.elim
end
section
variable {X : Cx} {W : WX} {B : List Nat} {a b c : Expr} {ma mb mc : S → R Er} {pos : Pos}
theorem me_cmp {op : CmpOp} {r : R2} {f : List Con → D → D → Option Er} (ho : OpR X (compareOp op) r) (hf : Op2 X.K r f) (hm : behindInMarks op b = false) (ha : ME X W B a ma) (hb : ME X W B b mb) : ME X W B (.Compare a [op] [b] pos) (eOp2 f ma mb) :=
  ⟨fun en => pe_imp (pe_cmpR ho (ha.run en) (hb.run en) hm) fun _ _ _ h => t_op2 hf h⟩
theorem mt_cmp {op : CmpOp} {r : R2} {f : List Con → D → D → Option Er} (ho : OpR X (compareOp op) r) (hf : Op2 X.K r f) (hm : behindInMarks op b = false) (ha : ME X W B a ma) (hb : ME X W B b mb) : MT X W B (.Compare a [op] [b] pos) (eB (eOp2 f ma mb)) :=
  ⟨fun en => pt_imp (pt_cmpR ho (ha.run en) (hb.run en) hm) fun _ _ _ h => t_op2 hf (t_B h)⟩
/-- what a comparison of one operator is -/
structure CmpK (X : Cx) (op : CmpOp) (f : List Con → D → D → Option Er) : Prop where
  ex : ∃ r, OpR X (compareOp op) r ∧ Op2 X.K r f
theorem ck_eq (hu : X.A.units + 64 < cLine) : CmpK X .Eq fEq := ⟨_, op_eqD hu, o2_eq⟩
theorem ck_ne (hu : X.A.units + 64 < cLine) : CmpK X .NotEq fNe := ⟨_, op_neD hu, o2_ne⟩
theorem ck_lt : CmpK X .Lt fLt := ⟨_, OpR.or op_lt op_lt_str, Op2.or (op2_I0 _ _ fun _ _ _ _ => rfl) o2_ltS⟩
theorem ck_le : CmpK X .LtE fLe := ⟨_, op_le, op2_I0 _ _ fun _ _ _ _ => rfl⟩
theorem ck_gt : CmpK X .Gt fGt := ⟨_, op_gt, op2_I0 _ _ fun _ _ _ _ => rfl⟩
theorem ck_ge : CmpK X .GtE fGe := ⟨_, op_ge, op2_I0 _ _ fun _ _ _ _ => rfl⟩
theorem ck_is : CmpK X .Is fIs := ⟨rIsA, OpR.or op_isBl op_isN, o2_is⟩
theorem ck_isnot : CmpK X .IsNot fIsNot := ⟨rNotA, OpR.or op_notBl op_notN, o2_isnot⟩
theorem ck_in : CmpK X .In (fInW false) := ⟨_, op_in_seq, o2_in false⟩
theorem ck_notin : CmpK X .NotIn (fInW true) := ⟨_, op_notIn_seq, o2_in true⟩
theorem me_ck {op : CmpOp} {f : List Con → D → D → Option Er} (k : CmpK X op f) (ha : ME X W B a ma) (hb : ME X W B b mb) (hm : behindInMarks op b = false := by first | exact nomark _ | with_unfolding_all rfl) : ME X W B (.Compare a [op] [b] pos) (eOp2 f ma mb) := by
  obtain ⟨r, h1, h2⟩ := k.ex
  exact me_cmp h1 h2 hm ha hb
theorem mt_ck {op : CmpOp} {f : List Con → D → D → Option Er} (k : CmpK X op f) (ha : ME X W B a ma) (hb : ME X W B b mb) (hm : behindInMarks op b = false := by first | exact nomark _ | with_unfolding_all rfl) : MT X W B (.Compare a [op] [b] pos) (eB (eOp2 f ma mb)) := by
  obtain ⟨r, h1, h2⟩ := k.ex
  exact mt_cmp h1 h2 hm ha hb
/-- a op b op' c -/
def eCh (f f' : List Con → D → D → Option Er) (ma mb mc : S → R Er) : S → R Er := fun s => (ma s).bind fun r1 s1 => (mb s1).bind fun r2 s2 => match f s2.h r1.toD r2.toD with
  | some (.val (.bl true)) => (mc s2).bind fun r3 s3 => opt (f' s3.h r2.toD r3.toD) s3
  | some (.val (.bl false)) => .ok (.val (.bl false)) s2
  | _ => .bad
theorem t_ch {K : PySem.W.Frag} {mg : Str → Option Value} {W : WX} {en : En} {B : List Nat} {σ : PSt} {H : Hp} {r r' : R2} {f f' : List Con → D → D → Option Er} (hf : Op2 K r f) (hf' : Op2 K r' f') {Q : VK} (h : TEm K mg W en B (eCh f f' ma mb mc) σ H Q) :
    tChain r r' (TEm K mg W en B ma) (TEm K mg W en B mb) (TEm K mg W en B mc) σ H Q := by
  obtain ⟨al, s, hs, hw⟩ := h
  refine T_sub hs hw fun r1 s1 al1 H1 x st1 mo1 e1 hw1 => T_sub st1 hw1 fun r2 s2 al2 H2 y st2 mo2 e2 hw2 => ?_
  have x2 := e1.toD.mo mo2
  cases q : f s2.h r1.toD r2.toD with
  | none => rw [q] at hw2; exact hw2.elim
  | some er =>
    rw [q] at hw2
    refine hf _ H2 s2.h rfl st2.cl _ _ x y x2 e2.toD er q _ fun H3 z g rz => ?_
    have st3 := st2.grow g
    have hw3 := hw2.rebase (al1 := al2) (s1 := s2) (H1 := H3) g.mo
    split at hw3
    · rename_i b' e'
      cases e'
      refine ⟨true, rz, ?_⟩
      rw [if_pos rfl]
      refine T_sub st3 hw3 fun r3 s4 al4 H4 w st4 mo4 e4 hw4 => ?_
      obtain ⟨er, ho, hq⟩ := wp_opt st4 (fun a z => mo1.dom a (mo2.dom a (g.dom a (mo4.dom a z)))) hw4
      exact hf' _ H4 s4.h rfl st4.cl _ _ y w ((e2.toD.mo g.mo).mo mo4) e4.toD er ho Q hq
    · rename_i b' e'
      cases e'
      refine ⟨false, rz, ?_⟩
      rw [if_neg Bool.false_ne_true]
      exact hw3 al2 H3 st3 (Mo.refl _ _) _ rfl
    · exact hw3.elim
theorem me_chain {op op' : CmpOp} {f f' : List Con → D → D → Option Er} (k : CmpK X op f) (k' : CmpK X op' f') (ha : ME X W B a ma) (hb : ME X W B b mb) (hc : ME X W B c mc) (hm : lastMarks [op, op'] [b, c] = false := by with_unfolding_all rfl) :
    ME X W B (.Compare a [op, op'] [b, c] pos) (eCh f f' ma mb mc) := by
  obtain ⟨r, h1, h2⟩ := k.ex
  obtain ⟨r', h1', h2'⟩ := k'.ex
  exact ⟨fun en => pe_imp (pe_chain h1 h1' (ha.run en) (hb.run en) (hc.run en) hm) fun _ _ _ h => t_ch h2 h2' h⟩
theorem mt_chain {op op' : CmpOp} {f f' : List Con → D → D → Option Er} (k : CmpK X op f) (k' : CmpK X op' f') (ha : ME X W B a ma) (hb : ME X W B b mb) (hc : ME X W B c mc) (hm : lastMarks [op, op'] [b, c] = false := by with_unfolding_all rfl) :
    MT X W B (.Compare a [op, op'] [b, c] pos) (eB (eCh f f' ma mb mc)) := by
  obtain ⟨r, h1, h2⟩ := k.ex
  obtain ⟨r', h1', h2'⟩ := k'.ex
  exact ⟨fun en => pt_imp (pt_chain h1 h1' (ha.run en) (hb.run en) (hc.run en) hm) fun _ _ _ h => t_ch h2 h2' (t_B h)⟩
/-! truth of any value -/
theorem tru_okD {E : RC} {H : Hp} {h : List Con} {d : D} {v : V} {k : Bool} (c : Cl E H h) (r : Rl E H d v) (e : truD h d = some k) : TruV E.K v H k := by
  cases d with
  | non => cases e; cases r; exact rfl
  | bl b => cases e; cases r; exact rfl
  | int b => cases e; cases r; exact rfl
  | str x =>
    simp only [truD] at e
    split at e
    · rename_i z; cases e; cases r; exact ⟨maxL_le z, rfl⟩
    · cases e
  | tup xs =>
    obtain ⟨a, us, rfl, h1, h2⟩ := r
    cases e
    refine .inr (.inl ⟨us, SqT.of h1, ?_⟩)
    cases xs with
    | nil => cases h2; rfl
    | cons _ _ => obtain ⟨v, r, rfl, _⟩ := h2; rfl
  | lst xs =>
    simp only [truD, Option.map_eq_some_iff] at e
    obtain ⟨ys, e1, rfl⟩ := e
    obtain ⟨a, us, rfl, h1, h2⟩ := asL_ok c r e1
    refine .inl ⟨us, SqL.of h1, ?_⟩
    cases ys with
    | nil => cases h2; rfl
    | cons _ _ => obtain ⟨v, r, rfl, _⟩ := h2; rfl
  | ref n =>
    simp only [truD, Option.map_eq_some_iff] at e
    obtain ⟨ys, e1, rfl⟩ := e
    obtain ⟨a, us, rfl, h1, h2⟩ := asL_ok c r e1
    refine .inl ⟨us, SqL.of h1, ?_⟩
    cases ys with
    | nil => cases h2; rfl
    | cons _ _ => obtain ⟨v, r, rfl, _⟩ := h2; rfl
  | fz ns => cases e
  | dct ks vs => cases e
  | glob x => cases e
/-- a name, a call, a subscript, a field as a test -/
theorem mt_truth (ha : ME X W B a ma) (he : ∀ whole, isTrue a X.env whole = (do let v ← whole; standAt a.pos; holding [v] (truthy v)) := by intro _; rfl) : MT X W B a (eTru ma) :=
  ⟨fun en => pt_imp (pt_truth (ha.run en) he) fun σ H Q h => by
    obtain ⟨al, s, hs, hw⟩ := h
    refine T_sub hs hw fun r1 s1 al1 H1 x st1 mo1 e1 hw1 => ?_
    cases q : truD s1.h r1.toD with
    | none => rw [q] at hw1; exact hw1.elim
    | some k => rw [q] at hw1; exact ⟨k, tru_okD st1.cl e1.toD q, hw1 al1 H1 st1 (Mo.refl _ _)⟩⟩
/-- a test whose value is known to be a bool -/
theorem mt_val (ha : ME X W B a ma) (he : ∀ whole, isTrue a X.env whole = (do let v ← whole; standAt a.pos; holding [v] (truthy v)) := by intro _; rfl) : MT X W B a (eB ma) :=
  ⟨fun en => pt_imp (pt_val (ha.run en) he) fun σ H Q h => t_B h⟩
/-! and, or, not -/
def eAnd (a b : S → R Bool) : S → R Bool := fun s => (a s).bind fun k s1 => if k = true then b s1 else .ok false s1
def eOr (a b : S → R Bool) : S → R Bool := fun s => (a s).bind fun k s1 => if k = true then .ok true s1 else b s1
def eNot (a : S → R Bool) : S → R Bool := fun s => (a s).bind fun k s1 => .ok (!k) s1
structure MW (X : Cx) (W : WX) (B : List Nat) (e : Expr) (m : S → R Bool) : Prop where
  run : ∀ en, PW X e (TTm X.K X.mg W en B m)
theorem pw_imp {X : Cx} {e : Expr} {t t' : TT} (h : PW X e t) (i : ∀ σ H Q, t' σ H Q → t σ H Q) : PW X e t' := ⟨fun wh pins s σ H Q I q => h.run wh pins s σ H Q I (i σ H Q q)⟩
variable {ta tb : S → R Bool} {rest : List Expr}
theorem t_and {K : PySem.W.Frag} {mg : Str → Option Value} {W : WX} {en : En} {B : List Nat} {σ : PSt} {H : Hp} {Q : Bool → Hp → Prop} (h : TTm K mg W en B (eAnd ta tb) σ H Q) : tAnd (TTm K mg W en B ta) (TTm K mg W en B tb) σ H Q := by
  obtain ⟨al, s, hs, hw⟩ := h
  refine TT_sub hs hw fun k s1 al1 H1 st1 mo1 hw1 => ?_
  cases k with
  | true => rw [if_pos rfl] at hw1; rw [if_pos rfl]; exact ⟨al1, s1, st1, hw1⟩
  | false => rw [if_neg Bool.false_ne_true] at hw1; rw [if_neg Bool.false_ne_true]; exact hw1 al1 H1 st1 (Mo.refl _ _)
theorem t_or {K : PySem.W.Frag} {mg : Str → Option Value} {W : WX} {en : En} {B : List Nat} {σ : PSt} {H : Hp} {Q : Bool → Hp → Prop} (h : TTm K mg W en B (eOr ta tb) σ H Q) : tOr (TTm K mg W en B ta) (TTm K mg W en B tb) σ H Q := by
  obtain ⟨al, s, hs, hw⟩ := h
  refine TT_sub hs hw fun k s1 al1 H1 st1 mo1 hw1 => ?_
  cases k with
  | true => rw [if_pos rfl] at hw1; rw [if_pos rfl]; exact hw1 al1 H1 st1 (Mo.refl _ _)
  | false => rw [if_neg Bool.false_ne_true] at hw1; rw [if_neg Bool.false_ne_true]; exact ⟨al1, s1, st1, hw1⟩
theorem mw_and1 (ha : MT X W B a ta) : MW X W B (.BoolOp .And [a] pos) ta := ⟨fun en => pw_and1 (ha.run en)⟩
theorem mw_or1 (ha : MT X W B a ta) : MW X W B (.BoolOp .Or [a] pos) ta := ⟨fun en => pw_or1 (ha.run en)⟩
theorem mw_and (ha : MT X W B a ta) (hb : MW X W B (.BoolOp .And (b :: rest) pos) tb) : MW X W B (.BoolOp .And (a :: b :: rest) pos) (eAnd ta tb) := ⟨fun en => pw_imp (pw_and (ha.run en) (hb.run en)) fun _ _ _ h => t_and h⟩
theorem mw_or (ha : MT X W B a ta) (hb : MW X W B (.BoolOp .Or (b :: rest) pos) tb) : MW X W B (.BoolOp .Or (a :: b :: rest) pos) (eOr ta tb) := ⟨fun en => pw_imp (pw_or (ha.run en) (hb.run en)) fun _ _ _ h => t_or h⟩
theorem mt_w (h : MW X W B a ta) : MT X W B a ta := ⟨fun en => (h.run en).pt⟩
theorem mt_not (ha : MT X W B a ta) : MT X W B (.UnaryOp .Not a pos) (eNot ta) := ⟨fun en => pt_imp (pt_not (ha.run en)) fun σ H Q h => by
  obtain ⟨al, s, hs, hw⟩ := h
  exact TT_sub hs hw fun k s1 al1 H1 st1 mo1 hw1 => hw1 al1 H1 st1 (Mo.refl _ _)⟩
/-- .. as values -/
def eAndV (a b : S → R Er) : S → R Er := fun s => (eB a s).bind fun k s1 => if k = true then b s1 else .ok (.val (.bl false)) s1
def eOrV (a b : S → R Er) : S → R Er := fun s => (eB a s).bind fun k s1 => if k = true then .ok (.val (.bl true)) s1 else b s1
def eNotV (a : S → R Er) : S → R Er := fun s => (eB a s).bind fun k s1 => .ok (.val (.bl (!k))) s1
theorem t_Bv {K : PySem.W.Frag} {mg : Str → Option Value} {W : WX} {en : En} {B : List Nat} {al : Nat → Addr} {s : S} {σ : PSt} {H : Hp} {β : Type} {m : S → R Er} {f : Bool → S → R β} {Kk : β → S → (Nat → Addr) → Hp → Prop} {Q : V → Hp → Prop} (hs : Sm K mg en al s σ H)
    (hw : Wp K mg W en B al s σ H ((eB m s).bind f) Kk)
    (hk : ∀ k s1 al1 H1, Sm K mg en al1 s1 σ H1 → Mo (rc K mg en B al s σ) H (rc K mg en B al1 s1 σ) H1 → Wp K mg W en B al1 s1 σ H1 (f k s1) Kk → Q (.bl k) H1) : TEm K mg W en B m σ H Q := by
  refine ⟨al, s, hs, ?_⟩
  unfold eB at hw
  revert hw
  cases m s with
  | ok r s1 =>
    intro hw al1 H1 st mo v hv
    have e2 := hv.toD
    revert hw e2
    simp only [R.bind]
    generalize r.toD = d
    intro hw e2
    cases d with
    | bl b =>
      cases e2
      exact hk b s1 al1 H1 st mo (hw.rebase mo)
    | _ => exact hw.elim
  | ex e s1 => exact fun hw => hw
  | bad => exact fun hw => hw
theorem me_one {op} (h : ME X W B a ma) : ME X W B (.BoolOp op [a] pos) ma := ⟨fun en => pe_one (h.run en)⟩
theorem me_and (ha : ME X W B a ma) (hb : ME X W B (.BoolOp .And (b :: rest) pos) mb) : ME X W B (.BoolOp .And (a :: b :: rest) pos) (eAndV ma mb) := ⟨fun en => pe_imp (pe_and (ha.run en) (hb.run en)) fun σ H Q h => by
  obtain ⟨al, s, hs, hw⟩ := h
  refine t_Bv hs hw fun k s1 al1 H1 st1 mo1 hw1 => ⟨k, rfl, ?_⟩
  cases k with
  | true => rw [if_pos rfl] at hw1; rw [if_pos rfl]; exact ⟨al1, s1, st1, hw1.imp fun r s' al' H' h v e => h v (e.back fun a z => mo1.dom a z)⟩
  | false => rw [if_neg Bool.false_ne_true] at hw1; rw [if_neg Bool.false_ne_true]; exact hw1 al1 H1 st1 (Mo.refl _ _) _ rfl⟩
theorem me_or (ha : ME X W B a ma) (hb : ME X W B (.BoolOp .Or (b :: rest) pos) mb) : ME X W B (.BoolOp .Or (a :: b :: rest) pos) (eOrV ma mb) := ⟨fun en => pe_imp (pe_or (ha.run en) (hb.run en)) fun σ H Q h => by
  obtain ⟨al, s, hs, hw⟩ := h
  refine t_Bv hs hw fun k s1 al1 H1 st1 mo1 hw1 => ⟨k, rfl, ?_⟩
  cases k with
  | true => rw [if_pos rfl] at hw1; rw [if_pos rfl]; exact hw1 al1 H1 st1 (Mo.refl _ _) _ rfl
  | false => rw [if_neg Bool.false_ne_true] at hw1; rw [if_neg Bool.false_ne_true]; exact ⟨al1, s1, st1, hw1.imp fun r s' al' H' h v e => h v (e.back fun a z => mo1.dom a z)⟩⟩
theorem me_not (ha : ME X W B a ma) : ME X W B (.UnaryOp .Not a pos) (eNotV ma) := ⟨fun en => pe_imp (pe_not (ha.run en)) fun σ H Q h => by
  obtain ⟨al, s, hs, hw⟩ := h
  exact t_Bv hs hw fun k s1 al1 H1 st1 mo1 hw1 => ⟨k, rfl, hw1 al1 H1 st1 (Mo.refl _ _) _ rfl⟩⟩
/-- a if t else b -/
def eIf (t : S → R Bool) (a b : S → R Er) : S → R Er := fun s => (t s).bind fun k s1 => if k = true then a s1 else b s1
theorem me_if (ht : MT X W B c ta) (ha : ME X W B a ma) (hb : ME X W B b mb) : ME X W B (.IfExp c a b pos) (eIf ta ma mb) := ⟨fun en => pe_imp (pe_ifExp (ht.run en) (ha.run en) (hb.run en)) fun σ H Q h => by
  obtain ⟨al, s, hs, hw⟩ := h
  refine TT_sub hs hw fun k s1 al1 H1 st1 mo1 hw1 => ?_
  cases k with
  | true => rw [if_pos rfl] at hw1; rw [if_pos rfl]; exact ⟨al1, s1, st1, hw1.imp fun r s' al' H' h v e => h v (e.back fun a z => mo1.dom a z)⟩
  | false => rw [if_neg Bool.false_ne_true] at hw1; rw [if_neg Bool.false_ne_true]; exact ⟨al1, s1, st1, hw1.imp fun r s' al' H' h v e => h v (e.back fun a z => mo1.dom a z)⟩⟩
/-! -a -/
def fNeg : List Con → D → Option Er
  | _, .int i => vI (-i)
  | _, _ => none
theorem me_neg (ha : ME X W B a ma) : ME X W B (.UnaryOp .USub a pos) (eOp1 fNeg ma) := ⟨fun en => pe_imp (pe_un un_neg (ha.run en)) fun σ H Q h => t_op1 (fun E H h eK c d x r er e Q q => by
  cases d <;> first | (cases e; done) | skip
  cases e
  exact ⟨_, r, q H _ (Grow.refl H) rfl⟩) h⟩
theorem me_mul (ha : ME X W B a ma) (hb : ME X W B b mb) : ME X W B (.BinOp a .Mult b pos) (eOp2 (fun h x y => (fMulI h x y).or (fMulL h x y)) ma mb) :=
  me_bin (OpR.or op_mulX op_rep) (Op2.or (op2_IC _ _ _ (fun i j h => by
    rw [Bool.and_eq_true] at h
    exact mulx_ok (sz_lt h.1) (sz_lt h.2) (by decide)) fun _ _ _ _ => rfl) o2_mulL) ha hb
end
end MP

namespace MP
open PySem PySem.Spec PyProof.Rows L2
/-! subscripts -/
def chD (c : Nat) : D := .str ⟨#[c]⟩
def fIx : List Con → D → D → Option Er := fun h x i => match i with
  | .int k => match x with
    | .tup xs => (atI xs k).map Er.val
    | .str z => if z.length ≤ maxL then (atI z.cps.toList k).map fun c => .val (chD c) else none
    | .fz ns => (atI ns k).map fun n => .val (.int n)
    | d => (asL h d).bind fun xs => (atI xs k).map Er.val
  | _ => none
theorem atI_rl {E : RC} {H : Hp} {ds : List D} {vs : List V} {k : Int} {d : D} (r : RlL E H ds vs) (e : atI ds k = some d) : ∃ v, atI vs k = some v ∧ Rl E H d v := by
  unfold atI at e ⊢
  rw [← r.length]
  rw [Option.bind_eq_some_iff] at e
  obtain ⟨j, e1, e2⟩ := e
  obtain ⟨v, h1, h2⟩ := r.get e2
  exact ⟨v, by rw [e1]; exact h1, h2⟩
theorem atI_map {α β : Type} (f : α → β) (xs : List α) (k : Int) : atI (xs.map f) k = (atI xs k).map f := by
  unfold atI
  rw [List.length_map]
  cases ixN xs.length k with
  | none => rfl
  | some j => simp
theorem o2_ix {K : PySem.W.Frag} : Op2 K (rIx K) fIx := by
  intro E H h eK c d1 d2 x y r1 r2 er e Q q
  unfold fIx at e
  split at e
  · rename_i i k
    split at e
    · rename_i xs
      rw [Option.map_eq_some_iff] at e
      obtain ⟨d, e, rfl⟩ := e
      obtain ⟨a, us, rfl, h1, h2⟩ := r1
      obtain ⟨v, e3, r3⟩ := atI_rl h2 e
      exact .inr (.inl ⟨a, us, k, v, rfl, r2, SqT.of h1, e3, q H _ (Grow.refl H) r3⟩)
    · rename_i z
      split at e
      · rename_i hz
        rw [Option.map_eq_some_iff] at e
        obtain ⟨d, e, rfl⟩ := e
        exact .inr (.inr ⟨z, k, d, r1, r2, maxL_le hz, e, q H _ (Grow.refl H) rfl⟩)
      · cases e
    · rename_i ns
      rw [Option.map_eq_some_iff] at e
      obtain ⟨d, e, rfl⟩ := e
      obtain ⟨a, rfl, hh⟩ := r1
      refine .inl ⟨a, ns.map V.int, k, .int d, rfl, r2, ?_, by rw [atI_map, e]; rfl, q H _ (Grow.refl H) rfl⟩
      rw [← eK]
      rcases hh with ⟨o, hh⟩ | hh
      · exact .inl (.inr ⟨o, hh⟩)
      · exact .inr hh
    · rw [Option.bind_eq_some_iff] at e
      obtain ⟨xs, e1, e⟩ := e
      rw [Option.map_eq_some_iff] at e
      obtain ⟨d, e, rfl⟩ := e
      obtain ⟨a, us, rfl, h1, h2⟩ := asL_ok c r1 e1
      obtain ⟨v, e3, r3⟩ := atI_rl h2 e
      exact .inl ⟨a, us, k, v, rfl, r2, SqL.of h1, e3, q H _ (Grow.refl H) r3⟩
  · cases e
/-! slices -/
def cutD (xs : List D) (lo hi : Option Int) : List D := (xs.drop (HT.sIx xs.length 0 lo)).take (HT.sIx xs.length xs.length hi - HT.sIx xs.length 0 lo)
theorem cut_rl {E : RC} {H : Hp} {ds : List D} {vs : List V} (r : RlL E H ds vs) (lo hi : Option Int) : RlL E H (cutD ds lo hi) (cutV vs lo hi) := by
  unfold cutD cutV
  rw [r.length]
  exact (r.drop _).take _

section
variable (K : PySem.W.Frag) (mg : Str → Option Value) (W : WX)
def TOm (en : En) (B : List Nat) (m : S → R (Option Int)) : TO := fun σ H Q => ∃ al s, Sm K mg en al s σ H ∧
  Wp K mg W en B al s σ H (m s) (fun o s' al' H' => Q o H')
end
structure MO (X : Cx) (W : WX) (B : List Nat) (e : Option Expr) (m : S → R (Option Int)) : Prop where
  run : ∀ en, PO X e (TOm X.K X.mg W en B m)
def eNoP : S → R (Option Int) := fun s => .ok none s
def eP (m : S → R Er) : S → R (Option Int) := fun s => (m s).bind fun r s1 => match r.toD with
  | .int i => .ok (some i) s1
  | _ => .bad
theorem po_imp {X : Cx} {e : Option Expr} {t t' : TO} (h : PO X e t) (i : ∀ σ H Q, t' σ H Q → t σ H Q) : PO X e t' := ⟨fun pins s σ H Q I q => h.run pins s σ H Q I (i σ H Q q)⟩
section
variable {K : PySem.W.Frag} {mg : Str → Option Value} {W : WX} {en : En} {B : List Nat} {al al1 : Nat → Addr} {s s1 : S} {σ : PSt} {H H0 H1 : Hp}
theorem TO_sub {β : Type} {m : S → R (Option Int)} {f : Option Int → S → R β} {Kk : β → S → (Nat → Addr) → Hp → Prop} {Q : Option Int → Hp → Prop} (hs : Sm K mg en al s σ H) (hw : Wp K mg W en B al s σ H ((m s).bind f) Kk)
    (hk : ∀ r s1 al1 H1, Sm K mg en al1 s1 σ H1 → Mo (rc K mg en B al s σ) H (rc K mg en B al1 s1 σ) H1 → Wp K mg W en B al1 s1 σ H1 (f r s1) Kk → Q r H1) : TOm K mg W en B m σ H Q := by
  refine ⟨al, s, hs, ?_⟩
  revert hw
  cases m s with
  | ok r s1 => exact fun hw al1 H1 st1 mo => hk r s1 al1 H1 st1 mo (hw.rebase mo)
  | ex e s1 => exact fun hw => hw
  | bad => exact fun hw => hw
end
def fSl : List Con → D → Option Int → Option Int → Option Er := fun h x lo hi => match x with
  | .tup xs => some (.val (.tup (cutD xs lo hi)))
  | .str z => if z.length ≤ maxL then some (.val (.str (cutS z lo hi))) else none
  | d => (asL h d).map fun xs => .new (.lst (cutD xs lo hi))
def eSl (ma : S → R Er) (ml mh : S → R (Option Int)) : S → R Er := fun s => (ma s).bind fun r1 s1 => (ml s1).bind fun lo s2 => (mh s2).bind fun hi s3 => opt (fSl s3.h r1.toD lo hi) s3
def rSl (K : PySem.W.Frag) : V → Option Int → Option Int → Hp → VK → Prop := fun x lo hi H Q => rSlL K x lo hi H Q ∨ (rSlA K x lo hi H Q ∨ rSlS x lo hi H Q)
theorem cutV_whole {xs : List V} {lo hi : Option Int} (h : HT.sIx xs.length 0 lo = 0 ∧ HT.sIx xs.length xs.length hi = xs.length) : cutV xs lo hi = xs := by
  unfold cutV
  rw [h.1, h.2]
  simp
theorem cutD_whole {xs : List D} {lo hi : Option Int} (h : HT.sIx xs.length 0 lo = 0 ∧ HT.sIx xs.length xs.length hi = xs.length) : cutD xs lo hi = xs := by
  unfold cutD
  rw [h.1, h.2]
  simp
theorem sl_okD {K : PySem.W.Frag} (E : RC) (H : Hp) (h : List Con) (eK : E.K = K) (c : Cl E H h) (d1 : D) (lo hi : Option Int) (x : V) (r1 : Rl E H d1 x) (er : Er) (e : fSl h d1 lo hi = some er)
    (Q : VK) (q : ∀ H' v, Grow H H' → ErR E H H' er v → Q v H') : rSl K x lo hi H Q := by
  unfold fSl at e
  split at e
  · rename_i xs
    cases e
    obtain ⟨a, us, rfl, h1, h2⟩ := r1
    refine .inr (.inl ⟨a, us, rfl, SqT.of h1, fun hw => ?_, fun _ => new_tup (cut_rl h2 lo hi) q⟩)
    refine q H _ (Grow.refl H) ⟨a, us, rfl, h1, ?_⟩
    rw [cutD_whole (by rw [h2.length]; exact hw)]
    exact h2
  · split at e
    · rename_i z hz
      cases e
      exact .inr (.inr ⟨_, r1, maxL_le hz, q H _ (Grow.refl H) rfl⟩)
    · cases e
  · rw [Option.map_eq_some_iff] at e
    obtain ⟨xs, e1, rfl⟩ := e
    obtain ⟨a, us, rfl, h1, h2⟩ := asL_ok c r1 e1
    exact .inl ⟨a, us, rfl, SqL.of h1, new_lst c (cut_rl h2 lo hi) q⟩
section
variable {X : Cx} {W : WX} {B : List Nat} {a b c : Expr} {ma mb mc : S → R Er} {ml mh : S → R (Option Int)} {lo hi : Option Expr} {pos p2 : Pos}
theorem me_ix (ha : ME X W B a ma) (hb : ME X W B b mb) (hs : PlainIx b := by intro _ _; rfl) : ME X W B (.Subscript a b pos) (eOp2 fIx ma mb) :=
  ⟨fun en => pe_imp (pe_ix ix_seq (ha.run en) (hb.run en) hs) fun _ _ _ h => t_op2 o2_ix h⟩
theorem mo_none : MO X W B none eNoP := ⟨fun en => po_imp po_none fun σ H Q ⟨al, s, hs, hw⟩ => hw al H hs (Mo.refl _ _)⟩
theorem mo_some (ha : ME X W B a ma) : MO X W B (some a) (eP ma) := ⟨fun en => po_imp (po_some (ha.run en)) fun σ H Q ⟨al, s, hs, hw⟩ => T_sub hs hw fun r1 s1 al1 H1 x st1 mo1 e1 hw1 => by
  have e2 := e1.toD
  revert e2 hw1
  generalize r1.toD = d
  intro hw1 e2
  cases d with
  | int i => exact ⟨i, e2, hw1 al1 H1 st1 (Mo.refl _ _)⟩
  | _ => exact hw1.elim⟩
theorem me_sl (ha : ME X W B a ma) (hl : MO X W B lo ml) (hh : MO X W B hi mh) : ME X W B (.Subscript a (.Slice lo hi none p2) pos) (eSl ma ml mh) :=
  ⟨fun en => pe_imp (pe_slice (SlR.or sl_list (SlR.or sl_tupA sl_str)) (ha.run en) (hl.run en) (hh.run en)) fun σ H Q ⟨al, s, hs, hw⟩ =>
    T_sub hs hw fun r1 s1 al1 H1 x st1 mo1 e1 hw1 => TO_sub st1 hw1 fun l s2 al2 H2 st2 mo2 hw2 => TO_sub st2 hw2 fun u s3 al3 H3 st3 mo3 hw3 => by
      obtain ⟨er, ho, hq⟩ := wp_opt st3 (fun a z => mo1.dom a (mo2.dom a (mo3.dom a z))) hw3
      exact sl_okD _ H3 s3.h rfl st3.cl _ l u x ((e1.toD.mo mo2).mo mo3) er ho Q hq⟩
/-! arguments, displays -/
def eNil : S → R (List D) := fun s => .ok [] s
def eCons (m : S → R Er) (ms : S → R (List D)) : S → R (List D) := fun s => (m s).bind fun r s1 => (ms s1).bind fun rs s2 => .ok (r.toD :: rs) s2
variable {es : List Expr} {ms : S → R (List D)}
theorem ma_nil : MA X W B [] eNil := ⟨fun en => pa_imp pa_nil fun σ H Q ⟨al, s, hs, hw⟩ => hw al H hs (Mo.refl _ _) [] rfl⟩
theorem ma_cons (ha : ME X W B a ma) (hr : MA X W B es ms) (hs : starEach (a :: es) X.env = (false, eval a X.env) :: starEach es X.env := by rfl) : MA X W B (a :: es) (eCons ma ms) :=
  ⟨fun en => pa_imp (pa_cons (ha.run en) (hr.run en) hs) fun σ H Q ⟨al, s, hs, hw⟩ => T_sub hs hw fun r1 s1 al1 H1 x st1 mo1 e1 hw1 => TA_sub st1 hw1 fun r2 s2 al2 H2 xs st2 mo2 e2 hw2 =>
    hw2 al2 H2 st2 (Mo.refl _ _) (x :: xs) ⟨x, xs, rfl, e1.toD.mo mo2, e2⟩⟩
def eTup (ms : S → R (List D)) : S → R Er := fun s => (ms s).bind fun rs s1 => if rs.length ≤ maxL then .ok (.val (.tup rs)) s1 else .bad
def eLst (ms : S → R (List D)) : S → R Er := fun s => (ms s).bind fun rs s1 => if rs.length ≤ maxL then .ok (.new (.lst rs)) s1 else .bad
theorem me_tup {x1} (h : MA X W B es ms) : ME X W B (.Tuple es x1 pos) (eTup ms) := ⟨fun en => pe_imp (pe_tup (h.run en)) fun σ H Q ⟨al, s, hs, hw⟩ => TA_sub hs hw fun r s1 al1 H1 xs st1 mo1 e1 hw1 => by
  split at hw1
  · rename_i z
    exact ⟨by rw [← e1.length]; exact maxL_le z, new_tup e1 fun H' v g e => hw1 al1 H' (st1.grow g) g.mo v ((ErR.made st1 g e).back fun a z => mo1.dom a z)⟩
  · exact hw1.elim⟩
theorem me_lst (h : MA X W B es ms) : ME X W B (.List es pos) (eLst ms) := ⟨fun en => pe_imp (pe_lst (h.run en)) fun σ H Q ⟨al, s, hs, hw⟩ => TA_sub hs hw fun r s1 al1 H1 xs st1 mo1 e1 hw1 => by
  split at hw1
  · rename_i z
    exact ⟨by rw [← e1.length]; exact maxL_le z, new_lst st1.cl e1 fun H' v g e => hw1 al1 H' (st1.grow g) g.mo v ((ErR.made st1 g e).back fun a z => mo1.dom a z)⟩
  · exact hw1.elim⟩
/-! built-in functions -/
variable {x : Str} {id T : String} {r : List V → Hp → VK → Prop} {f : List Con → List D → Option Er} {p : Pos}
theorem me_bi (hc : CallR X (.builtin id) r) (hf : OpN X.K r f) (ha : MA X W B (a :: es) ms) (hg : Gl X x) (hm : X.mg x = none) (hv : bootBuiltins x = some (.builtin id)) (hn : x ≠ "__name__" := by decide) (hdb : (x == ("__debug__" : Str)) = false := by decide)
    (he : starEach (a :: es) X.env = (false, eval a X.env) :: starEach es X.env := by rfl) (hpl : (backTo pos (starEach es X.env)).any (·.1) = false := by rfl) : ME X W B (.Call (.Name x p) (a :: es) [] pos) (eOpN f ms) :=
  ⟨fun en => pe_imp (pe_callB hc hg hm hv (ha.run en) hn hdb he hpl) fun _ _ _ h => t_opN hf h⟩
theorem me_bt (hc : CallR X (.type T) r) (hf : OpN X.K r f) (ha : MA X W B (a :: es) ms) (hg : Gl X x) (hm : X.mg x = none) (hv : bootBuiltins x = some (.type T)) (hn : x ≠ "__name__" := by decide) (hdb : (x == ("__debug__" : Str)) = false := by decide)
    (he : starEach (a :: es) X.env = (false, eval a X.env) :: starEach es X.env := by rfl) (hpl : (backTo pos (starEach es X.env)).any (·.1) = false := by rfl) : ME X W B (.Call (.Name x p) (a :: es) [] pos) (eOpN f ms) :=
  ⟨fun en => pe_imp (pe_callTy hc hg hm hv (ha.run en) hn hdb he hpl) fun _ _ _ h => t_opN hf h⟩
/-- what a call of a built-in is -/
structure BiK (X : Cx) (u : Value) (f : List Con → List D → Option Er) : Prop where
  ex : ∃ r, CallR X u r ∧ OpN X.K r f
theorem me_bik {u : Value} (k : BiK X u f) (hu : (∃ id, u = .builtin id) ∨ ∃ T, u = .type T) (ha : MA X W B (a :: es) ms) (hg : Gl X x) (hm : X.mg x = none) (hv : bootBuiltins x = some u) (hn : x ≠ "__name__" := by decide) (hdb : (x == ("__debug__" : Str)) = false := by decide)
    (he : starEach (a :: es) X.env = (false, eval a X.env) :: starEach es X.env := by rfl) (hpl : (backTo pos (starEach es X.env)).any (·.1) = false := by rfl) : ME X W B (.Call (.Name x p) (a :: es) [] pos) (eOpN f ms) := by
  obtain ⟨r, h1, h2⟩ := k.ex
  rcases hu with ⟨id, rfl⟩ | ⟨T, rfl⟩
  · exact me_bi h1 h2 ha hg hm hv hn hdb he hpl
  · exact me_bt h1 h2 ha hg hm hv hn hdb he hpl
end
theorem RlL.one {E : RC} {H : Hp} {d : D} {xs : List V} (h : RlL E H [d] xs) : ∃ v, xs = [v] ∧ Rl E H d v := by
  obtain ⟨v, r, rfl, h1, h2⟩ := h
  cases h2
  exact ⟨v, rfl, h1⟩
theorem RlL.two {E : RC} {H : Hp} {d e : D} {xs : List V} (h : RlL E H [d, e] xs) : ∃ v u, xs = [v, u] ∧ Rl E H d v ∧ Rl E H e u := by
  obtain ⟨v, r, rfl, h1, h2⟩ := h
  obtain ⟨u, rfl, h3⟩ := h2.one
  exact ⟨v, u, rfl, h1, h3⟩
def f1 (g : List Con → D → Option Er) : List Con → List D → Option Er
  | h, [d] => g h d
  | _, _ => none
def f2 (g : List Con → D → D → Option Er) : List Con → List D → Option Er
  | h, [d, e] => g h d e
  | _, _ => none
theorem opN_1 {K : PySem.W.Frag} {r : V → Hp → VK → Prop} {r' : List V → Hp → VK → Prop} {g : List Con → D → Option Er} (h : Op1 K r g) (i : ∀ x H Q, r x H Q → r' [x] H Q) : OpN K r' (f1 g) := by
  intro E H hh eK c ds xs r1 er e Q q
  unfold f1 at e
  split at e
  · obtain ⟨v, rfl, r3⟩ := r1.one
    exact i _ _ _ (h E H hh eK c _ v r3 er e Q q)
  · cases e
theorem opN_2 {K : PySem.W.Frag} {r : R2} {r' : List V → Hp → VK → Prop} {g : List Con → D → D → Option Er} (h : Op2 K r g) (i : ∀ x y H Q, r x y H Q → r' [x, y] H Q) : OpN K r' (f2 g) := by
  intro E H hh eK c ds xs r1 er e Q q
  unfold f2 at e
  split at e
  · obtain ⟨v, u, rfl, r3, r4⟩ := r1.two
    exact i _ _ _ _ (h E H hh eK c _ _ v u r3 r4 er e Q q)
  · cases e
end MP

namespace MP
open PySem PySem.Spec PyProof.Rows L2
/-- a list or tuple of ints -/
def D.intsOf : List D → Option (List Int)
  | [] => some []
  | .int i :: r => (D.intsOf r).map (i :: ·)
  | _ => none
theorem intsOf_map : ∀ {ds : List D} {ns : List Int}, D.intsOf ds = some ns → ds = ns.map D.int
  | [], ns, e => by cases e; rfl
  | d :: r, ns, e => by
    cases d <;> first | (cases e; done) | skip
    simp only [D.intsOf, Option.map_eq_some_iff] at e
    obtain ⟨ms, e, rfl⟩ := e
    rw [intsOf_map e]; rfl
def D.blsOf : List D → Option (List Bool)
  | [] => some []
  | .bl i :: r => (D.blsOf r).map (i :: ·)
  | _ => none
theorem blsOf_map : ∀ {ds : List D} {ns : List Bool}, D.blsOf ds = some ns → ds = ns.map D.bl
  | [], ns, e => by cases e; rfl
  | d :: r, ns, e => by
    cases d <;> first | (cases e; done) | skip
    simp only [D.blsOf, Option.map_eq_some_iff] at e
    obtain ⟨ms, e, rfl⟩ := e
    rw [blsOf_map e]; rfl
theorem RlL.bls {E : RC} {H : Hp} : ∀ {ns : List Bool} {vs : List V}, RlL E H (ns.map D.bl) vs → vs = ns.map V.bl
  | [], vs, h => h
  | n :: ns, vs, h => by
    obtain ⟨v, r, rfl, h1, h2⟩ := h
    have h1 : v = .bl n := h1
    rw [RlL.bls h2, h1]; rfl
def D.strsOf : List D → Option (List Str)
  | [] => some []
  | .str i :: r => (D.strsOf r).map (i :: ·)
  | _ => none
theorem strsOf_map : ∀ {ds : List D} {ns : List Str}, D.strsOf ds = some ns → ds = ns.map D.str
  | [], ns, e => by cases e; rfl
  | d :: r, ns, e => by
    cases d <;> first | (cases e; done) | skip
    simp only [D.strsOf, Option.map_eq_some_iff] at e
    obtain ⟨ms, e, rfl⟩ := e
    rw [strsOf_map e]; rfl
theorem RlL.strs {E : RC} {H : Hp} : ∀ {ns : List Str} {vs : List V}, RlL E H (ns.map D.str) vs → vs = ns.map V.str
  | [], vs, h => h
  | n :: ns, vs, h => by
    obtain ⟨v, r, rfl, h1, h2⟩ := h
    have h1 : v = .str n := h1
    rw [RlL.strs h2, h1]; rfl
/-! len -/
def fLen : List Con → D → Option Er := fun h x => match x with
  | .tup xs => vI xs.length
  | .str z => if z.length ≤ maxL then vI z.length else none
  | .fz ns => vI ns.length
  | d => (asL h d).bind fun xs => vI xs.length
theorem bk_len {X : Cx} : BiK X (.builtin "len") (f1 fLen) := ⟨_, call_len, by
  intro E H hh eK c ds xs r1 er e Q q
  unfold f1 at e
  split at e
  · rename_i d
    obtain ⟨v, rfl, r⟩ := r1.one
    unfold fLen at e
    split at e
    · cases e
      obtain ⟨a, us, rfl, h1, h2⟩ := r
      refine ⟨_, us.length, rfl, .inr ⟨us, SqT.of h1, rfl⟩, ?_⟩
      rw [← h2.length]
      exact q H _ (Grow.refl H) rfl
    · split at e
      · rename_i z hz
        cases e
        exact ⟨_, z.length, rfl, by rw [show v = .str z from r]; exact ⟨maxL_le hz, rfl⟩, q H _ (Grow.refl H) rfl⟩
      · cases e
    · cases e
      rename_i ns
      obtain ⟨a, rfl, h⟩ := r
      refine ⟨_, ns.length, rfl, .inl ⟨ns.map V.int, ?_, by simp⟩, q H _ (Grow.refl H) rfl⟩
      rw [← eK]
      rcases h with ⟨o, h⟩ | h
      · exact .inl (.inr ⟨o, h⟩)
      · exact .inr h
    · rw [Option.bind_eq_some_iff] at e
      obtain ⟨ys, e1, e⟩ := e
      cases e
      obtain ⟨a, us, rfl, h1, h2⟩ := asL_ok c r e1
      refine ⟨_, us.length, rfl, .inl ⟨us, SqL.of h1, rfl⟩, ?_⟩
      rw [← h2.length]
      exact q H _ (Grow.refl H) rfl
  · cases e⟩
/-! sum, of a list or a tuple of ints -/
def rSumA (K : PySem.W.Frag) : List V → Hp → VK → Prop := fun vs H Q => ∃ (a : Addr) (ns : List Int), vs = [V.ref a] ∧ (SqL K H a (ns.map V.int) ∨ SqT K H a (ns.map V.int)) ∧ Q (.int ns.sum) H
theorem cr_sumA {X : Cx} (hc : X.calm = true) : CallR X (.builtin "sum") (rSumA X.K) := by
  intro pins s σ H vs us Q I r h
  obtain ⟨a, ns, rfl, hs | hs, q⟩ := h
  · exact cr_sum hc pins s σ H _ us Q I r ⟨a, ns, rfl, hs, q⟩
  · obtain ⟨its, rv, hl, _⟩ := I.tuple hs
    rw [Vals.ref1 r]
    obtain ⟨xs, e⟩ := rv.ints.allInts.items
    have hn : numsOf (intItems xs).toList = ns := by rw [← e]; exact rv.ints.numsOf
    rw [nums_intItems] at hn
    rw [e] at hl
    refine PySem.W.ktm_sumG (xs := xs) (I.ok.hd hc) hl fun h' tk t' hk => ?_
    refine ⟨.int ns.sum, H, I.kept hk, ⟨t', ?_⟩, q⟩
    rw [preSum_eq, List.take_of_length_le (by simp), hn]
/-- the items of a list or tuple -/
def sqD (h : List Con) : D → Option (List D)
  | .tup xs => some xs
  | d => asL h d
theorem sqD_ok {E : RC} {H : Hp} {h : List Con} {d : D} {xs : List D} {x : V} (c : Cl E H h) (r : Rl E H d x) (e : sqD h d = some xs) : ∃ a us, x = .ref a ∧ (SqL E.K H a us ∨ SqT E.K H a us) ∧ RlL E H xs us := by
  unfold sqD at e
  split at e
  · cases e
    obtain ⟨a, us, e, h1, h2⟩ := r
    exact ⟨a, us, e, .inr (SqT.of h1), h2⟩
  · obtain ⟨a, us, e, h1, h2⟩ := asL_ok c r e
    exact ⟨a, us, e, .inl (SqL.of h1), h2⟩
def fSum : List Con → D → Option Er := fun h x => (sqD h x).bind fun ys => (D.intsOf ys).bind fun ns => vI ns.sum
theorem bk_sum {X : Cx} (hc : X.calm = true) : BiK X (.builtin "sum") (f1 fSum) := ⟨_, cr_sumA hc, by
  intro E H h eK c ds xs r1 er e Q q
  unfold f1 at e
  split at e
  · obtain ⟨v, rfl, r⟩ := r1.one
    simp only [fSum, Option.bind_eq_some_iff] at e
    obtain ⟨ys, e1, ns, e2, e⟩ := e
    cases e
    obtain ⟨a, us, rfl, h1, h2⟩ := sqD_ok c r e1
    rw [intsOf_map e2] at h2
    rw [h2.ints] at h1
    exact ⟨a, ns, rfl, eK ▸ h1, q H _ (Grow.refl H) rfl⟩
  · cases e⟩
def fAll : List Con → D → Option Er := fun h x => (asL h x).bind fun ys => (D.blsOf ys).bind fun ns => vB (ns.all id)
theorem bk_all {X : Cx} (hc : X.calm = true) : BiK X (.builtin "all") (f1 fAll) := ⟨_, cr_all hc, by
  intro E H h eK c ds xs r1 er e Q q
  unfold f1 at e
  split at e
  · obtain ⟨v, rfl, r⟩ := r1.one
    simp only [fAll, Option.bind_eq_some_iff] at e
    obtain ⟨ys, e1, ns, e2, e⟩ := e
    cases e
    obtain ⟨a, us, rfl, h1, h2⟩ := asL_ok c r e1
    rw [blsOf_map e2] at h2
    rw [h2.bls] at h1
    exact ⟨a, ns, rfl, SqL.of h1, q H _ (Grow.refl H) rfl⟩
  · cases e⟩
/-! max, min -/
def maxOf : List Int → Int
  | [] => 0
  | n :: r => r.foldl max n
def minOf : List Int → Int
  | [] => 0
  | n :: r => r.foldl min n
theorem foldl_max_le : ∀ (r : List Int) (n : Int), n ≤ r.foldl max n ∧ ∀ y ∈ r, y ≤ r.foldl max n
  | [], n => ⟨Int.le_refl _, fun y h => nomatch h⟩
  | m :: r, n => by
    obtain ⟨h1, h2⟩ := foldl_max_le r (max n m)
    refine ⟨Int.le_trans (by omega) h1, fun y hy => ?_⟩
    rcases List.mem_cons.mp hy with rfl | hy
    · exact Int.le_trans (by omega) h1
    · exact h2 y hy
theorem foldl_max_mem : ∀ (r : List Int) (n : Int), r.foldl max n = n ∨ r.foldl max n ∈ r
  | [], n => .inl rfl
  | m :: r, n => by
    rcases foldl_max_mem r (max n m) with h | h
    · by_cases hnm : n ≤ m
      · refine .inr (List.mem_cons.mpr (.inl ?_))
        show r.foldl max (max n m) = m
        rw [h]; omega
      · refine .inl ?_
        show r.foldl max (max n m) = n
        rw [h]; omega
    · exact .inr (List.mem_cons_of_mem _ h)
theorem foldl_min_le : ∀ (r : List Int) (n : Int), r.foldl min n ≤ n ∧ ∀ y ∈ r, r.foldl min n ≤ y
  | [], n => ⟨Int.le_refl _, fun y h => nomatch h⟩
  | m :: r, n => by
    obtain ⟨h1, h2⟩ := foldl_min_le r (min n m)
    refine ⟨Int.le_trans h1 (by omega), fun y hy => ?_⟩
    rcases List.mem_cons.mp hy with rfl | hy
    · exact Int.le_trans h1 (by omega)
    · exact h2 y hy
theorem foldl_min_mem : ∀ (r : List Int) (n : Int), r.foldl min n = n ∨ r.foldl min n ∈ r
  | [], n => .inl rfl
  | m :: r, n => by
    rcases foldl_min_mem r (min n m) with h | h
    · by_cases hnm : n ≤ m
      · refine .inl ?_
        show r.foldl min (min n m) = n
        rw [h]; omega
      · refine .inr (List.mem_cons.mpr (.inl ?_))
        show r.foldl min (min n m) = m
        rw [h]; omega
    · exact .inr (List.mem_cons_of_mem _ h)
theorem max_uniq {ns : List Int} {m : Int} (h : m ∈ ns) (h2 : ∀ y ∈ ns, y ≤ m) : m = maxOf ns := by
  cases ns with
  | nil => cases h
  | cons n r =>
    obtain ⟨h3, h4⟩ := foldl_max_le r n
    have h5 : m ≤ r.foldl max n := by
      rcases List.mem_cons.mp h with rfl | h
      · exact h3
      · exact h4 m h
    have h6 : r.foldl max n ≤ m := by
      rcases foldl_max_mem r n with h | h
      · rw [h]; exact h2 n List.mem_cons_self
      · exact h2 _ (List.mem_cons_of_mem _ h)
    exact Int.le_antisymm h5 h6
theorem min_uniq {ns : List Int} {m : Int} (h : m ∈ ns) (h2 : ∀ y ∈ ns, m ≤ y) : m = minOf ns := by
  cases ns with
  | nil => cases h
  | cons n r =>
    obtain ⟨h3, h4⟩ := foldl_min_le r n
    have h5 : r.foldl min n ≤ m := by
      rcases List.mem_cons.mp h with rfl | h
      · exact h3
      · exact h4 m h
    have h6 : m ≤ r.foldl min n := by
      rcases foldl_min_mem r n with h | h
      · rw [h]; exact h2 n List.mem_cons_self
      · exact h2 _ (List.mem_cons_of_mem _ h)
    exact Int.le_antisymm h6 h5
def fMax : List Con → List D → Option Er := fun h ds => match ds with
  | [.int i, .int j] => vI (if j > i then j else i)
  | [d] => (asL h d).bind fun ys => (D.intsOf ys).bind fun ns => if 0 < ns.length then vI (maxOf ns) else none
  | _ => none
def fMin : List Con → List D → Option Er := fun h ds => match ds with
  | [.int i, .int j] => vI (if j < i then j else i)
  | [d] => (asL h d).bind fun ys => (D.intsOf ys).bind fun ns => if 0 < ns.length then vI (minOf ns) else none
  | _ => none
theorem bk_max {X : Cx} (hc : X.calm = true) : BiK X (.builtin "max") fMax := ⟨_, CallR.or (call_max2 hc) (cr_max hc), by
  intro E H h eK c ds xs r1 er e Q q
  unfold fMax at e
  split at e
  · rename_i i j
    obtain ⟨v, u, rfl, r1, r2⟩ := r1.two
    cases e
    exact .inl ⟨i, j, by rw [show v = .int i from r1, show u = .int j from r2], q H _ (Grow.refl H) rfl⟩
  · obtain ⟨v, rfl, r⟩ := r1.one
    simp only [Option.bind_eq_some_iff] at e
    obtain ⟨ys, e1, ns, e2, e⟩ := e
    split at e
    · rename_i hn
      cases e
      obtain ⟨a, us, rfl, h1, h2⟩ := asL_ok c r e1
      rw [intsOf_map e2] at h2
      rw [h2.ints] at h1
      refine .inr ⟨a, ns, rfl, SqL.of h1, hn, fun m hm hy => ?_⟩
      rw [max_uniq hm hy]
      exact q H _ (Grow.refl H) rfl
    · cases e
  · cases e⟩
theorem bk_min {X : Cx} (hc : X.calm = true) : BiK X (.builtin "min") fMin := ⟨_, CallR.or (call_min2 hc) (cr_min hc), by
  intro E H h eK c ds xs r1 er e Q q
  unfold fMin at e
  split at e
  · rename_i i j
    obtain ⟨v, u, rfl, r1, r2⟩ := r1.two
    cases e
    exact .inl ⟨i, j, by rw [show v = .int i from r1, show u = .int j from r2], q H _ (Grow.refl H) rfl⟩
  · obtain ⟨v, rfl, r⟩ := r1.one
    simp only [Option.bind_eq_some_iff] at e
    obtain ⟨ys, e1, ns, e2, e⟩ := e
    split at e
    · rename_i hn
      cases e
      obtain ⟨a, us, rfl, h1, h2⟩ := asL_ok c r e1
      rw [intsOf_map e2] at h2
      rw [h2.ints] at h1
      refine .inr ⟨a, ns, rfl, SqL.of h1, hn, fun m hm hy => ?_⟩
      rw [min_uniq hm hy]
      exact q H _ (Grow.refl H) rfl
    · cases e
  · cases e⟩
/-! tuple, list, int, abs, divmod -/
def fTupC : List Con → D → Option Er := fun h x => match x with
  | .tup xs => some (.val (.tup xs))
  | d => (asL h d).map fun xs => .val (.tup xs)
theorem bk_tuple {X : Cx} : BiK X (.type "tuple") (f1 fTupC) := ⟨_, call_tuple_of, by
  intro E H h eK c ds xs r1 er e Q q
  unfold f1 at e
  split at e
  · obtain ⟨v, rfl, r⟩ := r1.one
    unfold fTupC at e
    split at e
    · cases e
      obtain ⟨a, us, rfl, h1, h2⟩ := id r
      exact ⟨a, us, rfl, .inr ⟨SqT.of h1, q H _ (Grow.refl H) r⟩⟩
    · rw [Option.map_eq_some_iff] at e
      obtain ⟨ys, e1, rfl⟩ := e
      obtain ⟨a, us, rfl, h1, h2⟩ := asL_ok c r e1
      exact ⟨a, us, rfl, .inl ⟨SqL.of h1, new_tup h2 q⟩⟩
  · cases e⟩
def fListC : List Con → D → Option Er := fun h x => (sqD h x).map fun xs => .new (.lst xs)
theorem bk_list {X : Cx} : BiK X (.type "list") (f1 fListC) := ⟨_, call_list_of, by
  intro E H h eK c ds xs r1 er e Q q
  unfold f1 at e
  split at e
  · obtain ⟨v, rfl, r⟩ := r1.one
    unfold fListC at e
    rw [Option.map_eq_some_iff] at e
    obtain ⟨ys, e1, rfl⟩ := e
    obtain ⟨a, us, rfl, h1, h2⟩ := sqD_ok c r e1
    exact ⟨a, us, rfl, eK ▸ h1, new_lst c h2 q⟩
  · cases e⟩
def fIntC : List Con → D → Option Er
  | _, .int i => vI i
  | _, .bl b => vI (if b then 1 else 0)
  | _, _ => none
theorem bk_int {X : Cx} : BiK X (.type "int") (f1 fIntC) := ⟨_, call_int1, by
  intro E H h eK c ds xs r1 er e Q q
  unfold f1 at e
  split at e
  · obtain ⟨v, rfl, r⟩ := r1.one
    unfold fIntC at e
    split at e
    · cases e; exact .inl ⟨_, by rw [show v = .int _ from r], q H _ (Grow.refl H) rfl⟩
    · cases e; exact .inr ⟨_, by rw [show v = .bl _ from r], q H _ (Grow.refl H) rfl⟩
    · cases e
  · cases e⟩
def fAbs : List Con → D → Option Er
  | _, .int i => vI (if i < 0 then -i else i)
  | _, _ => none
theorem bk_abs {X : Cx} : BiK X (.builtin "abs") (f1 fAbs) := ⟨_, call_abs, by
  intro E H h eK c ds xs r1 er e Q q
  unfold f1 at e
  split at e
  · obtain ⟨v, rfl, r⟩ := r1.one
    unfold fAbs at e
    split at e
    · cases e; exact ⟨_, by rw [show v = .int _ from r], q H _ (Grow.refl H) rfl⟩
    · cases e
  · cases e⟩
def fDivmod : List Con → D → D → Option Er
  | _, .int i, .int j => if (sz i && decide (0 < j)) = true then some (.val (.tup [.int (i / j), .int (i % j)])) else none
  | _, _, _ => none
theorem bk_divmod {X : Cx} : BiK X (.builtin "divmod") (f2 fDivmod) := ⟨_, call_divmodW, by
  intro E H h eK c ds xs r1 er e Q q
  unfold f2 at e
  split at e
  · obtain ⟨v, u, rfl, r3, r4⟩ := r1.two
    unfold fDivmod at e
    split at e
    · rename_i i j
      split at e
      · rename_i hz
        rw [Bool.and_eq_true] at hz
        cases e
        refine ⟨i, j, by rw [show v = .int _ from r3, show u = .int _ from r4], divp_ok (of_decide_eq_true hz.2) ?_, new_tup (xs := [.int (i / j), .int (i % j)]) ⟨_, _, rfl, rfl, _, _, rfl, rfl, rfl⟩ q⟩
        have := bits_le (sz_lt hz.1)
        omega
      · cases e
    · cases e
  · cases e⟩
end MP

namespace MP
open PySem PySem.Spec PyProof.Rows L2
/-! defs -/
inductive FRes where
  | ok (r : Er) (h : List Con) | ex (e : Ex) (h : List Con) | bad
abbrev F := List D → List Con → FRes
/-- nothing but the cells (and what stands outside) is avoided -/
def rcF (K : PySem.W.Frag) (mg : Str → Option Value) (ex : Addr → Prop) (al : Nat → Addr) (h : List Con) : RC := ⟨K, mg, fun a => (∃ n, n < h.length ∧ al n = a) ∨ ex a, fun a => (∃ n, n < h.length ∧ al n = a) ∨ ex a, al, h.length⟩
structure Rh (K : PySem.W.Frag) (mg : Str → Option Value) (ex : Addr → Prop) (al : Nat → Addr) (h : List Con) (H : Hp) : Prop where
  cell : ∀ (n : Nat) (c : Con), h[n]? = some c → c.flat = true ∧ ConR (rcF K mg ex al h) H c (al n)
  inj : ∀ n m, n < h.length → m < h.length → al n = al m → n = m
  ext : ∀ a, ex a → (∃ o, H a = some o ∧ stay o = false) ∧ ∀ n, n < h.length → al n ≠ a
structure Step (al : Nat → Addr) (h : List Con) (H : Hp) (al' : Nat → Addr) (h' : List Con) (H' : Hp) : Prop where
  k : h.length ≤ h'.length
  ale : ∀ n, n < h.length → al' n = al n
  new : ∀ n, h.length ≤ n → n < h'.length → H (al' n) = none
  pres : ∀ a o, H a = some o → (∀ n, n < h.length → al n ≠ a) → H' a = some o
  dom : ∀ a, H' a = none → H a = none
def spM (K : PySem.W.Frag) (mg : Str → Option Value) (n : Nat) (f : F) : Sp := fun vs H Q E => ∃ (ex : Addr → Prop) (al : Nat → Addr) (ds : List D) (h : List Con),
  Rh K mg ex al h H ∧ ds.length = n ∧ RlL (rcF K mg ex al h) H ds vs ∧ match f ds h with
    | .ok r h' => ∀ al' H' v, Step al h H al' h' H' → Rh K mg ex al' h' H' → ErR (rcF K mg ex al' h') H H' r v → Q v H'
    | .ex e h' => ∀ al' H' c d, Step al h H al' h' H' → Rh K mg ex al' h' H' → ExR (rcF K mg ex al' h') H' e c d → E c d H'
    | .bad => False
theorem spM_len {K : PySem.W.Frag} {mg : Str → Option Value} {n : Nat} {f : F} {vs : List V} {H : Hp} {Q : VK} {E : XK} (h : spM K mg n f vs H Q E) : vs.length = n := by
  obtain ⟨ex, al, ds, h, _, e, r, _⟩ := h
  rw [← e, r.length]
/-- a weaker function -/
def FLe (f g : F) : Prop := ∀ ds h, f ds h ≠ .bad → f ds h = g ds h
theorem spM_imp {K : PySem.W.Frag} {mg : Str → Option Value} {n : Nat} {f g : F} (l : FLe f g) {vs : List V} {H : Hp} {Q : VK} {E : XK} (h : spM K mg n f vs H Q E) : spM K mg n g vs H Q E := by
  obtain ⟨ex, al, ds, h, rh, e, r, w⟩ := h
  refine ⟨ex, al, ds, h, rh, e, r, ?_⟩
  have := l ds h
  cases q : f ds h with
  | bad => rw [q] at w; exact w.elim
  | ok r h' => rw [← l ds h (by rw [q]; exact fun z => nomatch z), q]; rw [q] at w; exact w
  | ex r h' => rw [← l ds h (by rw [q]; exact fun z => nomatch z), q]; rw [q] at w; exact w
section
variable {K : PySem.W.Frag} {mg : Str → Option Value} {W : WX} {en : En} {B : List Nat} {al al1 al' : Nat → Addr} {s s1 : S} {σ : PSt} {H H0 H1 H' : Hp} {h' : List Con}
def exB (en : En) (B : List Nat) (s : S) (σ : PSt) (a : Addr) : Prop := (∃ i c, i ∉ B ∧ s.v[i]? = some (.own c) ∧ σ[i]? = some (some (.ref a))) ∨ en.ex a
theorem rcF_mo : Mo (rc K mg en B al s σ) H (rcF K mg (exB en B s σ) al s.h) H := ⟨fun _ _ h _ => h, fun _ _ h => h, fun _ h => h, Nat.le_refl _, fun _ _ => rfl, rfl, rfl⟩
theorem mo_rcF : Mo (rcF K mg (exB en B s σ) al s.h) H (rc K mg en B al s σ) H := ⟨fun _ _ h _ => h, fun _ _ h => h, fun _ h => h, Nat.le_refl _, fun _ _ => rfl, rfl, rfl⟩
theorem Sm.rh (m : Sm K mg en al s σ H) : Rh K mg (exB en B s σ) al s.h H where
  cell := fun n c e => ⟨(m.cell n c e).1, ((m.cell n c e).2.mo (mo_nil (B := B)) fun _ q => q).mo rcF_mo fun _ q => q⟩
  inj := m.inj
  ext := fun a x => by
    rcases x with ⟨i, c, _, h1, h2⟩ | x
    · obtain ⟨a', e, r, _, z⟩ := m.own i c h1
      rw [h2] at e; cases e
      exact ⟨r.some, z⟩
    · exact ⟨(m.ext a x).1, (m.ext a x).2.1⟩
theorem Sm.callMo (m : Sm K mg en al s σ H) (t : Step al s.h H al' h' H') : Mo (rc K mg en B al s σ) H (rc K mg en B al' ⟨s.v, h'⟩ σ) H' where
  keep := fun a o e x => t.pres a o e fun n hn q => by
    obtain ⟨o', e', st⟩ := (m.cell n _ (List.getElem?_eq_getElem hn)).2.some
    rw [q] at e'
    rcases x with x | x
    · rw [e] at e'; cases e'; rw [x] at st; cases st
    · exact x (.inl ⟨n, hn, q⟩)
  av := fun a e x y => by
    rcases y with ⟨n, hn, q⟩ | y
    · by_cases hk : n < s.h.length
      · exact x (.inl ⟨n, hk, (t.ale n hk).symm.trans q⟩)
      · exact e (q ▸ t.new n (Nat.le_of_not_lt hk) hn)
    · exact x (.inr y)
  dom := t.dom
  k := t.k
  al := t.ale
  mg := rfl
  K := rfl
theorem Sm.call (m : Sm K mg en al s σ H) (t : Step al s.h H al' h' H') (r : Rh K mg (exB en B s σ) al' h' H') : Sm K mg en al' ⟨s.v, h'⟩ σ H' := by
  have mo : Mo (rc K mg en [] al s σ) H (rc K mg en [] al' ⟨s.v, h'⟩ σ) H' := m.callMo t
  refine ⟨m.len, fun n c e => ⟨(r.cell n c e).1, ConR.fo (E := rcF K mg (exB en B s σ) al' h') (H := H') ⟨fun _ _ h _ => h, Nat.le_refl _, fun _ _ => rfl, rfl, rfl⟩ (r.cell n c e).1 (fun _ q => q) (r.cell n c e).2⟩, r.inj, fun i d e => ?_, fun i c e => ?_, m.dis, Nat.le_trans m.ek t.k,
    fun n hn => (t.ale n (Nat.lt_of_lt_of_le hn m.ek)).trans (m.eal n hn), fun n h1 h2 => ?_, fun a o e x => ?_, fun a e => m.dom a (t.dom a e), fun a x => ?_, fun p hp => ⟨(m.pin p hp).1, t.pres _ _ (m.pin p hp).2 (m.ext _ (m.pin p hp).1).2.1⟩, fun p hp => (m.hold p hp).mo mo⟩
  · obtain ⟨v, e1, r1⟩ := m.slot i d e
    exact ⟨v, e1, r1.mo mo⟩
  · obtain ⟨a, e1, r1, x, y⟩ := m.own i c e
    obtain ⟨o, ho, _⟩ := r1.some
    refine ⟨a, e1, r1.mo mo fun o q => t.pres a o q y, x, fun n hn q => ?_⟩
    by_cases hk : n < s.h.length
    · exact y n hk ((t.ale n hk).symm.trans q)
    · have := t.new n (Nat.le_of_not_lt hk) hn
      rw [q, ho] at this; cases this
  · by_cases hk : n < s.h.length
    · rw [t.ale n hk]; exact m.enew n h1 hk
    · exact m.dom _ (t.new n (Nat.le_of_not_lt hk) h2)
  · refine t.pres a o (m.pres a o e x) fun n hn q => ?_
    by_cases hk : n < en.k
    · exact x n hk ((m.eal n hk).symm.trans q)
    · have := m.enew n (Nat.le_of_not_lt hk) hn
      rw [q, e] at this; cases this
  · obtain ⟨⟨o, h1, h2⟩, h3, h4⟩ := m.ext a x
    refine ⟨⟨o, t.pres a o h1 h3, h2⟩, fun n hn q => ?_, h4⟩
    by_cases hk : n < s.h.length
    · exact h3 n hk ((t.ale n hk).symm.trans q)
    · have := t.new n (Nat.le_of_not_lt hk) hn
      rw [q, h1] at this; cases this
/-- a new thing came with a call -/
theorem Sm.callAdd (m : Sm K mg en al s σ H) (t : Step al s.h H al' h' H') (r : Rh K mg (exB en B s σ) al' h' H') {a : Addr} {o : HO} (h0 : H a = none) (h1 : H' a = some o) (ho : stay o = false) (na : ¬ av en [] al' ⟨s.v, h'⟩ σ a) :
    Sm K mg (en.add a o) al' ⟨s.v, h'⟩ σ H' := by
  have mc := m.call t r
  have mo0 : Mo (rc K mg en [] al s σ) H (rc K mg en [] al' ⟨s.v, h'⟩ σ) H' := m.callMo t
  have mo : Mo (rc K mg en [] al s σ) H (rc K mg (en.add a o) [] al' ⟨s.v, h'⟩ σ) H' := ⟨mo0.keep, fun b e x y => (av_add y).elim (mo0.av b e x) fun z => e (z ▸ h0), mo0.dom, mo0.k, mo0.al, rfl, rfl⟩
  refine ⟨mc.len, fun n c e => ⟨(mc.cell n c e).1, (mc.cell n c e).2.fo (E := rc K mg en [] al' ⟨s.v, h'⟩ σ) (H := H') ⟨fun _ _ h _ => h, Nat.le_refl _, fun _ _ => rfl, rfl, rfl⟩ (mc.cell n c e).1 fun _ q => q⟩, mc.inj, fun i d e => ?_, fun i c e => ?_, mc.dis, mc.ek, mc.eal, mc.enew, mc.pres, mc.dom, fun b x => ?_, fun p hp => ?_, fun p hp => (m.hold p hp).mo mo⟩
  · obtain ⟨v, e1, r1⟩ := m.slot i d e
    exact ⟨v, e1, r1.mo mo⟩
  · obtain ⟨b, e1, r1, x, y⟩ := m.own i c e
    obtain ⟨b', e1', _, x', y'⟩ := mc.own i c e
    rw [e1] at e1'; cases e1'
    exact ⟨b, e1, r1.mo mo fun o q => t.pres b o q y, x, y'⟩
  · rcases x with x | x
    · exact mc.ext b x
    · subst x
      exact ⟨⟨o, h1, ho⟩, fun n hn e => na (.inl ⟨n, hn, e⟩), fun i c hi e => na (.inr (.inl ⟨i, c, (fun z => nomatch z), hi, e⟩))⟩
  · rcases List.mem_cons.mp hp with rfl | hp
    · exact ⟨.inr rfl, h1⟩
    · exact ⟨.inl (mc.pin p hp).1, (mc.pin p hp).2⟩
/-- a callee's result is one of ours -/
theorem ErR.called {r : Er} {v : V} (m : Sm K mg en al1 s1 σ H1) (t : Step al1 s1.h H1 al' h' H') (rh : Rh K mg (exB en B s1 σ) al' h' H') (e : ErR (rcF K mg (exB en B s1 σ) al' h') H1 H' r v) : ErN K mg en B al' ⟨s1.v, h'⟩ σ H1 H' r v := by
  have na : ∀ a, H1 a = none → ¬ (rcF K mg (exB en B s1 σ) al' h').av a → ¬ av en [] al' ⟨s1.v, h'⟩ σ a := by
    intro a h0 h1 z
    rcases z with z | ⟨i, c, _, q1, q2⟩ | z
    · exact h1 (.inl z)
    · obtain ⟨a', e', r', _⟩ := m.own i c q1
      rw [q2] at e'; cases e'
      obtain ⟨o, ho, _⟩ := r'.some
      rw [h0] at ho; cases ho
    · exact h1 (.inr (.inr z))
  cases r with
  | val d => exact Rl.mo (mo_rcF (s := ⟨s1.v, h'⟩)) e
  | new c => cases c with
    | lst xs =>
      obtain ⟨a, e, n, _, x, r⟩ := e
      obtain ⟨o, ho, hs⟩ := r.some
      exact ⟨a, o, e, n, ho, na a n x, ConR.mo (mo_rcF (s := ⟨s1.v, h'⟩)) (fun _ q => q) r, m.callAdd t rh n ho hs (na a n x)⟩
    | dct ks vs =>
      obtain ⟨a, e, n, _, x, r⟩ := e
      obtain ⟨o, ho, hs⟩ := r.some
      exact ⟨a, o, e, n, ho, na a n x, ConR.mo (mo_rcF (s := ⟨s1.v, h'⟩)) (fun _ q => q) r, m.callAdd t rh n ho hs (na a n x)⟩
    | ins _ _ _ => exact e.elim
end
def eCall (n : Nat) (f : F) (dd : List D) (ms : S → R (List D)) : S → R Er := fun s => (ms s).bind fun ds s1 => if (ds ++ dd).length = n then (match f (ds ++ dd) s1.h with
  | .ok r h' => .ok r ⟨s1.v, h'⟩
  | .ex e h' => .ex e ⟨s1.v, h'⟩
  | .bad => .bad) else .bad
theorem t_call {K : PySem.W.Frag} {mg : Str → Option Value} {W : WX} {en : En} {B : List Nat} {σ : PSt} {H : Hp} {n : Nat} {f : F} {dd : List D} {dvs : List V} {ms : S → R (List D)} (hd : ∀ E H, RlL E H dd dvs) {Q : VK}
    (h : TEm K mg W en B (eCall n f dd ms) σ H Q) : tCallSD (spM K mg n f) dvs (WE W) (TAm K mg W en B ms) σ H Q := by
  obtain ⟨al, s, hs, hw⟩ := h
  unfold eCall at hw
  show TAm K mg W en B ms σ H _
  refine ⟨al, s, hs, ?_⟩
  revert hw
  cases ms s with
  | ex e s1 => exact fun hw => hw
  | bad => exact fun hw => hw
  | ok ds s1 =>
    intro hw al1 H1 st1 mo1 vs r1
    have hw1 := hw.rebase mo1
    simp only [R.bind] at hw1
    split at hw1
    case isFalse => exact hw1.elim
    case isTrue hn =>
    refine ⟨exB en B s1 σ, al1, ds ++ dd, s1.h, st1.rh, hn, (r1.append (hd _ _)).mo rcF_mo, ?_⟩
    cases q : f (ds ++ dd) s1.h with
    | bad => rw [q] at hw1; exact hw1.elim
    | ok r h' =>
      rw [q] at hw1
      exact fun al' H' v t rh e => hw1 al' H' (st1.call t rh) (st1.callMo t) v ((e.called st1 t rh).back fun a z => mo1.dom a z)
    | ex e h' =>
      rw [q] at hw1
      exact fun al' H' c d t rh x => hw1 al' H' c d (st1.call t rh) (ExR.fo (E := rcF K mg (exB en B s1 σ) al' h') (H := H') ⟨fun _ _ h _ => h, Nat.le_refl _, fun _ _ => rfl, rfl, rfl⟩ x)
end MP

namespace MP
open PySem PySem.Spec PyProof.Rows L2
/-! a def of the text, by its function -/
structure Dfn (P : Program) (w : World) (K : PySem.W.Frag) (mg : Str → Option Value) (base : Heap) (x : Str) (st : Stmt) (k : Nat) (ps : List Str) (fn : F) : Prop where
  ex : ∃ (f : Addr) (fd : FuncData), mg x = some (.ref f) ∧ Fun K x x st f fd ∧ FnOk P w K mg base (L2.CX P w) k f fd ps (spM K mg ps.length fn) ∧ Binds K fd ps []
section
variable {X : Cx} {W : WX} {B : List Nat} {x : Str} {st : Stmt} {k : Nat} {ps : List Str} {fn : F} {a : Expr} {es : List Expr} {ms : S → R (List D)} {p pos : Pos}
theorem me_call (Dx : Dfn X.prog X.w X.K X.mg X.base x st k ps fn) (hr : Room k X.A) (tk : Takes X W) (ha : MA X W B (a :: es) ms) (hg : Gl X x) (hdb : (x == ("__debug__" : Str)) = false := by decide)
    (he : starEach (a :: es) X.env = (false, eval a X.env) :: starEach es X.env := by rfl) (hpl : (backTo pos (starEach es X.env)).any (·.1) = false := by rfl) :
    ME X W B (.Call (.Name x p) (a :: es) [] pos) (eCall ps.length fn [] ms) := by
  obtain ⟨f, fd, hm, hF, hO, hB⟩ := Dx.ex
  exact ⟨fun en => pe_imp (pe_callSD (E := WE W) hO hr hg hm hF.kp hB .nil (fun σ => passAt tk σ) (ha.run en) hdb he hpl) fun _ _ _ h => t_call (dd := []) (dvs := []) (fun E H => show RlL E H [] [] from rfl) h⟩
end
/-! statements -/
def rcX (K : PySem.W.Frag) (mg : Str → Option Value) (en : En) (al : Nat → Addr) (s : S) : RC := rcF K mg en.ex al s.h
section
variable (K : PySem.W.Frag) (mg : Str → Option Value) (W : WX)
def SWp (en : En) (r : R Fl) (D : Ends) : Prop := match r with
  | .ok .nx s' => ∀ al' σ' H', Sm K mg en al' s' σ' H' → D.nx σ' H'
  | .ok .bk s' => ∀ al' σ' H', Sm K mg en al' s' σ' H' → D.bk σ' H'
  | .ok .ct s' => ∀ al' σ' H', Sm K mg en al' s' σ' H' → D.ct σ' H'
  | .ok (.rt u) s' => ∀ al' σ' H' v, Sm K mg en al' s' σ' H' → ErR (rcX K mg en al' s') en.H H' u v → D.rt v H'
  | .ex e s' => ∀ al' σ' H' c d, Sm K mg en al' s' σ' H' → ExR (rc K mg en [] al' s' σ') H' e c d → W c d σ' H'
  | .bad => False
def TSm (en : En) (m : S → R Fl) : TS := fun D σ H => ∃ al s, Sm K mg en al s σ H ∧ SWp K mg W en (m s) D
end
structure MS (X : Cx) (W : WX) (st : Stmt) (m : S → R Fl) : Prop where
  run : ∀ en, PS X st (TSm X.K X.mg W en m)
structure MB (X : Cx) (W : WX) (st : List Stmt) (m : S → R Fl) : Prop where
  run : ∀ en, PSs X st (TSm X.K X.mg W en m)
def sNext : S → R Fl := fun s => .ok .nx s
def sSeq (a b : S → R Fl) : S → R Fl := fun s => (a s).bind fun f s1 => match f with
  | .nx => b s1
  | f => .ok f s1
def sNever : S → R Fl := fun _ => .bad
section
variable {X : Cx} {W : WX} {st : Stmt} {rest : List Stmt} {m m2 : S → R Fl} {pos : Pos}
theorem mb_nil : MB X W [] sNext := ⟨fun en => pss_imp pss_nil fun D σ H ⟨al, s, hs, hw⟩ => hw al σ H hs⟩
theorem mb_one (h : MS X W st m) : MB X W [st] m := ⟨fun en => pss_one (h.run en)⟩
theorem mb_cons (h : MS X W st m) (h2 : MB X W rest m2) : MB X W (st :: rest) (sSeq m m2) := ⟨fun en => pss_imp (pss_cons (h.run en) (h2.run en)) fun D σ H ⟨al, s, hs, hw⟩ => by
  refine ⟨al, s, hs, ?_⟩
  unfold sSeq at hw
  revert hw
  cases m s with
  | bad => exact fun hw => hw
  | ex e s1 => exact fun hw => hw
  | ok f s1 => cases f with
    | nx => exact fun hw al' σ' H' st' => ⟨al', s1, st', hw⟩
    | bk => exact fun hw => hw
    | ct => exact fun hw => hw
    | rt u => exact fun hw => hw⟩
theorem ms_never : MS X W st sNever := ⟨fun en => ps_imp ps_never fun D σ H ⟨al, s, hs, hw⟩ => hw.elim⟩
theorem ms_pass : MS X W (.Pass pos) sNext := ⟨fun en => ps_imp ps_pass fun D σ H ⟨al, s, hs, hw⟩ => hw al σ H hs⟩
theorem ms_doc {x j pos pos'} : MS X W (.Expr (.Constant (.str x) j pos) pos') sNext := ⟨fun en => ps_imp ps_doc fun D σ H ⟨al, s, hs, hw⟩ => hw al σ H hs⟩
def sBk : S → R Fl := fun s => .ok .bk s
def sCt : S → R Fl := fun s => .ok .ct s
theorem ms_break : MS X W (.Break pos) sBk := ⟨fun en => ps_imp ps_break fun D σ H ⟨al, s, hs, hw⟩ => hw al σ H hs⟩
theorem ms_continue : MS X W (.Continue pos) sCt := ⟨fun en => ps_imp ps_continue fun D σ H ⟨al, s, hs, hw⟩ => hw al σ H hs⟩
def sIf (t : S → R Bool) (a b : S → R Fl) : S → R Fl := fun s => (t s).bind fun k s1 => if k = true then a s1 else b s1
theorem ms_if {c : Expr} {a b : List Stmt} {B : List Nat} {t : S → R Bool} (ht : MT X W B c t) (ha : MB X W a m) (hb : MB X W b m2) : MS X W (.If c a b pos) (sIf t m m2) := ⟨fun en => ps_imp (ps_if (ht.run en) (ha.run en) (hb.run en)) fun D σ H ⟨al, s, hs, hw⟩ => by
  refine ⟨al, s, hs, ?_⟩
  unfold sIf at hw
  revert hw
  cases t s with
  | bad => exact fun hw => hw
  | ex e s1 => exact fun hw al' H' c d st' x => hw al' σ H' c d st' x
  | ok k s1 =>
    intro hw al' H' st' mo
    cases k with
    | true => rw [if_pos rfl]; exact ⟨al', s1, st', hw⟩
    | false => rw [if_neg Bool.false_ne_true]; exact ⟨al', s1, st', hw⟩⟩
def sExpr (m : S → R Er) : S → R Fl := fun s => (m s).bind fun _ s1 => .ok .nx s1
theorem ms_expr {e : Expr} {B : List Nat} {m : S → R Er} (h : ME X W B e m) (hs : swapsWith e none pos.line X.env = pure false := by rfl) : MS X W (.Expr e pos) (sExpr m) := ⟨fun en => ps_imp (ps_expr (h.run en) hs) fun D σ H ⟨al, s, hs, hw⟩ => by
  refine ⟨al, s, hs, ?_⟩
  unfold sExpr at hw
  revert hw
  cases m s with
  | bad => exact fun hw => hw
  | ex e s1 => exact fun hw al' H' c d st' x => hw al' σ H' c d st' x
  | ok k s1 => exact fun hw al' H' st' mo v hv => hw al' σ H' st'⟩
theorem mo_rcX {K : PySem.W.Frag} {mg : Str → Option Value} {en : En} {B : List Nat} {al : Nat → Addr} {s : S} {σ : PSt} {H : Hp} : Mo (rc K mg en B al s σ) H (rcX K mg en al s) H :=
  ⟨fun _ _ h _ => h, fun a _ h z => h (by
    rcases z with z | z
    · exact .inl z
    · exact .inr (.inr z)), fun _ h => h, Nat.le_refl _, fun _ _ => rfl, rfl, rfl⟩
theorem fo_rc {K : PySem.W.Frag} {mg : Str → Option Value} {en : En} {B B' : List Nat} {al : Nat → Addr} {s : S} {σ : PSt} {H : Hp} : Fo (rc K mg en B al s σ) H (rc K mg en B' al s σ) H :=
  ⟨fun _ _ h _ => h, Nat.le_refl _, fun _ _ => rfl, rfl, rfl⟩
/-! return -/
def sRet (m : S → R Er) : S → R Fl := fun s => (m s).bind fun r s1 => .ok (.rt r) s1
theorem ErN.out {K : PySem.W.Frag} {mg : Str → Option Value} {en : En} {B : List Nat} {al : Nat → Addr} {s : S} {σ : PSt} {H H0 : Hp} {r : Er} {v : V} (m : Sm K mg en al s σ H) (d : ∀ a, H0 a = none → en.H a = none)
    (e : ErN K mg en B al s σ H0 H r v) : ErR (rcX K mg en al s) en.H H r v := by
  have na : ∀ a, ¬ av en [] al s σ a → ¬ (rcX K mg en al s).av a := fun a h z => h (by
    rcases z with z | z
    · exact .inl z
    · exact .inr (.inr z))
  cases r with
  | val x => exact Rl.mo mo_rcX e
  | new c => cases c with
    | lst xs => obtain ⟨a, o, e, n, _, y, r, _⟩ := e; exact ⟨a, e, d a n, na a y, na a y, r.mo mo_rcX fun _ q => q⟩
    | dct ks vs => obtain ⟨a, o, e, n, _, y, r, _⟩ := e; exact ⟨a, e, d a n, na a y, na a y, r.mo mo_rcX fun _ q => q⟩
    | ins C ns vs => exact e.elim
theorem ms_ret {e : Expr} {B : List Nat} {m : S → R Er} (h : ME X W B e m) : MS X W (.Return (some e) pos) (sRet m) := ⟨fun en => ps_imp (ps_ret (h.run en)) fun D σ H ⟨al, s, hs, hw⟩ => by
  refine ⟨al, s, hs, ?_⟩
  unfold sRet at hw
  revert hw
  cases m s with
  | bad => exact fun hw => hw
  | ex e s1 => exact fun hw al' H' c d st' x => hw al' σ H' c d st' x
  | ok r s1 => exact fun hw al' H' st' mo v hv => hw al' σ H' v st' (hv.out st' fun a z => hs.dom a z)⟩
/-- return x: a list of the def's own goes out as a new one -/
def sRetV (i : Nat) : S → R Fl := fun s => match s.v[i]? with
  | some (.val d) => .ok (.rt (.val d)) s
  | some (.own (.lst xs)) => .ok (.rt (.new (.lst xs))) s
  | some (.own (.dct ks vs)) => .ok (.rt (.new (.dct ks vs))) s
  | _ => .bad
theorem ms_retV (i : Nat) {x : Str} {p : Pos} (h : PE X (.Name x p) (tVar i)) : MS X W (.Return (some (.Name x p)) pos) (sRetV i) := ⟨fun en => ps_imp (ps_ret h) fun D σ H ⟨al, s, hs, hw⟩ => by
  unfold sRetV at hw
  have fin : ∀ (c : Con), s.v[i]? = some (.own c) → ∃ a, σ[i]? = some (some (.ref a)) ∧ en.H a = none ∧ ¬ (rcX X.K X.mg en al s).av a ∧ ¬ (rcX X.K X.mg en al s).ava a ∧ ConR (rcX X.K X.mg en al s) H c a := by
    intro c q
    obtain ⟨a, e, r, n, z⟩ := hs.own i c q
    have na : ¬ (rcX X.K X.mg en al s).av a := by
      rintro (⟨m, hm, e'⟩ | h)
      · exact z m hm e'
      · exact (hs.ext a h).2.2 i c q e
    exact ⟨a, e, n, na, na, r.mo mo_rcX fun _ q => q⟩
  cases q : s.v[i]? with
  | none => rw [q] at hw; exact hw.elim
  | some sd =>
    rw [q] at hw
    cases sd with
    | no => exact hw.elim
    | val d =>
      obtain ⟨v, e, r⟩ := hs.slot i d q
      exact ⟨v, e, hw al σ H v hs (ErN.out (B := []) (r := .val d) hs (fun _ (z : en.H _ = none) => z) r)⟩
    | own c =>
      obtain ⟨a, e, n, na, na2, r⟩ := fin c q
      cases c with
      | lst xs => exact ⟨_, e, hw al σ H _ hs ⟨a, rfl, n, na2, na, r⟩⟩
      | dct ks vs => exact ⟨_, e, hw al σ H _ hs ⟨a, rfl, n, na2, na, r⟩⟩
      | ins C ns vs => exact hw.elim⟩
def sRetN : S → R Fl := fun s => .ok (.rt (.val .non)) s
theorem ms_retN : MS X W (.Return none pos) sRetN := ⟨fun en => ps_imp ps_retN fun D σ H ⟨al, s, hs, hw⟩ => hw al σ H .non hs rfl⟩
end
/-! the slots after a store -/
def frzS : SD → SD
  | .own (.lst xs) => .val (.lst xs)
  | .own (.dct ks vs) => .val (.dct ks vs)
  | .own (.ins _ _ _) => .no
  | sd => sd
def frzB (B : List Nat) (k : Nat) : List SD → List SD
  | [] => []
  | sd :: r => (if k ∈ B then frzS sd else sd) :: frzB B (k + 1) r
theorem frzB_len (B : List Nat) : ∀ (v : List SD) (k : Nat), (frzB B k v).length = v.length
  | [], _ => rfl
  | _ :: r, k => congrArg (· + 1) (frzB_len B r (k + 1))
theorem frzB_get (B : List Nat) : ∀ (v : List SD) (k i : Nat), (frzB B k v)[i]? = (v[i]?).map fun sd => if k + i ∈ B then frzS sd else sd
  | [], _, i => by simp [frzB]
  | sd :: r, k, 0 => by simp [frzB]
  | sd :: r, k, i + 1 => by
    simp only [frzB, List.getElem?_cons_succ]
    rw [frzB_get B r (k + 1) i, show k + 1 + i = k + (i + 1) by omega]
section
variable {K : PySem.W.Frag} {mg : Str → Option Value} {W : WX} {en : En} {B : List Nat} {al al1 : Nat → Addr} {s s1 : S} {σ : PSt} {H H0 H1 : Hp}
theorem frz_own {v : List SD} {i : Nat} {c : Con} (h : (frzB B 0 v)[i]? = some (.own c)) : i ∉ B ∧ v[i]? = some (.own c) := by
  rw [frzB_get, Option.map_eq_some_iff] at h
  obtain ⟨sd, h1, h2⟩ := h
  rw [Nat.zero_add] at h2
  by_cases hb : i ∈ B
  · rw [if_pos hb] at h2
    cases sd with
    | own c => cases c <;> cases h2
    | _ => cases h2
  · rw [if_neg hb] at h2
    subst h2
    exact ⟨hb, h1⟩
theorem av_frz {a : Addr} (h : av en [] al ⟨frzB B 0 s.v, s.h⟩ σ a) : av en B al s σ a := by
  rcases h with h | ⟨i, c, _, h1, h2⟩ | h
  · exact .inl h
  · obtain ⟨h3, h4⟩ := frz_own h1
    exact .inr (.inl ⟨i, c, h3, h4, h2⟩)
  · exact .inr (.inr h)
theorem mo_frz : Mo (rc K mg en B al s σ) H (rc K mg en [] al ⟨frzB B 0 s.v, s.h⟩ σ) H := ⟨fun _ _ h _ => h, fun a _ h z => h (av_frz z), fun _ h => h, Nat.le_refl _, fun _ _ => rfl, rfl, rfl⟩
theorem Sm.frz (m : Sm K mg en al s σ H) (B : List Nat) : Sm K mg en al ⟨frzB B 0 s.v, s.h⟩ σ H := by
  have mo : Mo (rc K mg en [] al s σ) H (rc K mg en [] al ⟨frzB B 0 s.v, s.h⟩ σ) H := mo_nil.trans (mo_frz (B := B))
  refine ⟨(frzB_len _ _ _).trans m.len, fun n c e => ⟨(m.cell n c e).1, (m.cell n c e).2.mo mo fun _ q => q⟩, m.inj, fun i d e => ?_, fun i c e => ?_, fun i j c c' a h1 h2 h3 h4 => m.dis i j c c' a (frz_own h1).2 (frz_own h2).2 h3 h4,
    m.ek, m.eal, m.enew, m.pres, m.dom, fun a x => ⟨(m.ext a x).1, (m.ext a x).2.1, fun i c e => (m.ext a x).2.2 i c (frz_own e).2⟩, m.pin, fun p hp => (m.hold p hp).mo mo⟩
  · rw [frzB_get, Option.map_eq_some_iff] at e
    obtain ⟨sd, h1, h2⟩ := e
    rw [Nat.zero_add] at h2
    have kept : sd = .val d → ∃ v, σ[i]? = some (some v) ∧ Rl (rc K mg en [] al ⟨frzB B 0 s.v, s.h⟩ σ) H d v := by
      rintro rfl
      obtain ⟨v, e1, r⟩ := m.slot i d h1
      exact ⟨v, e1, r.mo mo⟩
    by_cases hb : i ∈ B
    · rw [if_pos hb] at h2
      cases sd with
      | val x => cases h2; exact kept rfl
      | no => cases h2
      | own c =>
        obtain ⟨a, e1, r, n, z⟩ := m.own i c h1
        have na : ¬ av en [] al ⟨frzB B 0 s.v, s.h⟩ σ a := by
          rintro (⟨q, hq, e'⟩ | ⟨j, c', _, q1, q2⟩ | h)
          · exact z q hq e'
          · obtain ⟨q3, q4⟩ := frz_own q1
            exact q3 (m.dis i j c c' a h1 q4 e1 q2 ▸ hb)
          · exact (m.ext a h).2.2 i c h1 e1 
        cases c with
        | lst xs =>
          cases h2
          obtain ⟨us, g1, g2⟩ := r
          exact ⟨_, e1, a, us, rfl, g1, na, g2.mo mo⟩
        | dct ks vs =>
          cases h2
          obtain ⟨us, l, g1, g2⟩ := r
          exact ⟨_, e1, a, us, rfl, l, g1, na, g2.mo mo⟩
        | ins C ns vs => cases h2
    · rw [if_neg hb] at h2
      exact kept h2
  · obtain ⟨h3, h4⟩ := frz_own e
    obtain ⟨a, e1, r, n, z⟩ := m.own i c h4
    exact ⟨a, e1, r.mo mo fun _ q => q, n, z⟩
/-- a value is stored -/
theorem av_set {i : Nat} {x : V} {d : D} {a : Addr} (h : av en [] al ⟨s.v.set i (.val d), s.h⟩ (σ.set i (some x)) a) : av en [] al s σ a := by
  rcases h with h | ⟨j, c, _, h1, h2⟩ | h
  · exact .inl h
  · by_cases hj : i = j
    · subst hj
      rw [List.getElem?_set] at h1
      split at h1
      · split at h1 <;> cases h1
      · rename_i q; exact absurd rfl q
    · rw [List.getElem?_set_ne hj] at h1 h2
      exact Or.inr (Or.inl ⟨j, c, (fun z => nomatch z), h1, h2⟩)
  · exact .inr (.inr h)
theorem Sm.put (m : Sm K mg en al s σ H) {i : Nat} {x : V} {d : D} (r : Rl (rc K mg en [] al s σ) H d x) : Sm K mg en al ⟨s.v.set i (.val d), s.h⟩ (σ.set i (some x)) H := by
  have mo : Mo (rc K mg en [] al s σ) H (rc K mg en [] al ⟨s.v.set i (.val d), s.h⟩ (σ.set i (some x))) H := ⟨fun _ _ h _ => h, fun a _ h z => h (av_set z), fun _ h => h, Nat.le_refl _, fun _ _ => rfl, rfl, rfl⟩
  have own' : ∀ j c, (s.v.set i (.val d))[j]? = some (.own c) → i ≠ j ∧ s.v[j]? = some (.own c) := by
    intro j c h
    by_cases hj : i = j
    · subst hj
      rw [List.getElem?_set] at h
      split at h
      · split at h <;> cases h
      · rename_i q; exact absurd rfl q
    · rw [List.getElem?_set_ne hj] at h; exact ⟨hj, h⟩
  refine ⟨by simpa using m.len, fun n c e => ⟨(m.cell n c e).1, (m.cell n c e).2.mo mo fun _ q => q⟩, m.inj, fun j d' e => ?_, fun j c e => ?_, fun j l c c' a h1 h2 h3 h4 => ?_, m.ek, m.eal, m.enew, m.pres, m.dom, fun a x => ⟨(m.ext a x).1, (m.ext a x).2.1, fun j c e q => ?_⟩, m.pin, fun p hp => (m.hold p hp).mo mo⟩
  · by_cases hj : i = j
    · subst hj
      have hi : i < s.v.length := by
        have := (List.getElem?_eq_some_iff.mp e).1
        simpa using this
      rw [List.getElem?_set_self hi] at e
      cases e
      exact ⟨x, List.getElem?_set_self (m.len ▸ hi), r.mo mo⟩
    · rw [List.getElem?_set_ne hj] at e
      obtain ⟨v, e1, r1⟩ := m.slot j d' e
      exact ⟨v, by rw [List.getElem?_set_ne hj]; exact e1, r1.mo mo⟩
  · obtain ⟨hj, e⟩ := own' j c e
    obtain ⟨a, e1, r1, n, z⟩ := m.own j c e
    exact ⟨a, by rw [List.getElem?_set_ne hj]; exact e1, r1.mo mo fun _ q => q, n, z⟩
  · obtain ⟨hj, e⟩ := own' j c h1
    obtain ⟨hl, e'⟩ := own' l c' h2
    rw [List.getElem?_set_ne hj] at h3
    rw [List.getElem?_set_ne hl] at h4
    exact m.dis j l c c' a e e' h3 h4
  · obtain ⟨hj, e⟩ := own' j c e
    rw [List.getElem?_set_ne hj] at q
    exact (m.ext a x).2.2 j c e q
/-- flat or not: what is stored as a value -/
def Er.flat : Er → Bool
  | .val d => d.flat
  | .new _ => false
def putV (B : List Nat) (i : Nat) (d : D) (s : S) : S := ⟨((if d.flat then s.v else frzB B 0 s.v)).set i (.val d), s.h⟩
theorem Sm.putV (m : Sm K mg en al s σ H) {i : Nat} {x : V} {d : D} (r : Rl (rc K mg en B al s σ) H d x) : Sm K mg en al (putV B i d s) (σ.set i (some x)) H := by
  unfold MP.putV
  cases hf : d.flat with
  | true => exact m.put (Rl.fo (fo_rc (B := B)) hf r)
  | false => exact (m.frz B).put (s := ⟨frzB B 0 s.v, s.h⟩) (r.mo mo_frz)
end
def sAsg (B : List Nat) (i : Nat) (m : S → R Er) : S → R Fl := fun s => (m s).bind fun r s1 => .ok .nx (putV B i r.toD s1)
end MP

namespace MP
open PySem PySem.Spec PyProof.Rows L2
/-! a list (a dict) of the def's own -/
def ownFl (i : Nat) (k : Nat) : List SD → Bool
  | [] => true
  | sd :: r => (match sd with
    | .own c => c.flat || decide (k = i)
    | _ => true) && ownFl i (k + 1) r
theorem ownFl_get : ∀ {v : List SD} {i k j : Nat} {c : Con}, ownFl i k v = true → v[j]? = some (.own c) → k + j ≠ i → c.flat = true
  | [], i, k, j, c, _, e, _ => by simp at e
  | sd :: r, i, k, 0, c, h, e, n => by
    simp only [List.getElem?_cons_zero, Option.some.injEq] at e
    subst e
    simp only [ownFl, Bool.and_eq_true, Bool.or_eq_true, decide_eq_true_eq] at h
    rcases h.1 with h | h
    · exact h
    · exact absurd h n
  | sd :: r, i, k, j + 1, c, h, e, n => by
    simp only [ownFl, Bool.and_eq_true] at h
    exact ownFl_get h.2 (by simpa using e) (by omega)
section
variable {K : PySem.W.Frag} {mg : Str → Option Value} {W : WX} {en : En} {B : List Nat} {al al1 : Nat → Addr} {s s1 : S} {σ : PSt} {H H0 H1 : Hp}
theorem set_own {v : List SD} {i j : Nat} {c c' : Con} (h : (v.set i (.own c))[j]? = some (.own c')) : (i = j ∧ c = c' ∧ i < v.length) ∨ (i ≠ j ∧ v[j]? = some (.own c')) := by
  by_cases hj : i = j
  · subst hj
    have hi : i < v.length := by
      have := (List.getElem?_eq_some_iff.mp h).1
      simpa using this
    rw [List.getElem?_set_self hi] at h
    cases h
    exact .inl ⟨rfl, rfl, hi⟩
  · rw [List.getElem?_set_ne hj] at h; exact .inr ⟨hj, h⟩
/-- a new thing becomes a slot's own -/
theorem Sm.putOwn {a : Addr} {o : HO} {c : Con} {i : Nat} (m : Sm K mg en al s σ H) (ma : Sm K mg (en.add a o) al s σ H) (h0 : en.H a = none) (na : ¬ av en [] al s σ a) (r : ConR (rc K mg en B al s σ) H c a) (cf : c.flat = true) (fl : ownFl i 0 s.v = true) :
    Sm K mg en al ⟨s.v.set i (.own c), s.h⟩ (σ.set i (some (.ref a))) H := by
  have avE : ∀ b, av en [] al ⟨s.v.set i (.own c), s.h⟩ (σ.set i (some (.ref a))) b → av (en.add a o) [] al s σ b := by
    intro b x
    rcases x with x | ⟨j, c', _, h1, h2⟩ | x
    · exact .inl x
    · rcases set_own h1 with ⟨rfl, _, hi⟩ | ⟨hj, h1⟩
      · rw [List.getElem?_set_self (m.len ▸ hi)] at h2
        cases h2
        exact .inr (.inr (.inr rfl))
      · rw [List.getElem?_set_ne hj] at h2
        exact .inr (.inl ⟨j, c', (fun z => nomatch z), h1, h2⟩)
    · exact .inr (.inr (.inl x))
  have mo : Mo (rc K mg (en.add a o) [] al s σ) H (rc K mg en [] al ⟨s.v.set i (.own c), s.h⟩ (σ.set i (some (.ref a)))) H := ⟨fun _ _ h _ => h, fun b _ h z => h (avE b z), fun _ h => h, Nat.le_refl _, fun _ _ => rfl, rfl, rfl⟩
  have fo : ∀ {B}, Fo (rc K mg en B al s σ) H (rc K mg en [] al ⟨s.v.set i (.own c), s.h⟩ (σ.set i (some (.ref a)))) H := ⟨fun _ _ h _ => h, Nat.le_refl _, fun _ _ => rfl, rfl, rfl⟩
  refine ⟨by simpa using m.len, fun n c e => ⟨(m.cell n c e).1, (m.cell n c e).2.fo fo (m.cell n c e).1 fun _ q => q⟩, m.inj, fun j d e => ?_, fun j c' e => ?_, fun j l c1 c2 b h1 h2 h3 h4 => ?_, m.ek, m.eal, m.enew, m.pres, m.dom, fun b x => ⟨(m.ext b x).1, (m.ext b x).2.1, fun j c' e q => ?_⟩, m.pin, fun p hp => (ma.hold p hp).mo mo⟩
  · by_cases hj : i = j
    · subst hj
      rw [List.getElem?_set] at e
      split at e
      · split at e <;> cases e
      · rename_i q; exact absurd rfl q
    · rw [List.getElem?_set_ne hj] at e
      obtain ⟨v, e1, r1⟩ := ma.slot j d e
      exact ⟨v, by rw [List.getElem?_set_ne hj]; exact e1, r1.mo mo⟩
  · rcases set_own e with ⟨rfl, rfl, hi⟩ | ⟨hj, e⟩
    · exact ⟨a, List.getElem?_set_self (m.len ▸ hi), r.fo fo cf fun _ q => q, h0, fun n hn q => na (.inl ⟨n, hn, q⟩)⟩
    · obtain ⟨b, e1, r1, x, y⟩ := m.own j c' e
      exact ⟨b, by rw [List.getElem?_set_ne hj]; exact e1, r1.fo fo (ownFl_get fl e (by omega)) fun _ q => q, x, y⟩
  · rcases set_own h1 with ⟨rfl, _, hi⟩ | ⟨hj, h1⟩
    · rcases set_own h2 with ⟨rfl, _⟩ | ⟨hl, h2⟩
      · rfl
      · rw [List.getElem?_set_self (m.len ▸ hi)] at h3
        rw [List.getElem?_set_ne hl] at h4
        cases h3
        exact (na (.inr (.inl ⟨l, c2, (fun z => nomatch z), h2, h4⟩))).elim
    · rw [List.getElem?_set_ne hj] at h3
      rcases set_own h2 with ⟨rfl, _, hi⟩ | ⟨hl, h2⟩
      · rw [List.getElem?_set_self (m.len ▸ hi)] at h4
        cases h4
        exact (na (.inr (.inl ⟨j, c1, (fun z => nomatch z), h1, h3⟩))).elim
      · rw [List.getElem?_set_ne hl] at h4
        exact m.dis j l c1 c2 b h1 h2 h3 h4
  · rcases set_own e with ⟨rfl, _, hi⟩ | ⟨hj, e⟩
    · rw [List.getElem?_set_self (m.len ▸ hi)] at q
      cases q
      exact na (.inr (.inr x))
    · rw [List.getElem?_set_ne hj] at q
      exact (m.ext b x).2.2 j c' e q
/-- what stands at a slot's own address is changed -/
theorem Sm.ownSet {a : Addr} {c c' : Con} {i : Nat} {o' : HO} {H' : Hp} (m : Sm K mg en al s σ H) (hc : s.v[i]? = some (.own c)) (hi : σ[i]? = some (some (.ref a))) (k : ∀ b, b ≠ a → H' b = H b) (ha : H' a = some o') (so : stay o' = false)
    (r : ConR (rc K mg en [] al ⟨s.v.set i (.own c'), s.h⟩ σ) H' c' a) : Sm K mg en al ⟨s.v.set i (.own c'), s.h⟩ σ H' := by
  have il : i < s.v.length := (List.getElem?_eq_some_iff.mp hc).1
  have own0 : ∀ (j : Nat) (d : Con), (s.v.set i (.own c'))[j]? = some (.own d) → ∃ d', s.v[j]? = some (.own d') := by
    intro j d h
    rcases set_own h with ⟨rfl, _⟩ | ⟨_, h⟩
    · exact ⟨c, hc⟩
    · exact ⟨d, h⟩
  have avE : ∀ b, av en [] al ⟨s.v.set i (.own c'), s.h⟩ σ b → av en [] al s σ b := by
    intro b x
    rcases x with x | ⟨j, d, _, h1, h2⟩ | x
    · exact .inl x
    · obtain ⟨d', h1⟩ := own0 j d h1
      exact .inr (.inl ⟨j, d', (fun z => nomatch z), h1, h2⟩)
    · exact .inr (.inr x)
  obtain ⟨a', e', r', n', z'⟩ := m.own i c hc
  rw [hi] at e'
  cases e'
  obtain ⟨o0, ho0, st0⟩ := r'.some
  have ava : av en [] al s σ a := .inr (.inl ⟨i, c, (fun z => nomatch z), hc, hi⟩)
  have mo : Mo (rc K mg en [] al s σ) H (rc K mg en [] al ⟨s.v.set i (.own c'), s.h⟩ σ) H' := by
    refine ⟨fun b u e x => ?_, fun b _ x y => x (avE b y), fun b e => ?_, Nat.le_refl _, fun _ _ => rfl, rfl, rfl⟩
    · have : b ≠ a := by
        rintro rfl
        rcases x with x | x
        · rw [ho0] at e; cases e; rw [st0] at x; cases x
        · exact x ava
      rw [k b this]; exact e
    · by_cases hb : b = a
      · subst hb; rw [ha] at e; cases e
      · rw [← k b hb]; exact e
  refine ⟨by simpa using m.len, fun n d e => ⟨(m.cell n d e).1, (m.cell n d e).2.mo mo fun u q => ?_⟩, m.inj, fun j d e => ?_, fun j d e => ?_, fun j l c1 c2 b h1 h2 h3 h4 => ?_, m.ek, m.eal, m.enew, fun b u e x => ?_, fun b e => m.dom b (mo.dom b e), fun b x => ?_, fun p hp => ?_, fun p hp => (m.hold p hp).mo mo⟩
  · have : al n ≠ a := fun z => z' n (List.getElem?_eq_some_iff.mp e).1 z
    rw [k _ this]; exact q
  · have hj : i ≠ j := by
      rintro rfl
      rw [List.getElem?_set_self il] at e; cases e
    rw [List.getElem?_set_ne hj] at e
    obtain ⟨v, e1, r1⟩ := m.slot j d e
    exact ⟨v, e1, r1.mo mo⟩
  · rcases set_own e with ⟨rfl, rfl, _⟩ | ⟨hj, e⟩
    · exact ⟨a, hi, r, n', z'⟩
    · obtain ⟨b, e1, r1, x, y⟩ := m.own j d e
      refine ⟨b, e1, r1.mo mo fun u q => ?_, x, y⟩
      have : b ≠ a := by
        rintro rfl
        exact hj (m.dis i j c d b hc e hi e1)
      rw [k b this]; exact q
  · obtain ⟨d1, h1⟩ := own0 j c1 h1
    obtain ⟨d2, h2⟩ := own0 l c2 h2
    exact m.dis j l d1 d2 b h1 h2 h3 h4
  · have := m.pres b u e x
    have hb : b ≠ a := by rintro rfl; rw [n'] at e; cases e
    rw [k b hb]; exact this
  · obtain ⟨⟨u, h1, h2⟩, h3, h4⟩ := m.ext b x
    have hb : b ≠ a := by rintro rfl; exact h4 i c hc hi
    refine ⟨⟨u, by rw [k b hb]; exact h1, h2⟩, h3, fun j d e q => ?_⟩
    obtain ⟨d', e⟩ := own0 j d e
    exact h4 j d' e q
  · obtain ⟨h1, h2⟩ := m.pin p hp
    have hb : p.1 ≠ a := by
      intro z
      exact (m.ext _ h1).2.2 i c hc (z ▸ hi)
    exact ⟨h1, by rw [k _ hb]; exact h2⟩
/-- a cell is changed -/
theorem Sm.cellSet {c c' : Con} {n : Nat} {o' : HO} {H' : Hp} (m : Sm K mg en al s σ H) (hc : s.h[n]? = some c) (k : ∀ b, b ≠ al n → H' b = H b) (ha : H' (al n) = some o') (so : stay o' = false) (cf : c'.flat = true)
    (r : ConR (rc K mg en [] al ⟨s.v, s.h.set n c'⟩ σ) H' c' (al n)) : Sm K mg en al ⟨s.v, s.h.set n c'⟩ σ H' := by
  have il : n < s.h.length := (List.getElem?_eq_some_iff.mp hc).1
  have hl : (s.h.set n c').length = s.h.length := by simp
  have avE : ∀ b, av en [] al ⟨s.v, s.h.set n c'⟩ σ b → av en [] al s σ b := by
    intro b x
    rcases x with ⟨q, hq, x⟩ | x
    · exact .inl ⟨q, by simpa using hq, x⟩
    · exact .inr x
  obtain ⟨o0, ho0, st0⟩ := (m.cell n c hc).2.some
  have ava : av en [] al s σ (al n) := .inl ⟨n, il, rfl⟩
  have mo : Mo (rc K mg en [] al s σ) H (rc K mg en [] al ⟨s.v, s.h.set n c'⟩ σ) H' := by
    refine ⟨fun b u e x => ?_, fun b _ x y => x (avE b y), fun b e => ?_, by show s.h.length ≤ (s.h.set n c').length; omega, fun _ _ => rfl, rfl, rfl⟩
    · have : b ≠ al n := by
        rintro rfl
        rcases x with x | x
        · rw [ho0] at e; cases e; rw [st0] at x; cases x
        · exact x ava
      rw [k b this]; exact e
    · by_cases hb : b = al n
      · subst hb; rw [ha] at e; cases e
      · rw [← k b hb]; exact e
  refine ⟨m.len, fun q d e => ?_, fun a b h1 h2 => m.inj a b (by simpa using h1) (by simpa using h2), fun j d e => ?_, fun j d e => ?_, m.dis, by show en.k ≤ (s.h.set n c').length; rw [hl]; exact m.ek, m.eal, fun q h1 h2 => m.enew q h1 (by simpa using h2), fun b u e x => ?_, fun b e => m.dom b (mo.dom b e), fun b x => ?_, fun p hp => ?_, fun p hp => (m.hold p hp).mo mo⟩
  · by_cases hq : n = q
    · subst hq
      rw [show (S.mk s.v (s.h.set n c')).h = s.h.set n c' from rfl, List.getElem?_set_self il] at e
      cases e
      exact ⟨cf, r⟩
    · rw [show (S.mk s.v (s.h.set n c')).h = s.h.set n c' from rfl, List.getElem?_set_ne hq] at e
      refine ⟨(m.cell q d e).1, (m.cell q d e).2.mo mo fun u x => ?_⟩
      have : al q ≠ al n := fun z => hq (m.inj _ _ il (List.getElem?_eq_some_iff.mp e).1 z.symm)
      rw [k _ this]; exact x
  · obtain ⟨v, e1, r1⟩ := m.slot j d e
    exact ⟨v, e1, r1.mo mo⟩
  · obtain ⟨b, e1, r1, x, y⟩ := m.own j d e
    refine ⟨b, e1, r1.mo mo fun u q => ?_, x, fun q hq => y q (by simpa using hq)⟩
    rw [k b (y n il).symm]; exact q
  · have h0 := m.pres b u e x
    have hb : b ≠ al n := by
      rintro rfl
      by_cases hk : n < en.k
      · exact x n hk (m.eal n hk).symm
      · rw [m.enew n (Nat.le_of_not_lt hk) il] at e; cases e
    rw [k b hb]; exact h0
  · obtain ⟨⟨u, h1, h2⟩, h3, h4⟩ := m.ext b x
    exact ⟨⟨u, by rw [k b (h3 n il).symm]; exact h1, h2⟩, fun q hq => h3 q (by simpa using hq), h4⟩
  · obtain ⟨h1, h2⟩ := m.pin p hp
    exact ⟨h1, by rw [k _ ((m.ext _ h1).2.1 n il).symm]; exact h2⟩
/-- a new thing becomes a cell -/
theorem Sm.putCell {a : Addr} {o : HO} {c : Con} {i : Nat} (m : Sm K mg en al s σ H) (ma : Sm K mg (en.add a o) al s σ H) (h0 : en.H a = none) (na : ¬ av en [] al s σ a) (r : ConR (rc K mg en B al s σ) H c a) (cf : c.flat = true) (fl : ownFl i 0 s.v = true) :
    Sm K mg en (fun n => if n = s.h.length then a else al n) ⟨s.v.set i (.val (.ref s.h.length)), s.h ++ [c]⟩ (σ.set i (some (.ref a))) H := by
  have hl : (s.h ++ [c]).length = s.h.length + 1 := by simp
  have alo : ∀ n, n < s.h.length → (if n = s.h.length then a else al n) = al n := fun n hn => if_neg (by omega)
  have avE : ∀ b, av en [] (fun n => if n = s.h.length then a else al n) ⟨s.v.set i (.val (.ref s.h.length)), s.h ++ [c]⟩ (σ.set i (some (.ref a))) b → av (en.add a o) [] al s σ b := by
    intro b x
    rcases x with ⟨n, hn, e⟩ | ⟨j, c', _, h1, h2⟩ | x
    · have hn : n < (s.h ++ [c]).length := hn
      rw [hl] at hn
      replace e : (if n = s.h.length then a else al n) = b := e
      by_cases hk : n = s.h.length
      · rw [if_pos hk] at e
        exact .inr (.inr (.inr e.symm))
      · rw [if_neg hk] at e
        exact .inl ⟨n, by omega, e⟩
    · by_cases hj : i = j
      · subst hj
        rw [List.getElem?_set] at h1
        split at h1
        · split at h1 <;> cases h1
        · rename_i q; exact absurd rfl q
      · rw [List.getElem?_set_ne hj] at h1 h2
        exact .inr (.inl ⟨j, c', (fun z => nomatch z), h1, h2⟩)
    · exact .inr (.inr (.inl x))
  have hk : s.h.length ≤ (s.h ++ [c]).length := by omega
  have mo : Mo (rc K mg (en.add a o) [] al s σ) H (rc K mg en [] (fun n => if n = s.h.length then a else al n) ⟨s.v.set i (.val (.ref s.h.length)), s.h ++ [c]⟩ (σ.set i (some (.ref a)))) H := ⟨fun _ _ h _ => h, fun b _ h z => h (avE b z), fun _ h => h, hk, fun n hn => alo n hn, rfl, rfl⟩
  have fo : ∀ {B}, Fo (rc K mg en B al s σ) H (rc K mg en [] (fun n => if n = s.h.length then a else al n) ⟨s.v.set i (.val (.ref s.h.length)), s.h ++ [c]⟩ (σ.set i (some (.ref a)))) H := ⟨fun _ _ h _ => h, hk, fun n hn => alo n hn, rfl, rfl⟩
  have nc : ∀ n, n < s.h.length → al n ≠ a := fun n hn e => na (.inl ⟨n, hn, e⟩)
  refine ⟨by simpa using m.len, fun n d e => ?_, fun n q h1 h2 e => ?_, fun j d e => ?_, fun j c' e => ?_, fun j l c1 c2 b h1 h2 h3 h4 => ?_, Nat.le_trans m.ek hk, fun n hn => (alo n (Nat.lt_of_lt_of_le hn m.ek)).trans (m.eal n hn), fun n h1 h2 => ?_, m.pres, m.dom, fun b x => ⟨(m.ext b x).1, fun n hn e => ?_, fun j c' e q => ?_⟩, m.pin, fun p hp => (ma.hold p hp).mo mo⟩
  · by_cases hn : n < s.h.length
    · rw [show (S.mk (s.v.set i (.val (.ref s.h.length))) (s.h ++ [c])).h = s.h ++ [c] from rfl, List.getElem?_append_left hn] at e
      refine ⟨(m.cell n d e).1, ?_⟩
      rw [alo n hn]
      exact (m.cell n d e).2.fo fo (m.cell n d e).1 fun _ q => q
    · have hn2 : n < (s.h ++ [c]).length := (List.getElem?_eq_some_iff.mp e).1
      have : n = s.h.length := by omega
      subst this
      rw [show (S.mk (s.v.set i (.val (.ref s.h.length))) (s.h ++ [c])).h = s.h ++ [c] from rfl] at e
      simp at e
      subst e
      refine ⟨cf, ?_⟩
      rw [if_pos rfl]
      exact r.fo fo cf fun _ q => q
  · have h1 : n < (s.h ++ [c]).length := h1
    have h2 : q < (s.h ++ [c]).length := h2
    rw [hl] at h1 h2
    by_cases e1 : n = s.h.length
    · by_cases e2 : q = s.h.length
      · omega
      · rw [if_pos e1, if_neg e2] at e
        exact (nc q (by omega) e.symm).elim
    · by_cases e2 : q = s.h.length
      · rw [if_neg e1, if_pos e2] at e
        exact (nc n (by omega) e).elim
      · rw [if_neg e1, if_neg e2] at e
        exact m.inj n q (by omega) (by omega) e
  · by_cases hj : i = j
    · subst hj
      have hi : i < s.v.length := by
        have := (List.getElem?_eq_some_iff.mp e).1
        simpa using this
      rw [List.getElem?_set_self hi] at e
      cases e
      exact ⟨.ref a, List.getElem?_set_self (m.len ▸ hi), by show s.h.length < (s.h ++ [c]).length; omega, by
        show V.ref a = V.ref (if s.h.length = s.h.length then a else _)
        rw [if_pos rfl]⟩
    · rw [List.getElem?_set_ne hj] at e
      obtain ⟨v, e1, r1⟩ := ma.slot j d e
      exact ⟨v, by rw [List.getElem?_set_ne hj]; exact e1, r1.mo mo⟩
  · have hj : i ≠ j := by
      rintro rfl
      rw [List.getElem?_set] at e
      split at e
      · split at e <;> cases e
      · rename_i q; exact absurd rfl q
    rw [List.getElem?_set_ne hj] at e
    obtain ⟨b, e1, r1, x, y⟩ := m.own j c' e
    refine ⟨b, by rw [List.getElem?_set_ne hj]; exact e1, r1.fo fo (ownFl_get fl e (by omega)) fun _ q => q, x, fun n hn q => ?_⟩
    have hn : n < (s.h ++ [c]).length := hn
    rw [hl] at hn
    by_cases hk : n = s.h.length
    · rw [if_pos hk] at q
      exact na (.inr (.inl ⟨j, c', (fun z => nomatch z), e, q ▸ e1⟩))
    · rw [if_neg hk] at q
      exact y n (by omega) q
  · have g : ∀ (j : Nat) (d : Con), (s.v.set i (.val (.ref s.h.length)))[j]? = some (.own d) → i ≠ j ∧ s.v[j]? = some (.own d) := by
      intro j d e
      by_cases hj : i = j
      · subst hj
        rw [List.getElem?_set] at e
        split at e
        · split at e <;> cases e
        · rename_i q; exact absurd rfl q
      · rw [List.getElem?_set_ne hj] at e; exact ⟨hj, e⟩
    obtain ⟨hj, h1⟩ := g j c1 h1
    obtain ⟨hl, h2⟩ := g l c2 h2
    rw [List.getElem?_set_ne hj] at h3
    rw [List.getElem?_set_ne hl] at h4
    exact m.dis j l c1 c2 b h1 h2 h3 h4
  · have h2 : n < (s.h ++ [c]).length := h2
    rw [hl] at h2
    by_cases hk : n = s.h.length
    · rw [if_pos hk]; exact h0
    · rw [if_neg hk]; exact m.enew n h1 (by omega)
  · have hn : n < (s.h ++ [c]).length := hn
    rw [hl] at hn
    by_cases hk : n = s.h.length
    · rw [if_pos hk] at e
      exact na (.inr (.inr (e ▸ x)))
    · rw [if_neg hk] at e
      exact (m.ext b x).2.1 n (by omega) e
  · have hj : i ≠ j := by
      rintro rfl
      rw [List.getElem?_set] at e
      split at e
      · split at e <;> cases e
      · rename_i q; exact absurd rfl q
    rw [List.getElem?_set_ne hj] at e q
    exact (m.ext b x).2.2 j c' e q
end
end MP

namespace MP
open PySem PySem.Spec PyProof.Rows L2
/-! a list that is changed: a slot's own, or a cell -/
abbrev GMut := List D → List D → Option (D × List D)
def MutOk (r : V → List V → Hp → VK → Prop) (g : GMut) : Prop :=
  ∀ (E : RC) (H : Hp) (a : Addr) (xs ds : List D) (us vs : List V) (ret : D) (xs' : List D), E.av a → H a = some (.lst us) → RlL E H xs us → RlL E H ds vs → g xs ds = some (ret, xs') →
    ∃ v us', (∀ E' H', (∀ b, b ≠ a → H' b = H b) → RlL E' H' xs us → RlL E' H' ds vs → RlL E' H' xs' us' ∧ Rl E' H' ret v) ∧ ∀ Q : VK, Q v (upd H a (.lst us')) → r (.ref a) vs H Q
def doMut (B : List Nat) (i : Nat) (g : GMut) (ds : List D) (s1 : S) : R Er := match s1.v[i]? with
  | some (.own (.lst xs)) => match g xs ds with
    | some (ret, xs') => if ((D.flatL ds || B.isEmpty) || D.flatL xs') = true then .ok (.val ret) ⟨s1.v.set i (.own (.lst xs')), s1.h⟩ else .bad
    | none => .bad
  | some (.val (.ref n)) => match s1.h[n]? with
    | some (.lst xs) => match g xs ds with
      | some (ret, xs') => if D.flatL xs' = true then .ok (.val ret) ⟨s1.v, s1.h.set n (.lst xs')⟩ else .bad
      | none => .bad
    | _ => .bad
  | _ => .bad
def isLst (s : S) (i : Nat) : Bool := match s.v[i]? with
  | some (.own (.lst _)) => true
  | some (.val (.ref n)) => match s.h[n]? with
    | some (.lst _) => true
    | _ => false
  | _ => false
def eMut (B : List Nat) (i : Nat) (g : GMut) (ms : S → R (List D)) : S → R Er := fun s => if isLst s i = true then (ms s).bind (doMut B i g) else .bad
section
variable {K : PySem.W.Frag} {mg : Str → Option Value} {W : WX} {en : En} {B : List Nat} {al al1 : Nat → Addr} {s s1 : S} {σ : PSt} {H H0 H1 : Hp}
theorem flat_all {ds : List D} {vs : List V} (f : (D.flatL ds || B.isEmpty) = true) (r : RlL (rc K mg en B al s σ) H ds vs) : RlL (rc K mg en [] al s σ) H ds vs := by
  rw [Bool.or_eq_true] at f
  rcases f with f | f
  · exact RlL.fo (fo_rc (B := B)) f r
  · have : B = [] := by simpa using f
    subst this; exact r
theorem fo_rcB {B2 : List Nat} : Fo (rc K mg en B al s σ) H (rc K mg en B2 al s σ) H := ⟨fun _ _ h _ => h, Nat.le_refl _, fun _ _ => rfl, rfl, rfl⟩
theorem do_mut {r : V → List V → Hp → VK → Prop} {g : GMut} (ok : MutOk r g) {i : Nat} (hB : i ∉ B) {ds : List D} {vs : List V} (st : Sm K mg en al s σ H) (rd : RlL (rc K mg en B al s σ) H ds vs) {Kk : Er → S → (Nat → Addr) → Hp → Prop}
    (hw : Wp K mg W en B al s σ H (doMut B i g ds s) Kk) : ∃ x, σ[i]? = some (some x) ∧ tyV K "list" x H ∧ ∀ Q : VK, (∀ s' al' H' v d, Sm K mg en al' s' σ H' → Rl (rc K mg en B al' s' σ) H' d v → Kk (.val d) s' al' H' → (∀ a, H' a = none → H a = none) → Q v H') → r x vs H Q := by
  unfold doMut at hw
  split at hw
  · rename_i xs hi
    obtain ⟨a, e, ⟨us, h1, h2⟩, n, z⟩ := st.own i _ hi
    have il : i < s.v.length := (List.getElem?_eq_some_iff.mp hi).1
    split at hw
    · rename_i ret xs' hg
      split at hw
      case isFalse => exact hw.elim
      case isTrue hf =>
      rw [Bool.or_eq_true] at hf
      refine ⟨.ref a, e, .inl ⟨rfl, us, SqL.of h1⟩, fun Q q => ?_⟩
      have ava : av en [] al s σ a := .inr (.inl ⟨i, _, (fun z => nomatch z), hi, e⟩)
      have avB : av en B al s σ a := .inr (.inl ⟨i, _, hB, hi, e⟩)
      have avE : ∀ {B'} b, av en B' al ⟨s.v.set i (.own (.lst xs')), s.h⟩ σ b → av en B' al s σ b := by
        intro B' b x
        rcases x with x | ⟨j, d, hj, q1, q2⟩ | x
        · exact .inl x
        · rcases set_own q1 with ⟨rfl, _, _⟩ | ⟨_, q1⟩
          · exact .inr (.inl ⟨i, _, hj, hi, q2⟩)
          · exact .inr (.inl ⟨j, d, hj, q1, q2⟩)
        · exact .inr (.inr x)
      have mo : ∀ {B'} (us' : List V), av en B' al s σ a → Mo (rc K mg en B' al s σ) H (rc K mg en B' al ⟨s.v.set i (.own (.lst xs')), s.h⟩ σ) (upd H a (.lst us')) := by
        intro B' us' hav
        refine ⟨fun b u q x => ?_, fun b _ x y => x (avE b y), fun b q => ?_, Nat.le_refl _, fun _ _ => rfl, rfl, rfl⟩
        · have : b ≠ a := by
            rintro rfl
            rcases x with x | x
            · rw [h1] at q; cases q; cases x
            · exact x hav
          rw [upd_ne this]; exact q
        · by_cases hb : b = a
          · subst hb; rw [upd_same] at q; cases q
          · rw [upd_ne hb] at q; exact q
      rcases hf with hf | hf
      · have rd0 := flat_all hf rd
        obtain ⟨v, us', tr, fin⟩ := ok _ H a xs ds us vs ret xs' ava h1 h2 rd0 hg
        refine fin Q ?_
        obtain ⟨t1, t2⟩ := tr _ _ (fun b hb => upd_ne hb) (h2.mo (mo us' ava)) (rd0.mo (mo us' ava))
        have st' := st.ownSet (c' := .lst xs') hi e (fun b hb => upd_ne hb) upd_same rfl ⟨us', upd_same, t1⟩
        exact q _ al _ v ret st' (t2.mo mo_nil) (hw al _ st' (mo us' avB)) (mo us' avB).dom
      · obtain ⟨v, us', tr, fin⟩ := ok _ H a xs ds us vs ret xs' avB h1 (h2.mo mo_nil) rd hg
        refine fin Q ?_
        obtain ⟨t1, t2⟩ := tr _ _ (fun b hb => upd_ne hb) ((h2.mo mo_nil).mo (mo us' avB)) (rd.mo (mo us' avB))
        have st' := st.ownSet (c' := .lst xs') hi e (fun b hb => upd_ne hb) upd_same rfl ⟨us', upd_same, t1.fo fo_rcB hf⟩
        exact q _ al _ v ret st' t2 (hw al _ st' (mo us' avB)) (mo us' avB).dom
    · exact hw.elim
  · rename_i n hi
    obtain ⟨x, e, rx⟩ := st.slot i _ hi
    have rn : n < s.h.length := rx.1
    have rx : x = .ref (al n) := rx.2
    split at hw
    · rename_i xs hc
      obtain ⟨us, h1, h2⟩ := (st.cell n _ hc).2
      split at hw
      · rename_i ret xs' hg
        split at hw
        · rename_i fx
          subst rx
          refine ⟨_, e, .inl ⟨rfl, us, SqL.of h1⟩, fun Q q => ?_⟩
          obtain ⟨v, us', tr, fin⟩ := ok _ H (al n) xs ds us vs ret xs' (show av en B al s σ (al n) from .inl ⟨n, rn, rfl⟩) h1 (h2.mo mo_nil) rd hg
          refine fin Q ?_
          have ava : ∀ {B'}, av en B' al s σ (al n) := .inl ⟨n, rn, rfl⟩
          have avE : ∀ {B'} b, av en B' al ⟨s.v, s.h.set n (.lst xs')⟩ σ b → av en B' al s σ b := by
            intro B' b x
            rcases x with ⟨q, hq, x⟩ | x
            · exact .inl ⟨q, by simpa using hq, x⟩
            · exact .inr x
          have mo : ∀ {B'}, Mo (rc K mg en B' al s σ) H (rc K mg en B' al ⟨s.v, s.h.set n (.lst xs')⟩ σ) (upd H (al n) (.lst us')) := by
            intro B'
            refine ⟨fun b u q x => ?_, fun b _ x y => x (avE b y), fun b q => ?_, by show s.h.length ≤ (s.h.set n _).length; simp, fun _ _ => rfl, rfl, rfl⟩
            · have : b ≠ al n := by
                rintro rfl
                rcases x with x | x
                · rw [h1] at q; cases q; cases x
                · exact x ava
              rw [upd_ne this]; exact q
            · by_cases hb : b = al n
              · subst hb; rw [upd_same] at q; cases q
              · rw [upd_ne hb] at q; exact q
          obtain ⟨t1, t2⟩ := tr _ _ (fun b hb => upd_ne hb) ((h2.mo mo_nil).mo mo) (rd.mo mo)
          have st' := st.cellSet (c' := .lst xs') hc (fun b hb => upd_ne hb) upd_same rfl fx ⟨us', upd_same, t1.fo fo_rcB fx⟩
          exact q _ al _ v ret st' t2 (hw al _ st' mo) (mo (B' := B)).dom
        · exact hw.elim
      · exact hw.elim
    · exact hw.elim
  · exact hw.elim
end
/-! the list's methods -/
def gApp : GMut := fun xs ds => match ds with
  | [d] => if xs.length < maxL then some (.non, xs ++ [d]) else none
  | _ => none
theorem mu_app : MutOk rAppend gApp := by
  intro E H a xs ds us vs ret xs' hav h1 h2 h3 e
  unfold gApp at e
  split at e
  · split at e
    · rename_i d hl
      cases e
      obtain ⟨v, rfl, r⟩ := h3.one
      exact ⟨.non, us ++ [v], fun E' H' kk r1 r2 => ⟨r1.append r2, rfl⟩, fun Q q => ⟨a, us, v, rfl, rfl, h1, by rw [← h2.length]; exact maxL_lt hl, q⟩⟩
    · cases e
  · cases e
def gPop : GMut := fun xs ds => match ds with
  | [] => (xs[xs.length - 1]?).map fun d => (d, xs.dropLast)
  | _ => none
theorem dropLast_rl {E : RC} {H : Hp} {ds : List D} {vs : List V} (r : RlL E H ds vs) : RlL E H ds.dropLast vs.dropLast := by
  rw [List.dropLast_eq_take, List.dropLast_eq_take, r.length]; exact r.take _
theorem mu_pop : MutOk rPop gPop := by
  intro E H a xs ds us vs ret xs' hav h1 h2 h3 e
  unfold gPop at e
  split at e
  · rw [Option.map_eq_some_iff] at e
    obtain ⟨d, e1, e2⟩ := e
    cases e2
    obtain ⟨v, e3, _⟩ := h2.get e1
    rw [h2.length] at e3
    refine ⟨v, us.dropLast, fun E' H' kk r1 r2 => ⟨dropLast_rl r1, ?_⟩, fun Q q => ⟨a, us, v, rfl, h3, h1, e3, q⟩⟩
    obtain ⟨v', e4, r4⟩ := r1.get e1
    rw [r1.length, e3] at e4
    cases e4
    exact r4
  · cases e
def gExt : GMut := fun xs ds => match ds with
  | [.lst ys] => if xs.length + ys.length ≤ maxL then some (.non, xs ++ ys) else none
  | _ => none
theorem mu_ext : MutOk rExtend gExt := by
  intro E H a xs ds us vs ret xs' hav h1 h2 h3 e
  unfold gExt at e
  split at e
  · split at e
    · rename_i ys hl
      cases e
      obtain ⟨v, rfl, r⟩ := h3.one
      obtain ⟨b, ws, rfl, g1, g3, g2⟩ := r
      refine ⟨.non, us ++ ws, fun E' H' kk r1 r2 => ⟨?_, rfl⟩, fun Q q => ⟨a, b, us, ws, rfl, rfl, h1, g1, by rw [← h2.length, ← g2.length]; exact maxL_le hl, q⟩⟩
      obtain ⟨v', e', r2⟩ := r2.one
      cases e'
      obtain ⟨b', ws', e', g4, _, g5⟩ := r2
      cases e'
      have hb : b ≠ a := by rintro rfl; exact g3 hav
      rw [kk b hb, g1] at g4
      cases g4
      exact r1.append g5
    · cases e
  · cases e
def gPopAt : GMut := fun xs ds => match ds with
  | [.int i] => if (decide (-(2 ^ 63) ≤ i) && decide (i < 2 ^ 63)) = true then (seqIndex? i xs.length).bind fun k => (xs[k]?).map fun d => (d, xs.eraseIdx k) else none
  | _ => none
theorem RlL.erase {E : RC} {H : Hp} : ∀ {ds : List D} {vs : List V} (i : Nat), RlL E H ds vs → RlL E H (ds.eraseIdx i) (vs.eraseIdx i)
  | [], vs, i, h => by cases h; exact rfl
  | d' :: ds, vs, 0, h => by
    obtain ⟨v', r, rfl, h1, h2⟩ := h
    exact h2
  | d' :: ds, vs, i + 1, h => by
    obtain ⟨v', r, rfl, h1, h2⟩ := h
    exact ⟨v', _, rfl, h1, RlL.erase i h2⟩
theorem mu_popAt : MutOk rPopAt gPopAt := by
  intro E H a xs ds us vs ret xs' hav h1 h2 h3 e
  unfold gPopAt at e
  split at e
  · split at e
    · rename_i i hz
      simp only [Bool.and_eq_true, decide_eq_true_eq] at hz
      rw [Option.bind_eq_some_iff] at e
      obtain ⟨k, e0, e⟩ := e
      rw [Option.map_eq_some_iff] at e
      obtain ⟨d, e1, e2⟩ := e
      cases e2
      obtain ⟨x, rfl, rx⟩ := h3.one
      obtain ⟨v, e3, _⟩ := h2.get e1
      refine ⟨v, us.eraseIdx k, fun E' H' kk r1 r2 => ⟨r1.erase k, ?_⟩, fun Q q => ⟨a, us, i, k, v, rfl, by rw [show x = .int i from rx], h1, hz.1, hz.2, by rw [← h2.length]; exact e0, e3, q⟩⟩
      obtain ⟨v', e4, r4⟩ := r1.get e1
      rw [e3] at e4
      cases e4
      exact r4
    · cases e
  · cases e
/-- x[i] = v: the value, the index -/
def rSetI : V → List V → Hp → VK → Prop := fun x vs H Q => ∃ v i, vs = [v, i] ∧ rSetL x i v H fun H' => Q .non H'
def gSet : GMut := fun xs ds => match ds with
  | [d, .int i] => (ixN xs.length i).map fun j => (.non, xs.set j d)
  | _ => none
theorem mu_set : MutOk rSetI gSet := by
  intro E H a xs ds us vs ret xs' hav h1 h2 h3 e
  unfold gSet at e
  split at e
  · rename_i d i
    rw [Option.map_eq_some_iff] at e
    obtain ⟨j, e1, e2⟩ := e
    cases e2
    obtain ⟨v, u, rfl, r3, r4⟩ := h3.two
    refine ⟨.non, us.set j v, fun E' H' kk r1 r2 => ?_, fun Q q => ⟨v, u, rfl, a, us, i, j, rfl, r4, h1, by rw [← h2.length]; exact e1, q⟩⟩
    obtain ⟨v', u', e', r5, _⟩ := r2.two
    cases e'
    exact ⟨RlL.set r5 j r1, rfl⟩
  · cases e
section
variable {X : Cx} {W : WX} {B : List Nat} {a b : Expr} {es : List Expr} {ms : S → R (List D)} {ma mb : S → R Er} {pos apos p tpos : Pos} {x : Str} {name : Str} {id : String}
theorem isLst_ty {K : PySem.W.Frag} {mg : Str → Option Value} {en : En} {al : Nat → Addr} {s : S} {i : Nat} {σ : PSt} {H : Hp} (st : Sm K mg en al s σ H) (h : isLst s i = true) : ∃ x, σ[i]? = some (some x) ∧ tyV K "list" x H := by
  unfold isLst at h
  split at h
  · rename_i xs hi
    obtain ⟨a, e, ⟨us, h1, h2⟩, _⟩ := st.own i _ hi
    exact ⟨_, e, .inl ⟨rfl, us, SqL.of h1⟩⟩
  · rename_i n hi
    split at h
    · rename_i xs hc
      obtain ⟨us, h1, h2⟩ := (st.cell n _ hc).2
      obtain ⟨x, e, rx⟩ := st.slot i _ hi
      have rx : x = .ref (al n) := rx.2
      subst rx
      exact ⟨_, e, .inl ⟨rfl, us, SqL.of h1⟩⟩
    · cases h
  · cases h
theorem t_mut {r : V → List V → Hp → VK → Prop} {g : GMut} (ok : MutOk r g) {K : PySem.W.Frag} {mg : Str → Option Value} {en : En} {i : Nat} (hB : i ∉ B) {σ : PSt} {H : Hp} {Q : VK} (h : TEm K mg W en B (eMut B i g ms) σ H Q) :
    ∃ x, σ[i]? = some (some x) ∧ tyV K "list" x H ∧ TAm K mg W en B ms σ H fun vs H1 => r x vs H1 Q := by
  obtain ⟨al, s, hs, hw⟩ := h
  unfold eMut at hw
  split at hw
  case isFalse => exact hw.elim
  case isTrue hl =>
  obtain ⟨x, e, ty⟩ := isLst_ty hs hl
  refine ⟨x, e, ty, TA_sub hs hw fun ds s1 al1 H1 vs st1 mo1 rd hw1 => ?_⟩
  obtain ⟨x', e', _, fin⟩ := do_mut ok hB st1 rd hw1
  rw [e] at e'
  cases e'
  exact fin Q fun s' al' H' v d st' rv k dm => k v rv
/-- x.m(e, ..) -/
theorem me_mut {r : V → List V → Hp → VK → Prop} {g : GMut} (i : Nat) (ok : MutOk r g) (slot : Slot "list" name id) (hty : typeOf (.builtin id) = pure (.type "method_descriptor")) (hm : MtR X id r) (hx : PE X (.Name x p) (tVar i)) (ha : MA X W B (a :: es) ms) (hB : i ∉ B)
    (hbase : attributeBase (.Name x p) name X.env (eval (.Name x p) X.env) = eval (.Name x p) X.env := by rfl)
    (hfew : ((backTo pos (starEach (a :: es) X.env)).all (fun x => !x.1) && (backToKw pos (keywordEach [] X.env)).all (fun x => x.1.isSome)
      && decide ((a :: es).length + ([] : List Keyword).length + (if ([] : List Keyword).isEmpty then 0 else 1) < 30)) = true := by rfl)
    (hline : (apos.endLine == pos.line) = true := by rfl) (hs : starEach (a :: es) X.env = (false, eval a X.env) :: starEach es X.env := by rfl) (hplain : (backTo pos (starEach es X.env)).any (·.1) = false := by rfl) :
    ME X W B (.Call (.Attribute (.Name x p) name apos) (a :: es) [] pos) (eMut B i g ms) :=
  ⟨fun en => pe_imp (pe_bm PySem.F.plainAttrs_list slot hty hm hx (ha.run en) hbase hfew hline hs hplain) fun σ H Q h => t_mut ok hB h⟩
/-- x.m() -/
theorem me_mut0 {r : V → List V → Hp → VK → Prop} {g : GMut} (i : Nat) (ok : MutOk r g) (slot : Slot "list" name id) (hty : typeOf (.builtin id) = pure (.type "method_descriptor")) (hm : MtR X id r) (hx : PE X (.Name x p) (tVar i)) (hB : i ∉ B)
    (hbase : attributeBase (.Name x p) name X.env (eval (.Name x p) X.env) = eval (.Name x p) X.env := by rfl) (hline : (apos.endLine == pos.line) = true := by rfl) :
    ME X W B (.Call (.Attribute (.Name x p) name apos) [] [] pos) (eMut B i g eNil) :=
  ⟨fun en => pe_imp (pe_bm0 PySem.F.plainAttrs_list slot hty hm hx hbase hline) fun σ H Q h => by
    obtain ⟨x, e, ty, al, s, hs, hw⟩ := t_mut ok hB h
    exact ⟨x, e, ty, hw al H hs (Mo.refl _ _) [] rfl⟩⟩
theorem me_append (i : Nat) (hx : PE X (.Name x p) (tVar i)) (ha : MA X W B (a :: es) ms) (hB : i ∉ B)
    (hbase : attributeBase (.Name x p) "append" X.env (eval (.Name x p) X.env) = eval (.Name x p) X.env := by rfl)
    (hfew : ((backTo pos (starEach (a :: es) X.env)).all (fun x => !x.1) && (backToKw pos (keywordEach [] X.env)).all (fun x => x.1.isSome)
      && decide ((a :: es).length + ([] : List Keyword).length + (if ([] : List Keyword).isEmpty then 0 else 1) < 30)) = true := by rfl)
    (hline : (apos.endLine == pos.line) = true := by rfl) (hs : starEach (a :: es) X.env = (false, eval a X.env) :: starEach es X.env := by rfl) (hplain : (backTo pos (starEach es X.env)).any (·.1) = false := by rfl) :
    ME X W B (.Call (.Attribute (.Name x p) "append" apos) (a :: es) [] pos) (eMut B i gApp ms) :=
  me_mut i mu_app PySem.F.slot_list_append PySem.F.type_list_append mt_append hx ha hB hbase hfew hline hs hplain
theorem me_extend (i : Nat) (hx : PE X (.Name x p) (tVar i)) (ha : MA X W B (a :: es) ms) (hB : i ∉ B)
    (hbase : attributeBase (.Name x p) "extend" X.env (eval (.Name x p) X.env) = eval (.Name x p) X.env := by rfl)
    (hfew : ((backTo pos (starEach (a :: es) X.env)).all (fun x => !x.1) && (backToKw pos (keywordEach [] X.env)).all (fun x => x.1.isSome)
      && decide ((a :: es).length + ([] : List Keyword).length + (if ([] : List Keyword).isEmpty then 0 else 1) < 30)) = true := by rfl)
    (hline : (apos.endLine == pos.line) = true := by rfl) (hs : starEach (a :: es) X.env = (false, eval a X.env) :: starEach es X.env := by rfl) (hplain : (backTo pos (starEach es X.env)).any (·.1) = false := by rfl) :
    ME X W B (.Call (.Attribute (.Name x p) "extend" apos) (a :: es) [] pos) (eMut B i gExt ms) :=
  me_mut i mu_ext PySem.F.slot_list_extend PySem.F.type_list_extend mt_extend hx ha hB hbase hfew hline hs hplain
theorem me_popAt (i : Nat) (hx : PE X (.Name x p) (tVar i)) (ha : MA X W B (a :: es) ms) (hB : i ∉ B)
    (hbase : attributeBase (.Name x p) "pop" X.env (eval (.Name x p) X.env) = eval (.Name x p) X.env := by rfl)
    (hfew : ((backTo pos (starEach (a :: es) X.env)).all (fun x => !x.1) && (backToKw pos (keywordEach [] X.env)).all (fun x => x.1.isSome)
      && decide ((a :: es).length + ([] : List Keyword).length + (if ([] : List Keyword).isEmpty then 0 else 1) < 30)) = true := by rfl)
    (hline : (apos.endLine == pos.line) = true := by rfl) (hs : starEach (a :: es) X.env = (false, eval a X.env) :: starEach es X.env := by rfl) (hplain : (backTo pos (starEach es X.env)).any (·.1) = false := by rfl) :
    ME X W B (.Call (.Attribute (.Name x p) "pop" apos) (a :: es) [] pos) (eMut B i gPopAt ms) :=
  me_mut i mu_popAt PySem.F.slot_list_pop PySem.F.type_list_pop mt_popAt hx ha hB hbase hfew hline hs hplain
theorem me_pop (i : Nat) (hx : PE X (.Name x p) (tVar i)) (hB : i ∉ B)
    (hbase : attributeBase (.Name x p) "pop" X.env (eval (.Name x p) X.env) = eval (.Name x p) X.env := by rfl) (hline : (apos.endLine == pos.line) = true := by rfl) :
    ME X W B (.Call (.Attribute (.Name x p) "pop" apos) [] [] pos) (eMut B i gPop eNil) :=
  me_mut0 i mu_pop PySem.F.slot_list_pop PySem.F.type_list_pop mt_pop hx hB hbase hline
/-- x[i] = v -/
def sSetI (B : List Nat) (i : Nat) (mv mi : S → R Er) : S → R Fl := fun s => (eMut B i gSet (eCons mv (eCons mi eNil)) s).bind fun _ s1 => .ok .nx s1
theorem ms_setI (i : Nat) {v k : Expr} {mv mi : S → R Er} {p2 : Pos} (hv : ME X W B v mv) (hx : PE X (.Name x p) (tVar i)) (hk : ME X W B k mi) (hB : i ∉ B)
    (ha : ∀ v, assign (.Subscript (.Name x p) k p2) X.env v = (do
      let ov ← holding [v] (eval (.Name x p) X.env)
      let iv ← holding [v, ov] (eval k X.env)
      standAt p2
      holding [v, ov, iv] (setItem ov iv v)
      release [v, ov, iv] []) := by intro _; rfl)
    (hs : swapsWithSole [.Subscript (.Name x p) k p2] v pos.line X.env = pure false := by rfl) (hw : swappedStores [.Subscript (.Name x p) k p2] v X.env = pure none := by rfl)
    (h1 : (assignEach [.Subscript (.Name x p) k p2] X.env).map (·.2) = [assign (.Subscript (.Name x p) k p2) X.env] := by rfl) : MS X W (.Assign [.Subscript (.Name x p) k p2] v pos) (sSetI B i mv mi) :=
  ⟨fun en => ps_imp (ps_asg (hv.run en) (pg_sub hx (hk.run en) set_list ha) hs hw h1) fun D σ H h => by
    obtain ⟨al, s, hst, hw⟩ := h
    have h2 : TEm X.K X.mg W en B (eMut B i gSet (eCons mv (eCons mi eNil))) σ H fun v H' => D.nx σ H' := by
      refine ⟨al, s, hst, ?_⟩
      unfold sSetI at hw
      revert hw
      cases eMut B i gSet (eCons mv (eCons mi eNil)) s with
      | bad => exact fun hw => hw
      | ex e s1 => exact fun hw al' H' c d st' x => hw al' σ H' c d st' x
      | ok r s1 => exact fun hw al' H' st' mo v hv => hw al' σ H' st'
    obtain ⟨x, e, ty, al, s, hs, hw⟩ := t_mut mu_set hB h2
    refine T_sub hs hw fun r1 s1 al1 H1 v st1 mo1 e1 hw1 => ?_
    refine ⟨x, e, ?_⟩
    have this : ((eCons mi eNil) s1).bind (fun rs s2 => R.ok (r1.toD :: rs) s2) = (mi s1).bind fun r2 s2 => .ok [r1.toD, r2.toD] s2 := by
      unfold eCons eNil
      cases mi s1 <;> rfl
    rw [this] at hw1
    refine T_sub st1 hw1 fun r2 s2 al2 H2 k st2 mo2 e2 hw2 => ?_
    obtain ⟨v', i', ev, q⟩ := hw2 al2 H2 st2 (Mo.refl _ _) [v, k] ⟨v, [k], rfl, e1.toD.mo mo2, k, [], rfl, e2.toD, rfl⟩
    cases ev
    exact q⟩
end
end MP

namespace MP
open PySem PySem.Spec PyProof.Rows L2
/-! stores -/
def putO (B : List Nat) (i : Nat) (r : Er) (s : S) : S := match r with
  | .new c => if (c.flat && ownFl i 0 s.v) = true then ⟨s.v.set i (.own c), s.h⟩ else putV B i (Er.new c).toD s
  | .val d => putV B i d s
def sOwn (B : List Nat) (i : Nat) (m : S → R Er) : S → R Fl := fun s => (m s).bind fun r s1 => .ok .nx (putO B i r s1)
def putC (i : Nat) (r : Er) (s : S) : R Fl := match r with
  | .new c => if (c.flat && ownFl i 0 s.v) = true then .ok .nx ⟨s.v.set i (.val (.ref s.h.length)), s.h ++ [c]⟩ else .bad
  | .val _ => .bad
def sCell (i : Nat) (m : S → R Er) : S → R Fl := fun s => (m s).bind fun r s1 => putC i r s1
section
variable {K : PySem.W.Frag} {mg : Str → Option Value} {W : WX} {en : En} {B : List Nat} {al al1 : Nat → Addr} {s s1 : S} {σ : PSt} {H H0 H1 : Hp}
theorem Sm.putO (m : Sm K mg en al s σ H) (d0 : ∀ a, H0 a = none → en.H a = none) {i : Nat} {r : Er} {v : V} (e : ErN K mg en B al s σ H0 H r v) : Sm K mg en al (putO B i r s) (σ.set i (some v)) H := by
  unfold MP.putO
  cases r with
  | val d => exact m.putV e
  | new c =>
    by_cases z : (c.flat && ownFl i 0 s.v) = true
    · simp only [z, if_true]
      rw [Bool.and_eq_true] at z
      cases c with
      | lst xs => obtain ⟨a, o, rfl, n, ho, na, r, ma⟩ := e; exact m.putOwn ma (d0 a n) na r z.1 z.2
      | dct ks vs => obtain ⟨a, o, rfl, n, ho, na, r, ma⟩ := e; exact m.putOwn ma (d0 a n) na r z.1 z.2
      | ins C ns vs => exact e.elim
    · simp only [z, if_false]
      exact m.putV e.toD
end
section
variable {X : Cx} {W : WX} {pos : Pos} {st : Stmt} {i : Nat} {B : List Nat} {m : S → R Er}
theorem own_of (h : ∀ en, PS X st (tAsg (TEm X.K X.mg W en B m) (gName i))) : MS X W st (sOwn B i m) := ⟨fun en => ps_imp (h en) fun D σ H ⟨al, s, hs, hw⟩ => by
  refine ⟨al, s, hs, ?_⟩
  unfold sOwn at hw
  revert hw
  cases m s with
  | bad => exact fun hw => hw
  | ex e s1 => exact fun hw al' H' c d st' x => hw al' σ H' c d st' x
  | ok r s1 => exact fun hw al' H' st' mo v hv => hw al' _ H' (st'.putO (fun a z => hs.dom a z) hv)⟩
theorem cell_of (h : ∀ en, PS X st (tAsg (TEm X.K X.mg W en B m) (gName i))) : MS X W st (sCell i m) := ⟨fun en => ps_imp (h en) fun D σ H ⟨al, s, hs, hw⟩ => by
  refine ⟨al, s, hs, ?_⟩
  unfold sCell at hw
  revert hw
  cases m s with
  | bad => exact fun hw => hw
  | ex e s1 => exact fun hw al' H' c d st' x => hw al' σ H' c d st' x
  | ok r s1 =>
    intro hw al' H' st' mo v hv
    unfold putC at hw
    simp only [R.bind] at hw
    split at hw
    · rename_i c
      split at hw
      · rename_i z
        rw [Bool.and_eq_true] at z
        cases c with
        | lst xs => obtain ⟨a, o, rfl, n, ho, na, r, ma⟩ := hv; exact hw _ _ H' (st'.putCell ma (hs.dom a n) na r z.1 z.2)
        | dct ks vs => obtain ⟨a, o, rfl, n, ho, na, r, ma⟩ := hv; exact hw _ _ H' (st'.putCell ma (hs.dom a n) na r z.1 z.2)
        | ins C ns vs => exact hv.elim
      · exact hw.elim
    · exact hw.elim⟩
theorem asg_of (h : ∀ en, PS X st (tAsg (TEm X.K X.mg W en B m) (gName i))) : MS X W st (sAsg B i m) := ⟨fun en => ps_imp (h en) fun D σ H ⟨al, s, hs, hw⟩ => by
  refine ⟨al, s, hs, ?_⟩
  unfold sAsg at hw
  revert hw
  cases m s with
  | bad => exact fun hw => hw
  | ex e s1 => exact fun hw al' H' c d st' x => hw al' σ H' c d st' x
  | ok r s1 => exact fun hw al' H' st' mo v hv => hw al' _ H' (st'.putV hv.toD)⟩
/-- an assignment to a name, as the library's rule has it -/
theorem set_run {x : Str} {e : Expr} {pos' : Pos} (h : ME X W B e m) (hN : X.N.Nodup) (hi : X.N[i]? = some x) (hx : Loc X.env.scope x) (hs : swapsWith e (some (.Name x pos')) pos.line X.env = pure false := by rfl)
    (hf : X.fn x = true ∨ X.env.scope.names.lookup x = some .local := by first | exact .inl rfl | exact .inr rfl | assumption) (en : En) : PS X (.Assign [.Name x pos'] e pos) (tAsg (TEm X.K X.mg W en B m) (gName i)) := ps_set hN hi hx (h.run en) hs hf
end
/-! targets -/
inductive Tg where
  | nm (i : Nat) | tp (is : List Nat)
def putL : List Nat → List D → S → S
  | i :: is, d :: ds, s => putL is ds ⟨s.v.set i (.val d), s.h⟩
  | _, _, s => s
def storeT (B : List Nat) (t : Tg) (d : D) (s : S) : Option S := match t with
  | .nm i => some (putV B i d s)
  | .tp is => match d with
    | .tup ds => if ds.length = is.length then some (putL is ds (if D.flatL ds then s else ⟨frzB B 0 s.v, s.h⟩)) else none
    | _ => none
def gNs : List Nat → TGs
  | [] => gNil
  | i :: is => gCons (gName i) (gNs is)
def gOf (K : PySem.W.Frag) : Tg → TG
  | .nm i => gName i
  | .tp is => gTup K is.length (gNs is)
structure MG (X : Cx) (tg : Expr) (t : Tg) : Prop where
  run : PG X tg (gOf X.K t)
theorem wipe_set {σ : PSt} {i : Nat} {x : Option V} : ∀ {vs : List Nat}, i ∈ vs → L2.wipe (σ.set i x) vs = L2.wipe σ vs
  | [], h => by cases h
  | v :: vs, h => by
    show (L2.wipe (σ.set i x) vs).set v none = (L2.wipe σ vs).set v none
    have gen : ∀ (τ : PSt) (ws : List Nat), L2.wipe (τ.set i x) ws = (L2.wipe τ ws).set i (if i ∈ ws then none else x) := by
      intro τ ws
      induction ws with
      | nil => simp [L2.wipe]
      | cons w ws ih =>
        show (L2.wipe (τ.set i x) ws).set w none = ((L2.wipe τ ws).set w none).set i _
        rw [ih]
        by_cases hw : i = w
        · subst hw; simp
        · rw [List.set_comm _ _ (by omega)]
          simp [hw]
    by_cases hv : i = v
    · subst hv
      rw [gen]
      simp
    · have : i ∈ vs := by
        rcases List.mem_cons.mp h with h | h
        · exact absurd h hv
        · exact h
      rw [wipe_set this]
section
variable {X : Cx} {pos : Pos} {x : Str} {i : Nat} {is : List Nat} {es : List Expr} {e : Expr}
theorem mg_name (hN : X.N.Nodup) (hi : X.N[i]? = some x) (hx : Loc X.env.scope x) (hf : X.fn x = true ∨ X.env.scope.names.lookup x = some .local := by first | exact .inl rfl | exact .inr rfl | assumption) : MG X (.Name x pos) (.nm i) := ⟨pg_name hN hi hx hf⟩
theorem pgn_nil : PGs X [] (gNs []) := pgs_nil
theorem pgn_cons (hN : X.N.Nodup) (hi : X.N[i]? = some x) (hx : Loc X.env.scope x) (h2 : PGs X es (gNs is)) (hs : (assignEach (.Name x pos :: es) X.env).map (·.2) = assign (.Name x pos) X.env :: (assignEach es X.env).map (·.2) := by rfl)
    (hf : X.fn x = true ∨ X.env.scope.names.lookup x = some .local := by first | exact .inl rfl | exact .inr rfl | assumption) : PGs X (.Name x pos :: es) (gNs (i :: is)) := pgs_cons (pg_name hN hi hx hf) h2 hs
theorem put_names {K : PySem.W.Frag} {mg : Str → Option Value} {en : En} {al : Nat → Addr} {H : Hp} {Q : PSt → Hp → Prop} (σ0 : PSt) (all : List Nat) : ∀ (is : List Nat) (ds : List D) (xs : List V) (s : S) (σ : PSt), (∀ i ∈ is, i ∈ all) → ds.length = is.length → Sm K mg en al s σ H → RlL (rc K mg en [] al s σ) H ds xs →
    (∀ vs, (∀ i ∈ all, i ∈ vs) → L2.wipe σ vs = L2.wipe σ0 vs) → (∀ σ', (∀ vs, (∀ i ∈ all, i ∈ vs) → L2.wipe σ' vs = L2.wipe σ0 vs) → Sm K mg en al (putL is ds s) σ' H → Q σ' H) → gNs is xs σ H Q
  | [], [], xs, s, σ, _, _, st, r, w, q => by cases r; exact ⟨rfl, q σ w st⟩
  | [], d :: ds, xs, s, σ, _, l, st, r, w, q => by simp at l
  | i :: is, [], xs, s, σ, _, l, st, r, w, q => by simp at l
  | i :: is, d :: ds, xs, s, σ, sub, l, st, r, w, q => by
    obtain ⟨v, us, rfl, h1, h2⟩ := r
    refine ⟨v, us, rfl, ?_⟩
    have mo : Mo (rc K mg en [] al s σ) H (rc K mg en [] al ⟨s.v.set i (.val d), s.h⟩ (σ.set i (some v))) H := ⟨fun _ _ h _ => h, fun a _ h z => h (av_set z), fun _ h => h, Nat.le_refl _, fun _ _ => rfl, rfl, rfl⟩
    exact put_names σ0 all is ds us ⟨s.v.set i (.val d), s.h⟩ (σ.set i (some v)) (fun j hj => sub j (List.mem_cons_of_mem _ hj)) (by simpa using l) (st.put h1) (h2.mo mo)
      (fun vs hv => (wipe_set (hv i (sub i List.mem_cons_self))).trans (w vs hv)) q
theorem mg_tup {k : Nat} (hc : X.calm = true) (h : PGs X es (gNs is)) (hn : (assignEach es X.env).length = is.length := by rfl) (hst : (assignEach es X.env).findIdx? (·.1) = none := by rfl) : MG X (.Tuple es k pos) (.tp is) := ⟨pg_tup hc h hn hst⟩
end
def Tg.all : Tg → List Nat
  | .nm i => [i]
  | .tp is => is
theorem gOf_ok {K : PySem.W.Frag} {mg : Str → Option Value} {t : Tg} {en : En} {B : List Nat} {al : Nat → Addr} {s s' : S} {σ : PSt} {H : Hp} {d : D} {v : V} {Q : PSt → Hp → Prop} (st : Sm K mg en al s σ H) (r : Rl (rc K mg en B al s σ) H d v) (e : storeT B t d s = some s')
    (q : ∀ σ', (∀ vs, (∀ i ∈ t.all, i ∈ vs) → L2.wipe σ' vs = L2.wipe σ vs) → Sm K mg en al s' σ' H → Q σ' H) : gOf K t v σ H Q := by
  cases t with
  | nm i =>
    cases e
    exact q _ (fun vs hv => wipe_set (hv i (List.mem_singleton.mpr rfl))) (st.putV r)
  | tp is =>
    unfold storeT at e
    dsimp only at e
    split at e
    · rename_i ds
      split at e
      · rename_i hl
        cases e
        obtain ⟨a, us, rfl, h1, h2⟩ := r
        refine ⟨a, us, rfl, SqT.of h1, by rw [← h2.length]; exact hl, ?_⟩
        have fin : ∀ s0 : S, Sm K mg en al s0 σ H → RlL (rc K mg en [] al s0 σ) H ds us → (∀ σ', (∀ vs, (∀ i ∈ is, i ∈ vs) → L2.wipe σ' vs = L2.wipe σ vs) → Sm K mg en al (putL is ds s0) σ' H → Q σ' H) → gNs is us σ H Q := by
          intro s0 st0 r0 q
          exact put_names σ is is ds us s0 σ (fun i h => h) hl st0 r0 (fun _ _ => rfl) q
        cases hf : D.flatL ds with
        | true =>
          rw [hf] at q
          exact fin s st (RlL.fo (fo_rc (B := B)) hf h2) q
        | false =>
          rw [hf] at q
          exact fin _ (st.frz B) (h2.mo mo_frz) q
      · cases e
    · cases e
def sTgt (B : List Nat) (t : Tg) (m : S → R Er) : S → R Fl := fun s => (m s).bind fun r s1 => match storeT B t r.toD s1 with
  | some s2 => .ok .nx s2
  | none => .bad
section
variable {X : Cx} {W : WX} {pos : Pos}
theorem ms_tgt {tg e : Expr} {B : List Nat} {m : S → R Er} {t : Tg} (h : ME X W B e m) (hg : MG X tg t) (hs : swapsWithSole [tg] e pos.line X.env = pure false := by rfl) (hw : swappedStores [tg] e X.env = pure none := by rfl)
    (h1 : (assignEach [tg] X.env).map (·.2) = [assign tg X.env] := by rfl) : MS X W (.Assign [tg] e pos) (sTgt B t m) := by
  exact ⟨fun en => ps_imp (ps_asg (h.run en) hg.run hs hw h1) fun D σ H ⟨al, s, hs, hw⟩ => by
    refine ⟨al, s, hs, ?_⟩
    unfold sTgt at hw
    revert hw
    cases m s with
    | bad => exact fun hw => hw
    | ex e s1 => exact fun hw al' H' c d st' x => hw al' σ H' c d st' x
    | ok r s1 =>
      intro hw al' H' st' mo v hv
      simp only [R.bind] at hw
      split at hw
      · rename_i s2 e2
        exact gOf_ok st' hv.toD e2 fun σ' _ st2 => hw al' σ' H' st2
      · exact hw.elim⟩
/-! a, b = x, y -/
def putF (o : Bool) (B : List Nat) (i : Nat) (r : Er) (s : S) : S := if o = true then putO B i r s else putV B i r.toD s
end
end MP

namespace MP
open PySem PySem.Spec PyProof.Rows L2
structure EnSub (e2 e1 : En) : Prop where
  al : e2.al = e1.al
  k : e2.k = e1.k
  H : e2.H = e1.H
  ex : ∀ a, e2.ex a → e1.ex a
  pin : ∀ p ∈ e2.pin, p ∈ e1.pin ∧ e2.ex p.1
  hold : ∀ p ∈ e2.hold, p ∈ e1.hold
section
variable {K : PySem.W.Frag} {mg : Str → Option Value} {W : WX} {en en1 en2 : En} {B B' : List Nat} {al al1 : Nat → Addr} {s s1 : S} {σ : PSt} {H H0 H1 : Hp}
theorem av_sub (t : EnSub en2 en1) {a : Addr} (x : av en2 B al s σ a) : av en1 B al s σ a := by
  rcases x with x | x | x
  · exact .inl x
  · exact .inr (.inl x)
  · exact .inr (.inr (t.ex a x))
theorem mo_sub (t : EnSub en2 en1) : Mo (rc K mg en1 B al s σ) H (rc K mg en2 B al s σ) H := ⟨fun _ _ h _ => h, fun a _ h z => h (av_sub t z), fun _ h => h, Nat.le_refl _, fun _ _ => rfl, rfl, rfl⟩
theorem Sm.sub (m : Sm K mg en1 al s σ H) (t : EnSub en2 en1) : Sm K mg en2 al s σ H where
  len := m.len
  cell := fun n c e => ⟨(m.cell n c e).1, (m.cell n c e).2.mo (mo_sub t) fun _ q => q⟩
  inj := m.inj
  slot := fun i d e => let ⟨v, e1, r⟩ := m.slot i d e; ⟨v, e1, r.mo (mo_sub t)⟩
  own := fun i c e => let ⟨a, e1, r, x, y⟩ := m.own i c e; ⟨a, e1, r.mo (mo_sub t) fun _ q => q, by rw [t.H]; exact x, y⟩
  dis := m.dis
  ek := by rw [t.k]; exact m.ek
  eal := fun n hn => by rw [t.al]; rw [t.k] at hn; exact m.eal n hn
  enew := fun n h1 h2 => by rw [t.H]; rw [t.k] at h1; exact m.enew n h1 h2
  pres := fun a o h x => by rw [t.H] at h; rw [t.k, t.al] at x; exact m.pres a o h x
  dom := fun a h => by rw [t.H]; exact m.dom a h
  ext := fun a x => m.ext a (t.ex a x)
  pin := fun p hp => ⟨(t.pin p hp).2, (m.pin p (t.pin p hp).1).2⟩
  hold := fun p hp => (m.hold p (t.hold p hp)).mo (mo_sub t)
theorem Sm.unadd {a : Addr} {o : HO} (m0 : ∀ p ∈ en.pin, en.ex p.1) (m : Sm K mg (en.add a o) al s σ H) : Sm K mg en al s σ H :=
  m.sub ⟨rfl, rfl, rfl, fun _ h => .inl h, fun p hp => ⟨List.mem_cons_of_mem _ hp, m0 p hp⟩, fun _ h => h⟩
theorem Sm.comm {a b : Addr} {o u : HO} (m0 : ∀ p ∈ en.pin, en.ex p.1) (m : Sm K mg ((en.add a o).add b u) al s σ H) : Sm K mg ((en.add b u).add a o) al s σ H := by
  refine m.sub ⟨rfl, rfl, rfl, fun c h => ?_, fun p hp => ?_, fun _ h => h⟩
  · rcases h with (h | h) | h
    · exact .inl (.inl h)
    · exact .inr h
    · exact .inl (.inr h)
  · rcases List.mem_cons.mp hp with rfl | hp
    · exact ⟨List.mem_cons_of_mem _ List.mem_cons_self, .inr rfl⟩
    · rcases List.mem_cons.mp hp with rfl | hp
      · exact ⟨List.mem_cons_self, .inl (.inr rfl)⟩
      · exact ⟨List.mem_cons_of_mem _ (List.mem_cons_of_mem _ hp), .inl (.inl (m0 p hp))⟩
theorem Sm.pex (m : Sm K mg en al s σ H) : ∀ p ∈ en.pin, en.ex p.1 := fun p hp => (m.pin p hp).1
end
/-! a, b = x, y: the first a value or a new list, the second likewise -/
def okP (r : Er) (i : Nat) (s : S) : Bool := match r with
  | .val d => d.flat
  | .new c => c.flat && ownFl i 0 s.v
def put1 (i : Nat) (r : Er) (s : S) : S := match r with
  | .val d => ⟨s.v.set i (.val d), s.h⟩
  | .new c => ⟨s.v.set i (.own c), s.h⟩
def sPar2 (i j : Nat) (ma mb : S → R Er) : S → R Fl := fun s => (ma s).bind fun r1 s1 => (mb s1).bind fun r2 s2 =>
  if okP r1 i s2 = true then (if okP r2 j (put1 i r1 s2) = true then .ok .nx (put1 j r2 (put1 i r1 s2)) else .bad) else .bad
def ShR (K : PySem.W.Frag) (mg : Str → Option Value) (en : En) (B : List Nat) (al : Nat → Addr) (s : S) (σ : PSt) (H0 H : Hp) : Er → V → Prop
  | .val d, v => Rl (rc K mg en B al s σ) H d v
  | .new c, v => ∃ a o, v = .ref a ∧ H0 a = none ∧ H a = some o ∧ ¬ en.ex a ∧ ConR (rc K mg en B al s σ) H c a ∧ Sm K mg (en.add a o) al s σ H
def KpR (K : PySem.W.Frag) (mg : Str → Option Value) (en en' : En) (B : List Nat) (al : Nat → Addr) (s : S) (σ : PSt) (H0 H : Hp) : Er → V → Prop
  | .val d, v => Rl (rc K mg en' B al s σ) H d v ∧ en' = en
  | .new c, v => c.flat = true → ∃ a o, v = .ref a ∧ H0 a = none ∧ ¬ en.ex a ∧ ConR (rc K mg en' B al s σ) H c a ∧ en' = en.add a o
section
variable {K : PySem.W.Frag} {mg : Str → Option Value} {W : WX} {en en1 en2 : En} {B B' : List Nat} {al al1 : Nat → Addr} {s s1 : S} {σ : PSt} {H H0 H1 : Hp}
theorem fo_en {s2 : S} {τ : PSt} (hk : s.h.length ≤ s2.h.length) : Fo (rc K mg en1 B al s σ) H (rc K mg en2 B' al s2 τ) H := ⟨fun _ _ h _ => h, hk, fun _ _ => rfl, rfl, rfl⟩
/-- a flat value is stored -/
theorem Sm.putFlat (m : Sm K mg en al s σ H) {i : Nat} {d : D} {v : V} (f : d.flat = true) {B : List Nat} {en0 : En} (e : Rl (rc K mg en0 B al s σ) H d v) : Sm K mg en al ⟨s.v.set i (.val d), s.h⟩ (σ.set i (some v)) H :=
  m.put (Rl.fo (fo_en (en1 := en0) (en2 := en) (B := B) (B' := []) (s2 := s) (τ := σ) (Nat.le_refl _)) f e)
theorem Sm.nadd {a : Addr} {o : HO} (m : Sm K mg (en.add a o) al s σ H) (nx : ¬ en.ex a) : ¬ av en [] al s σ a := by
  obtain ⟨_, h1, h2⟩ := m.ext a (.inr rfl)
  rintro (⟨n, hn, e⟩ | ⟨i, c, _, q1, q2⟩ | x)
  · exact h1 n hn e
  · exact h2 i c q1 q2
  · exact nx x
/-- a new flat thing becomes a slot's own -/
theorem Sm.putNew {a : Addr} {o : HO} {c : Con} {i : Nat} (m : Sm K mg (en.add a o) al s σ H) (m0 : ∀ p ∈ en.pin, en.ex p.1) (h0 : en.H a = none) (nx : ¬ en.ex a) {en0 : En} {B : List Nat} (r : ConR (rc K mg en0 B al s σ) H c a) (cf : c.flat = true) (fl : ownFl i 0 s.v = true) :
    Sm K mg en al ⟨s.v.set i (.own c), s.h⟩ (σ.set i (some (.ref a))) H :=
  (m.unadd m0).putOwn m h0 (m.nadd nx) (r.fo (fo_en (en1 := en0) (en2 := en) (B := B) (B' := []) (s2 := s) (τ := σ) (Nat.le_refl _)) cf fun _ q => q) cf fl
/-- one of the two stores -/
theorem Sm.put1 {r : Er} {v : V} {i : Nat} (m : Sm K mg en al s σ H) (ok : okP r i s = true) (d0 : ∀ a, H0 a = none → en.H a = none) {en0 : En} {B : List Nat}
    (e : match r with
      | .val d => Rl (rc K mg en0 B al s σ) H d v
      | .new c => ∃ a o, v = .ref a ∧ H0 a = none ∧ ¬ en.ex a ∧ ConR (rc K mg en0 B al s σ) H c a ∧ Sm K mg (en.add a o) al s σ H) : Sm K mg en al (put1 i r s) (σ.set i (some v)) H := by
  cases r with
  | val d => exact m.putFlat ok e
  | new c =>
    obtain ⟨a, o, rfl, n, nx, r, ma⟩ := e
    simp only [okP, Bool.and_eq_true] at ok
    exact ma.putNew m.pex (d0 a n) nx r ok.1 ok.2
theorem ErN.shape {r : Er} {v : V} (e : ErN K mg en B al s σ H0 H r v) : ShR K mg en B al s σ H0 H r v := by
  cases r with
  | val d => exact e
  | new c => cases c with
    | lst xs => obtain ⟨a, o, rfl, n, ho, na, r, ma⟩ := e; exact ⟨a, o, rfl, n, ho, fun x => na (.inr (.inr x)), r, ma⟩
    | dct xs _ => obtain ⟨a, o, rfl, n, ho, na, r, ma⟩ := e; exact ⟨a, o, rfl, n, ho, fun x => na (.inr (.inr x)), r, ma⟩
    | ins _ _ _ => exact e.elim
end
/-- the second of two expressions, evaluated while the first one's value is kept -/
def TEx (K : PySem.W.Frag) (mg : Str → Option Value) (W : WX) (B : List Nat) (m : S → R Er) : TE := fun σ H Q => ∃ en, TEm K mg W en B m σ H Q
theorem pe_ex {X : Cx} {W : WX} {B : List Nat} {e : Expr} {m : S → R Er} (h : ME X W B e m) : PE X e (TEx X.K X.mg W B m) := ⟨fun pins s σ H Q I ⟨en, q⟩ => (h.run en).run pins s σ H Q I q⟩
section
variable {X : Cx} {W : WX} {B : List Nat} {a b : Expr} {ma mb : S → R Er} {pos : Pos}
theorem put1_own {s : S} {i j : Nat} {r : Er} : True := trivial
theorem ms_par2 {i j : Nat} {x y : Str} {px py pt : Pos} {kt k2 pt2} (ha : ME X W B a ma) (hb : ME X W B b mb) (hc : X.calm = true) (hN : X.N.Nodup) (hi : X.N[i]? = some x) (hj : X.N[j]? = some y) (hij : i ≠ j)
    (hx : X.env.scope.names.lookup x = some .local) (hy : X.env.scope.names.lookup y = some .local)
    (hw : swappedStores [.Tuple [.Name x px, .Name y py] kt pt] (.Tuple [a, b] k2 pt2) X.env = pure (some [x, y]))
    (hst : starEach [a, b] X.env = (false, eval a X.env) :: starEach [b] X.env := by rfl) (hst2 : starEach [b] X.env = (false, eval b X.env) :: starEach [] X.env := by rfl)
    (hs : swapsWithSole [.Tuple [.Name x px, .Name y py] kt pt] (.Tuple [a, b] k2 pt2) pos.line X.env = pure false := by rfl) :
    MS X W (.Assign [.Tuple [.Name x px, .Name y py] kt pt] (.Tuple [a, b] k2 pt2) pos) (sPar2 i j ma mb) := ⟨fun en =>
  ps_imp (ps_par hc hN hi hj hij hx hy (pa_cons (ha.run en) (pa_cons (pe_ex hb) pa_nil hst2) hst) hw hs) fun D σ H ⟨al, s, hst, hw⟩ => by
    refine ⟨al, s, hst, ?_⟩
    unfold sPar2 at hw
    revert hw
    cases ma s with
    | bad => exact fun hw => hw
    | ex e s1 => exact fun hw al' H' c d st' x => hw al' σ H' c d st' x
    | ok r1 s1 =>
      intro hw al1 H1 st1 mo1 v e1
      simp only [R.bind] at hw
      have e1' := e1.shape
      -- where the second stands
      have fin : ∀ (en' : En), EnSub en en' → Sm X.K X.mg en' al1 s1 σ H1 → (∀ al2 s2 H2, Sm X.K X.mg en' al2 s2 σ H2 → Mo (rc X.K X.mg en' B al1 s1 σ) H1 (rc X.K X.mg en' B al2 s2 σ) H2 → KpR X.K X.mg en en' B al2 s2 σ H H2 r1 v) →
          TEx X.K X.mg W B mb σ H1 fun w H2 => ∃ v' w', [v, w] = [v', w'] ∧ D.nx ((σ.set i (some v')).set j (some w')) H2 := by
        intro en' sub st' keep
        refine ⟨en', al1, s1, st', ?_⟩
        revert hw
        cases mb s1 with
        | bad => exact fun hw => hw
        | ex e s2 => exact fun hw al' H' c d st2 x => hw al' σ H' c d (st2.sub sub) (x.fo (fo_en (en1 := en') (en2 := en) (B := []) (B' := []) (s2 := s2) (τ := σ) (Nat.le_refl _)))
        | ok r2 s2 =>
          intro hw al2 H2 st2 mo2 w e2
          refine ⟨v, w, rfl, ?_⟩
          simp only at hw
          split at hw
          case isFalse => exact hw.elim
          case isTrue ok1 =>
          split at hw
          case isFalse => exact hw.elim
          case isTrue ok2 =>
          refine hw al2 _ H2 ?_
          have kp := keep al2 s2 H2 st2 mo2
          have d1 : ∀ a, H1 a = none → en.H a = none := fun a z => st1.dom a z
          have d0 : ∀ a, H a = none → en.H a = none := fun a z => hst.dom a z
          -- the first store, under any more that stands apart
          have first : ∀ (e3 : En) , (e3 = en ∨ ∃ b u, e3 = en.add b u ∧ ¬ en'.ex b ∧ H1 b = none ∧ Sm X.K X.mg (en'.add b u) al2 s2 σ H2) → Sm X.K X.mg e3 al2 (put1 i r1 s2) (σ.set i (some v)) H2 := by
            intro e3 he3
            cases r1 with
            | val d =>
              obtain ⟨kr, rfl⟩ := kp
              rcases he3 with rfl | ⟨b, u, rfl, _, _, sb⟩
              · exact st2.putFlat ok1 kr
              · exact sb.putFlat ok1 kr
            | new c =>
              simp only [okP, Bool.and_eq_true] at ok1
              obtain ⟨a, o, rfl, n, nx, kr, rfl⟩ := kp ok1.1
              rcases he3 with rfl | ⟨b, u, rfl, nb, h1b, sb⟩
              · exact st2.putNew st1.pex (d0 a n) nx kr ok1.1 ok1.2
              · have hab : a ≠ b := by
                  rintro rfl
                  exact nb (.inr rfl)
                refine Sm.putNew (en := en.add b u) (o := o) (sb.comm st1.pex) ?_ (d0 a n) ?_ kr ok1.1 ok1.2
                · intro p hp
                  rcases List.mem_cons.mp hp with rfl | hp
                  · exact .inr rfl
                  · exact .inl (st1.pex p hp)
                · rintro (h | h)
                  · exact nx h
                  · exact hab h
          have f0 := first en (.inl rfl)
          refine f0.put1 (H0 := H1) (en0 := en') (B := B) ok2 d1 ?_
          have e2' := e2.shape
          have fo2 : ∀ {d w'}, d.flat = true → Rl (rc X.K X.mg en' B al2 s2 σ) H2 d w' → Rl (rc X.K X.mg en' B al2 (put1 i r1 s2) (σ.set i (some v))) H2 d w' := fun f q => Rl.fo (fo_en (en1 := en') (en2 := en') (B := B) (B' := B) (s := s2) (σ := σ) (by cases r1 <;> exact Nat.le_refl _)) f q
          cases r2 with
          | val d => exact fo2 ok2 e2'
          | new c =>
            simp only [okP, Bool.and_eq_true] at ok2
            obtain ⟨b, u, rfl, n, ho, nx, r, sb⟩ := e2'
            exact ⟨b, u, rfl, n, fun x => nx (sub.ex b x), r.fo (fo_en (en1 := en') (en2 := en') (B := B) (B' := B) (by cases r1 <;> exact Nat.le_refl _)) ok2.1 fun _ q => q, first _ (.inr ⟨b, u, rfl, nx, n, sb⟩)⟩
      show TEx X.K X.mg W B mb σ H1 _
      cases r1 with
      | val d =>
        exact fin en ⟨rfl, rfl, rfl, fun _ h => h, fun p hp => ⟨hp, st1.pex p hp⟩, fun _ h => h⟩ st1 fun al2 s2 H2 st2 mo2 => ⟨Rl.mo mo2 e1', rfl⟩
      | new c =>
        obtain ⟨a, o, rfl, n, ho, nx, r, ma⟩ := e1'
        refine fin (en.add a o) ⟨rfl, rfl, rfl, fun _ h => .inl h, fun p hp => ⟨List.mem_cons_of_mem _ hp, st1.pex p hp⟩, fun _ h => h⟩ ma fun al2 s2 H2 st2 mo2 => fun cf => ⟨a, o, rfl, n, nx, ?_, rfl⟩
        refine ConR.fo (Fo.trans (fo_en (en1 := en) (en2 := en.add a o) (B := B) (B' := B) (s := s1) (s2 := s1) (σ := σ) (τ := σ) (Nat.le_refl _)) mo2.fo) cf (fun u q => ?_) r
        have := (st2.pin (a, o) List.mem_cons_self).2
        rw [ho] at q
        cases q
        exact this⟩
end
end MP

namespace MP
open PySem PySem.Spec PyProof.Rows L2
/-! a, b, c = x, y, z: flat values -/
def sPar3 (i j l : Nat) (ms : S → R (List D)) : S → R Fl := fun s => (ms s).bind fun ds s1 => match ds with
  | [a, b, c] => if D.flatL ds = true then .ok .nx ⟨((s1.v.set i (.val a)).set j (.val b)).set l (.val c), s1.h⟩ else .bad
  | _ => .bad
section
variable {X : Cx} {W : WX} {B : List Nat} {a b c e : Expr} {ma mb : S → R Er} {ms : S → R (List D)} {pos : Pos}
theorem ms_par3 {i j l : Nat} {x y z : Str} {px py pz pt : Pos} {kt k2 pt2} (ha : MA X W B [a, b, c] ms) (hc : X.calm = true) (hN : X.N.Nodup) (hi : X.N[i]? = some x) (hj : X.N[j]? = some y) (hl : X.N[l]? = some z) (hij : i ≠ j) (hil : i ≠ l) (hjl : j ≠ l)
    (hx : X.env.scope.names.lookup x = some .local) (hy : X.env.scope.names.lookup y = some .local) (hz : X.env.scope.names.lookup z = some .local)
    (hw : swappedStores [.Tuple [.Name x px, .Name y py, .Name z pz] kt pt] (.Tuple [a, b, c] k2 pt2) X.env = pure (some [x, y, z]))
    (hs : swapsWithSole [.Tuple [.Name x px, .Name y py, .Name z pz] kt pt] (.Tuple [a, b, c] k2 pt2) pos.line X.env = pure false := by rfl) :
    MS X W (.Assign [.Tuple [.Name x px, .Name y py, .Name z pz] kt pt] (.Tuple [a, b, c] k2 pt2) pos) (sPar3 i j l ms) := ⟨fun en =>
  ps_imp (ps_par3 hc hN hi hj hl hij hil hjl hx hy hz (ha.run en) hw hs) fun D σ H ⟨al, s, hst, hw⟩ => by
    refine ⟨al, s, hst, ?_⟩
    unfold sPar3 at hw
    revert hw
    cases ms s with
    | bad => exact fun hw => hw
    | ex e s1 => exact fun hw al' H' c d st' x => hw al' σ H' c d st' x
    | ok ds s1 =>
      intro hw al1 H1 st1 mo1 vs r
      simp only [R.bind] at hw
      split at hw
      · rename_i da db dc
        split at hw
        · rename_i hf
          obtain ⟨u, r', rfl, h1, h2⟩ := r
          obtain ⟨v, w, rfl, h3, h4⟩ := h2.two
          simp only [MP.D.flatL, Bool.and_eq_true] at hf
          refine ⟨u, v, w, rfl, hw al1 _ H1 ?_⟩
          refine Sm.putFlat (s := ⟨(s1.v.set i (.val da)).set j (.val db), s1.h⟩) (en0 := en) (B := B) (Sm.putFlat (s := ⟨s1.v.set i (.val da), s1.h⟩) (en0 := en) (B := B) (st1.putFlat hf.1 h1) hf.2.1 ?_) hf.2.2.1 ?_
          · exact Rl.fo (fo_en (en1 := en) (en2 := en) (B := B) (B' := B) (s := s1) (s2 := ⟨s1.v.set i (.val da), s1.h⟩) (σ := σ) (τ := List.set σ i (some u)) (Nat.le_refl _)) hf.2.1 h3
          · exact Rl.fo (fo_en (en1 := en) (en2 := en) (B := B) (B' := B) (s := s1) (s2 := ⟨(s1.v.set i (.val da)).set j (.val db), s1.h⟩) (σ := σ) (τ := (List.set σ i (some u)).set j (some v)) (Nat.le_refl _)) hf.2.2.1 h4
        · exact hw.elim
      · exact hw.elim⟩
/-! x op= e -/
def sAug (f : List Con → D → D → Option Er) (i : Nat) (m : S → R Er) : S → R Fl := fun s => match s.v[i]? with
  | some (.val d) => if d.flat = true then (m s).bind fun r s1 => (match f s1.h d r.toD with
    | some (.val u) => if u.flat = true then .ok .nx ⟨s1.v.set i (.val u), s1.h⟩ else .bad
    | _ => .bad) else .bad
  | _ => .bad
theorem ms_aug {i : Nat} {x : Str} {op : Operator} {r : R2} {f : List Con → D → D → Option Er} {m : S → R Er} {pos' : Pos} (ho : OpR X (inplaceOp op) r) (hf : Op2 X.K r f) (h : ME X W B e m) (hN : X.N.Nodup) (hi : X.N[i]? = some x) (hx : Loc X.env.scope x)
    (hl : X.fn x = true ∨ X.env.scope.names.lookup x = some .local := by first | exact .inl rfl | exact .inr rfl | assumption) : MS X W (.AugAssign (.Name x pos') op e pos) (sAug f i m) := ⟨fun en =>
  ps_imp (ps_aug (ti := r) hN hi hx (h.run en) (fun pins s σ H x y v u Q I r1 r2 q => ho pins s σ H x y v u Q I r1 r2 q) hl) fun D σ H ⟨al, s, hst, hw⟩ => by
    unfold sAug at hw
    split at hw
    case h_2 => exact hw.elim
    case h_1 d hd =>
    split at hw
    case isFalse => exact hw.elim
    case isTrue df =>
    obtain ⟨v, e1, r1⟩ := hst.slot i d hd
    refine ⟨v, e1, al, s, hst, ?_⟩
    revert hw
    cases m s with
    | bad => exact fun hw => hw
    | ex e s1 => exact fun hw al' H' c d st' x => hw al' σ H' c d st' x
    | ok r2 s1 =>
      intro hw al1 H1 st1 mo1 w e2
      simp only [R.bind] at hw
      split at hw
      · rename_i u hu
        split at hw
        · rename_i uf
          have r1' : Rl (rc X.K X.mg en B al1 s1 σ) H1 d v := Rl.fo (Fo.trans (fo_en (en1 := en) (en2 := en) (B := []) (B' := B) (s := s) (s2 := s) (σ := σ) (τ := σ) (Nat.le_refl _)) mo1.fo) df r1
          refine hf _ H1 s1.h rfl st1.cl d _ v w r1' e2.toD _ hu _ fun H2 z g rz => ?_
          exact hw al1 _ H2 ((st1.grow g).putFlat (en0 := en) (B := B) uf rz)
        · exact hw.elim
      · exact hw.elim⟩
theorem ms_augAdd {i : Nat} {x : Str} {m : S → R Er} {pos' : Pos} (h : ME X W B e m) (hN : X.N.Nodup) (hi : X.N[i]? = some x) (hx : Loc X.env.scope x)
    (hl : X.fn x = true ∨ X.env.scope.names.lookup x = some .local := by first | exact .inl rfl | exact .inr rfl | assumption) : MS X W (.AugAssign (.Name x pos') .Add e pos) (sAug (fun h x y => (fI2 (fun i j => some (.val (.int (i + j)))) h x y).or (fAddS h x y)) i m) :=
  ms_aug (OpR.or iop_add iop_add_str) (Op2.or (op2_I0 _ _ fun _ _ _ _ => rfl) o2_addS) h hN hi hx hl
theorem ms_augSub {i : Nat} {x : Str} {m : S → R Er} {pos' : Pos} (h : ME X W B e m) (hN : X.N.Nodup) (hi : X.N[i]? = some x) (hx : Loc X.env.scope x)
    (hl : X.fn x = true ∨ X.env.scope.names.lookup x = some .local := by first | exact .inl rfl | exact .inr rfl | assumption) : MS X W (.AugAssign (.Name x pos') .Sub e pos) (sAug fSub i m) :=
  ms_aug iop_sub (op2_I0 _ _ fun _ _ _ _ => rfl) h hN hi hx hl
/-! raise -/
def sRaise (C : Str) : S → R Fl := fun s => .ex (.cls C) s
theorem ms_raise {C : Str} {cls : Value} {pm : Expr} (hc : X.calm = true) (tk : Takes X W) (hm : X.mg C = some cls) (he : PMk X pm (fun _ H Q => Q cls none H)) : MS X W (.Raise (some pm) none pos) (sRaise C) := ⟨fun en =>
  ps_imp (ps_raise hc tk he) fun D σ H ⟨al, s, hst, hw⟩ => hw al σ H cls none hst ⟨hm, rfl⟩⟩
/-! for -/
structure ItOk (K : PySem.W.Frag) (E : RC) (H : Hp) (J : It) (xs : List MP.D) (hs : List (MP.D × V)) : Prop where
  now : ∀ p ∈ hs, Rl E H p.1 p.2
  turn : ∀ (E2 : RC) (H2 : Hp), E2.K = K → (∀ p ∈ hs, Rl E2 H2 p.1 p.2) → ∀ i, (i = xs.length → J.stop i H2) ∧ ∀ d, xs[i]? = some d → J.go i H2 ∧ ∀ x H3, J.yld i H2 x H3 → Grow H2 H3 ∧ Rl E2 H3 d x
def TIm (K : PySem.W.Frag) (mg : Str → Option Value) (W : WX) (en : En) (B : List Nat) (m : S → R (List MP.D)) : TI := fun σ H Rr => ∃ al s, Sm K mg en al s σ H ∧
  Wp K mg W en B al s σ H (m s) (fun xs s' al' H' => ∀ J hs, ItOk K (rc K mg en B al' s' σ) H' J xs hs → Rr J H')
structure MI (X : Cx) (W : WX) (B : List Nat) (tg e : Expr) (m : S → R (List MP.D)) : Prop where
  run : ∀ en, PI X tg e (TIm X.K X.mg W en B m)
theorem pi_imp {X : Cx} {tg e : Expr} {t t' : TI} (h : PI X tg e t) (i : ∀ σ H Q, t' σ H Q → t σ H Q) : PI X tg e t' := ⟨fun pins s σ H Q I q => h.run pins s σ H Q I (i σ H Q q)⟩
def forL (t : Tg) (body : S → R Fl) : List MP.D → S → R Fl
  | [], s => .ok .nx s
  | d :: r, s => match storeT [] t d s with
    | none => .bad
    | some s1 => (body s1).bind fun f s2 => match f with
      | .nx => forL t body r s2
      | .ct => forL t body r s2
      | .bk => .ok .nx s2
      | .rt u => .ok (.rt u) s2
def sFor (B : List Nat) (mi : S → R (List MP.D)) (t : Tg) (body : S → R Fl) : S → R Fl := fun s => (mi s).bind fun xs s1 => forL t body xs ⟨frzB B 0 s1.v, s1.h⟩
/-- more is held -/
def En.hd (en : En) (hs : List (MP.D × V)) : En := { en with hold := hs ++ en.hold }
theorem Sm.hd {K : PySem.W.Frag} {mg : Str → Option Value} {en : En} {al : Nat → Addr} {s : S} {σ : PSt} {H : Hp} (m : Sm K mg en al s σ H) {hs : List (MP.D × V)} (h : ∀ p ∈ hs, Rl (rc K mg en [] al s σ) H p.1 p.2) : Sm K mg (en.hd hs) al s σ H :=
  { m with hold := fun p hp => (List.mem_append.mp hp).elim (h p) (m.hold p) }
theorem Sm.unhd {K : PySem.W.Frag} {mg : Str → Option Value} {en : En} {al : Nat → Addr} {s : S} {σ : PSt} {H : Hp} {hs : List (MP.D × V)} (m : Sm K mg (en.hd hs) al s σ H) : Sm K mg en al s σ H :=
  { m with hold := fun p hp => m.hold p (List.mem_append.mpr (.inr hp)) }
theorem swp_for {K : PySem.W.Frag} {mg : Str → Option Value} {W : WX} {en : En} {r : R Fl} {D : Ends} {hs : List (MP.D × V)} (h : SWp K mg W en r D) : SWp K mg W (en.hd hs) r D := by
  cases r with
  | bad => exact h
  | ex e s => exact fun al σ H c d st x => h al σ H c d st.unhd x
  | ok f s => cases f with
    | nx => exact fun al σ H st => h al σ H st.unhd
    | bk => exact fun al σ H st => h al σ H st.unhd
    | ct => exact fun al σ H st => h al σ H st.unhd
    | rt u => exact fun al σ H v st e => h al σ H v st.unhd e
theorem ms_for {tg iter : Expr} {body : List Stmt} {mi : S → R (List MP.D)} {t : Tg} {mb : S → R Fl} (hp : PassesOwn (model X.prog X.w) X.A X.env X.xe) (hc : X.calm = true) (hi : MI X W B tg iter mi) (hg : MG X tg t) (hb : MB X W body mb)
    (hs : ∀ x, foldedSetIterable iter X.env x = pure x := by intro _; rfl) : MS X W (.For tg iter body [] pos) (sFor B mi t mb) := by
  refine ⟨fun en => ps_imp (ps_for (tb := fun D σ H => ∃ hs, TSm X.K X.mg W (en.hd hs) mb D σ H) hp hc (hi.run en) hg.run ⟨fun pins s σ H D I ⟨hs, q⟩ => (hb.run _).run pins s σ H D I q⟩ hs) fun D σ H ⟨al, s, hst, hw⟩ => ?_⟩
  refine ⟨al, s, hst, ?_⟩
  unfold sFor at hw
  revert hw
  cases mi s with
  | bad => exact fun hw => hw
  | ex e s1 => exact fun hw al' H' c d st' x => hw al' σ H' c d st' x
  | ok xs s1 =>
    intro hw al1 H1 st1 mo1 J hs ok
    simp only [R.bind] at hw
    refine ⟨fun i m σ H => i + m = xs.length ∧ ∃ al s, Sm X.K X.mg (en.hd hs) al s σ H ∧ SWp X.K X.mg W en (forL t mb (xs.drop i) s) D, ⟨xs.length, by omega, al1, _, (st1.frz B).hd (fun p hp => (ok.now p hp).mo mo_frz), hw⟩, fun i m σ H ⟨him, al, s, st, hw⟩ => ?_⟩
    obtain ⟨hstop, hgo⟩ := ok.turn (rc X.K X.mg (en.hd hs) [] al s σ) H rfl (fun p hp => st.hold p (List.mem_append.mpr (.inl hp))) i
    cases hd : xs[i]? with
    | none =>
      have hi : i = xs.length := by
        have := List.getElem?_eq_none_iff.mp hd
        omega
      refine .inl ⟨hstop hi, ?_⟩
      rw [hi, List.drop_length] at hw
      exact hw al σ H st.unhd
    | some d =>
      obtain ⟨g1, g2⟩ := hgo d hd
      have hil : i < xs.length := (List.getElem?_eq_some_iff.mp hd).1
      have hdr : xs.drop i = d :: xs.drop (i + 1) := by
        rw [List.drop_eq_getElem_cons hil]
        congr 1
        exact (List.getElem?_eq_some_iff.mp hd).2
      rw [hdr] at hw
      unfold forL at hw
      refine .inr ⟨g1, fun σ' H' => ∃ al s, Sm X.K X.mg (en.hd hs) al s σ' H' ∧ SWp X.K X.mg W en (forL t mb (xs.drop (i + 1)) s) D, fun σ' H' ⟨al, s, st, hw⟩ => ⟨m - 1, by omega, by omega, al, s, st, hw⟩, fun x H3 hy => ?_⟩
      obtain ⟨gr, rx⟩ := g2 x H3 hy
      split at hw
      · exact hw.elim
      · rename_i s2 e2
        refine gOf_ok (B := []) (st.grow gr) rx e2 fun σ' _ st2 => ⟨hs, al, s2, st2, ?_⟩
        revert hw
        cases mb s2 with
        | bad => exact fun hw => hw
        | ex e s3 => exact fun hw al σ H c d st x => hw al σ H c d st.unhd x
        | ok f s3 => cases f with
          | nx => exact fun hw al σ H st => ⟨al, s3, st, hw⟩
          | ct => exact fun hw al σ H st => ⟨al, s3, st, hw⟩
          | bk => exact fun hw al σ H st => hw al σ H st.unhd
          | rt u => exact fun hw al σ H v st e => hw al σ H v st.unhd e
/-! while -/
def whN (c : S → R Bool) (b : S → R Fl) : Nat → S → R Fl
  | 0, _ => .bad
  | n + 1, s => (c s).bind fun k s1 => if k = true then (b s1).bind fun f s2 => (match f with
    | .nx => whN c b n s2
    | .ct => whN c b n s2
    | .bk => .ok .nx s2
    | .rt u => .ok (.rt u) s2) else .ok .nx s1
def R.isBad {α : Type} : R α → Bool
  | .bad => true
  | _ => false
open Classical in
noncomputable def sWh (c : S → R Bool) (b : S → R Fl) : S → R Fl := fun s => if h : ∃ n, (whN c b n s).isBad = false then whN c b (Classical.choose h) s else .bad
theorem ms_while {c : Expr} {body : List Stmt} {mc : S → R Bool} {mb : S → R Fl} (hp : PassesOwn (model X.prog X.w) X.A X.env X.xe) (hc : MT X W B c mc) (hb : MB X W body mb) : MS X W (.While c body [] pos) (sWh mc mb) := ⟨fun en =>
  ps_imp (ps_while hp (hc.run en) (hb.run en)) fun D σ H ⟨al, s, hst, hw⟩ => by
    refine ⟨fun m σ H => ∃ al s, Sm X.K X.mg en al s σ H ∧ SWp X.K X.mg W en (whN mc mb m s) D, ?_, fun m σ H ⟨al, s, st, hw⟩ => ?_⟩
    · unfold sWh at hw
      split at hw
      · rename_i h
        exact ⟨_, al, s, hst, hw⟩
      · exact hw.elim
    · cases m with
      | zero => exact hw.elim
      | succ m =>
        refine ⟨al, s, st, ?_⟩
        unfold whN at hw
        revert hw
        cases mc s with
        | bad => exact fun hw => hw
        | ex e s1 => exact fun hw al' H' c d st' x => hw al' σ H' c d st' x
        | ok k s1 =>
          intro hw al1 H1 st1 mo1
          simp only [R.bind] at hw
          cases k with
          | false => rw [if_neg Bool.false_ne_true]; exact hw al1 σ H1 st1
          | true =>
            rw [if_pos rfl]
            refine ⟨fun σ' H' => ∃ al s, Sm X.K X.mg en al s σ' H' ∧ SWp X.K X.mg W en (whN mc mb m s) D, fun σ' H' q => ⟨m, Nat.lt_succ_self m, q⟩, al1, s1, st1, ?_⟩
            revert hw
            cases mb s1 with
            | bad => exact fun hw => hw
            | ex e s3 => exact fun hw => hw
            | ok f s3 => cases f with
              | nx => exact fun hw al σ H st => ⟨al, s3, st, hw⟩
              | ct => exact fun hw al σ H st => ⟨al, s3, st, hw⟩
              | bk => exact fun hw => hw
              | rt u => exact fun hw => hw⟩
end
end MP

namespace MP
open PySem PySem.Spec PyProof.Rows L2
/-! what is walked -/
theorem it_list {K : PySem.W.Frag} {E : RC} {H : Hp} {xs : List D} {a : Addr} (r : Rl E H (.lst xs) (.ref a)) : ItOk K E H (Itl K a) xs [(.lst xs, .ref a)] where
  now := fun p hp => by
    obtain rfl := List.mem_singleton.mp hp
    exact r
  turn := fun E2 H2 eK h i => by
    obtain ⟨b, us, e, h1, _, h2⟩ := h _ (List.mem_singleton.mpr rfl)
    cases e
    refine ⟨fun e => ⟨us, SqL.of h1, by rw [← h2.length, e]; exact Nat.le_refl _⟩, fun d hd => ?_⟩
    obtain ⟨v, e3, r3⟩ := h2.get hd
    refine ⟨⟨us, v, SqL.of h1, e3⟩, fun x H3 hy => ?_⟩
    obtain ⟨rfl, hx⟩ := hy
    have := hx us (SqL.of h1)
    rw [e3] at this
    cases this
    exact ⟨Grow.refl _, r3⟩
theorem it_tup {K : PySem.W.Frag} {E : RC} {H : Hp} {xs : List D} {a : Addr} (r : Rl E H (.tup xs) (.ref a)) : ItOk K E H (Itt K a) xs [(.tup xs, .ref a)] where
  now := fun p hp => by
    obtain rfl := List.mem_singleton.mp hp
    exact r
  turn := fun E2 H2 eK h i => by
    obtain ⟨b, us, e, h1, h2⟩ := h _ (List.mem_singleton.mpr rfl)
    cases e
    refine ⟨fun e => ⟨us, SqT.of h1, by rw [← h2.length, e]; exact Nat.le_refl _⟩, fun d hd => ?_⟩
    obtain ⟨v, e3, r3⟩ := h2.get hd
    refine ⟨⟨us, v, SqT.of h1, e3⟩, fun x H3 hy => ?_⟩
    obtain ⟨rfl, hx⟩ := hy
    have := hx us (SqT.of h1)
    rw [e3] at this
    cases this
    exact ⟨Grow.refl _, r3⟩
/-- a list, a tuple or a text, as it comes -/
def iAnyT (K : PySem.W.Frag) (tl : TE) : TI := fun σ H Rr => tl σ H fun x H1 => (∃ a, x = .ref a ∧ (((∃ xs, SqL K H1 a xs) ∧ Rr (Itl K a) H1) ∨ ((∃ xs, SqT K H1 a xs) ∧ Rr (Itt K a) H1))) ∨ ∃ z, x = .str z ∧ Rr (Its z) H1
theorem pi_any {X : Cx} {tg l : Expr} {tl : TE} (hl : PE X l tl) : PI X tg l (iAnyT X.K tl) := by
  refine ⟨fun pins s σ H R I h => ?_⟩
  refine thn (hl.run pins s σ H _ I h) fun v s1 ⟨x, H1, I1, r1, q1⟩ => ?_
  rcases q1 with ⟨a, e, ⟨⟨xs, hq⟩, q⟩ | ⟨⟨xs, hq⟩, q⟩⟩ | ⟨z, e, q⟩
  · subst e
    cases r1
    obtain ⟨its, rv, p, hz⟩ := I1.list hq
    refine wpAny_pyIter_list p.isList ?_
    refine ⟨s1.heap.objs.size, [s1.heap.objs.size], _, _, H1, rfl, I1.kept (t' := s1.toks) fun b o e => Heap.get?_push_of_some _ e, turn_list a _, ⟨_, Heap.get?_push_size _ rfl, rfl, rfl⟩, fun b hb => ?_, q⟩
    have e : b = s1.heap.objs.size := by simpa using hb
    subst e
    exact I1.fpOk (Nat.le_refl _) (I1.hok.fresh (Nat.le_refl _))
  · subst e
    cases r1
    obtain ⟨its, rv, p, hz⟩ := I1.tuple hq
    refine wpAny_pyIter_tuple (show s1.heap.IsTuple a its.toArray from p) ?_
    refine ⟨s1.heap.objs.size, [s1.heap.objs.size], _, _, H1, rfl, I1.kept (t' := s1.toks) fun b o e => Heap.get?_push_of_some _ e, turn_tuple a _, ⟨_, Heap.get?_push_size _ rfl, rfl, rfl⟩, fun b hb => ?_, q⟩
    have e : b = s1.heap.objs.size := by simpa using hb
    subst e
    exact I1.fpOk (Nat.le_refl _) (I1.hok.fresh (Nat.le_refl _))
  · subst e
    obtain ⟨t, rfl⟩ := r1
    cases ha : z.cps.all (· < 128)
    · exact wpAny_pyIter_wide ha (pi_one (tk := s1.toks) I1 _ (turn_str _ z t "str_iterator" (.inr rfl)) ⟨_, Heap.get?_push_size _ rfl, rfl, rfl⟩ q)
    · exact wpAny_pyIter_ascii ha (pi_one (tk := s1.toks) I1 _ (turn_str _ z t "str_ascii_iterator" (.inl rfl)) ⟨_, Heap.get?_push_size _ rfl, rfl, rfl⟩ q)
theorem it_str {K : PySem.W.Frag} {E : RC} {H : Hp} (z : Str) : ItOk K E H (Its z) (z.cps.toList.map chD) [] where
  now := fun p hp => nomatch hp
  turn := fun E2 H2 eK h i => by
    refine ⟨fun e => ?_, fun d hd => ?_⟩
    · rw [e]; show z.cps.size ≤ _; simp
    · rw [List.getElem?_map, Option.map_eq_some_iff] at hd
      obtain ⟨c, hc, rfl⟩ := hd
      have hi : i < z.cps.toList.length := (List.getElem?_eq_some_iff.mp hc).1
      refine ⟨by show i < z.cps.size; simpa using hi, fun x H3 hy => ?_⟩
      obtain ⟨rfl, c', hc', rfl⟩ := hy
      have : c = c' := by
        rw [Array.getElem?_toList] at hc
        rw [hc] at hc'
        exact Option.some.inj hc'
      subst this
      exact ⟨Grow.refl _, rfl⟩
def itemsD (h : List Con) : D → Option (List D)
  | .tup xs => some xs
  | .lst xs => some xs
  | .str z => some (z.cps.toList.map chD)
  | _ => none
def iAny (m : S → R Er) : S → R (List D) := fun s => (m s).bind fun r s1 => opt (itemsD s1.h r.toD) s1
section
variable {X : Cx} {W : WX} {B : List Nat} {tg a b c : Expr} {ma mb : S → R Er} {ms : S → R (List D)} {pos p : Pos} {es : List Expr}
theorem mi_any (h : ME X W B a ma) : MI X W B tg a (iAny ma) := ⟨fun en => pi_imp (pi_any (h.run en)) fun σ H Rr ⟨al, s, hs, hw⟩ => by
  refine T_sub hs hw fun r1 s1 al1 H1 v st1 mo1 e1 hw1 => ?_
  have e2 := e1.toD
  revert hw1 e2
  generalize r1.toD = d
  intro hw1 e2
  cases d with
  | tup xs =>
    obtain ⟨a, us, rfl, h1, h2⟩ := id e2
    exact .inl ⟨a, rfl, .inr ⟨⟨us, SqT.of h1⟩, hw1 al1 H1 st1 (Mo.refl _ _) _ _ (it_tup e2)⟩⟩
  | lst xs =>
    obtain ⟨a, us, rfl, h1, _, h2⟩ := id e2
    exact .inl ⟨a, rfl, .inl ⟨⟨us, SqL.of h1⟩, hw1 al1 H1 st1 (Mo.refl _ _) _ _ (it_list e2)⟩⟩
  | str z => exact .inr ⟨z, e2, hw1 al1 H1 st1 (Mo.refl _ _) _ _ (it_str z)⟩
  | _ => exact hw1.elim⟩
/-! range -/
def rngD (lo : Int) (n : Nat) : List D := (List.range n).map fun (i : Nat) => D.int (lo + (i : Int))
theorem it_rng {K : PySem.W.Frag} {E : RC} {H : Hp} (lo : Int) (n : Nat) : ItOk K E H (Itr lo n) (rngD lo n) [] where
  now := fun p hp => nomatch hp
  turn := fun E2 H2 eK h i => by
    refine ⟨fun e => ?_, fun d hd => ?_⟩
    · rw [e]; show n ≤ _; simp [rngD]
    · unfold rngD at hd
      rw [List.getElem?_map, Option.map_eq_some_iff] at hd
      obtain ⟨j, hj, rfl⟩ := hd
      obtain ⟨hi, e⟩ := List.getElem?_eq_some_iff.mp hj
      rw [List.getElem_range] at e
      subst e
      rw [List.length_range] at hi
      exact ⟨hi, fun x H3 hy => by obtain ⟨rfl, rfl⟩ := hy; exact ⟨Grow.refl _, rfl⟩⟩
def smR (i : Int) : Bool := decide (i.natAbs ≤ 4611686018427387903)
def iR1 (ms : S → R (List D)) : S → R (List D) := fun s => (ms s).bind fun ds s1 => match ds with
  | [.int j] => if smR j = true then .ok (rngD 0 j.toNat) s1 else .bad
  | _ => .bad
def iR2 (ms : S → R (List D)) : S → R (List D) := fun s => (ms s).bind fun ds s1 => match ds with
  | [.int i, .int j] => if (smR i && smR j) = true then .ok (rngD i (j - i).toNat) s1 else .bad
  | _ => .bad
theorem smR_ok {i : Int} (h : smR i = true) : -(2 ^ 62) ≤ i ∧ i < 2 ^ 62 := by
  have h := of_decide_eq_true h
  omega
theorem mi_r1 (ha : MA X W B [a] ms) (hg : Gl X "range") (hm : X.mg "range" = none) (hs : starEach [a] X.env = [(false, eval a X.env)] := by rfl) : MI X W B tg (.Call (.Name "range" p) [a] [] pos) (iR1 ms) := ⟨fun en => pi_imp (pi_range1 hg hm (ha.run en) hs) fun σ H Rr ⟨al, s, hst, hw⟩ => by
  refine TA_sub hst hw fun ds s1 al1 H1 vs st1 mo1 rd hw1 => ?_
  split at hw1
  · rename_i j
    split at hw1
    · rename_i hj
      obtain ⟨v, rfl, rv⟩ := rd.one
      exact ⟨j, by rw [show v = .int j from rv], (smR_ok hj).1, (smR_ok hj).2, hw1 al1 H1 st1 (Mo.refl _ _) _ _ (it_rng 0 _)⟩
    · exact hw1.elim
  · exact hw1.elim⟩
theorem mi_r2 (ha : MA X W B [a, b] ms) (hg : Gl X "range") (hm : X.mg "range" = none) (hs : starEach [a, b] X.env = [(false, eval a X.env), (false, eval b X.env)] := by rfl) (hs2 : starEach [b] X.env = [(false, eval b X.env)] := by rfl) :
    MI X W B tg (.Call (.Name "range" p) [a, b] [] pos) (iR2 ms) := ⟨fun en => pi_imp (pi_range2 hg hm (ha.run en) hs hs2) fun σ H Rr ⟨al, s, hst, hw⟩ => by
  refine TA_sub hst hw fun ds s1 al1 H1 vs st1 mo1 rd hw1 => ?_
  split at hw1
  · rename_i i j
    split at hw1
    · rename_i hj
      rw [Bool.and_eq_true] at hj
      obtain ⟨v, u, rfl, rv, ru⟩ := rd.two
      exact ⟨i, j, by rw [show v = .int i from rv, show u = .int j from ru], ⟨(smR_ok hj.1).1, (smR_ok hj.1).2, (smR_ok hj.2).1, (smR_ok hj.2).2⟩, hw1 al1 H1 st1 (Mo.refl _ _) _ _ (it_rng i _)⟩
    · exact hw1.elim
  · exact hw1.elim⟩
/-! range(a, b, -1) -/
def rngN (lo : Int) (n : Nat) : List D := (List.range n).map fun (i : Nat) => D.int (lo + (i : Int) * (-1))
theorem it_rngN {K : PySem.W.Frag} {E : RC} {H : Hp} (lo : Int) (n : Nat) : ItOk K E H (Itc lo (-1) n) (rngN lo n) [] where
  now := fun p hp => nomatch hp
  turn := fun E2 H2 eK h i => by
    refine ⟨fun e => ?_, fun d hd => ?_⟩
    · rw [e]; show n ≤ _; simp [rngN]
    · unfold rngN at hd
      rw [List.getElem?_map, Option.map_eq_some_iff] at hd
      obtain ⟨j, hj, rfl⟩ := hd
      obtain ⟨hi, e⟩ := List.getElem?_eq_some_iff.mp hj
      rw [List.getElem_range] at e
      subst e
      rw [List.length_range] at hi
      exact ⟨hi, fun x H3 hy => by obtain ⟨rfl, rfl⟩ := hy; exact ⟨Grow.refl _, rfl⟩⟩
def iR3 (ms : S → R (List D)) : S → R (List D) := fun s => (ms s).bind fun ds s1 => match ds with
  | [.int i, .int j, .int (-1)] => if (smR i && smR j) = true then .ok (rngN i (i - j).toNat) s1 else .bad
  | _ => .bad
theorem mi_r3 (ha : MA X W B [a, b, c] ms) (hg : Gl X "range") (hm : X.mg "range" = none)
    (hs : starEach [a, b, c] X.env = (false, eval a X.env) :: starEach [b, c] X.env := by rfl) (hpl : (backTo pos (starEach [b, c] X.env)).any (·.1) = false := by rfl) :
    MI X W B tg (.Call (.Name "range" p) [a, b, c] [] pos) (iR3 ms) := ⟨fun en => pi_imp (pi_range3 hg hm (ha.run en) hs hpl) fun σ H Rr ⟨al, s, hst, hw⟩ => by
  refine TA_sub hst hw fun ds s1 al1 H1 vs st1 mo1 rd hw1 => ?_
  split at hw1
  · rename_i i j
    split at hw1
    · rename_i hj
      rw [Bool.and_eq_true] at hj
      obtain ⟨v, r, rfl, rv, r2⟩ := rd
      obtain ⟨u, w, rfl, ru, rw'⟩ := r2.two
      exact ⟨i, j, -1, (i - j).toNat, by rw [show v = .int i from rv, show u = .int j from ru, show w = .int (-1) from rw'], RgC.neg (smR_ok hj.1).1 (smR_ok hj.1).2 (smR_ok hj.2).1 (smR_ok hj.2).2, hw1 al1 H1 st1 (Mo.refl _ _) _ _ (it_rngN i _)⟩
    · exact hw1.elim
  · exact hw1.elim⟩
end
/-! zip of two lists, of two tuples -/
def zipD (xs ys : List D) : List D := List.zipWith (fun x y => D.tup [x, y]) xs ys
theorem zipD_get {xs ys : List D} {i : Nat} {d : D} (h : (zipD xs ys)[i]? = some d) : ∃ x y, xs[i]? = some x ∧ ys[i]? = some y ∧ d = .tup [x, y] := by
  unfold zipD at h
  rw [List.getElem?_zipWith] at h
  cases hx : xs[i]? with
  | none => rw [hx] at h; simp at h
  | some x =>
    cases hy : ys[i]? with
    | none => rw [hx, hy] at h; simp at h
    | some y => rw [hx, hy] at h; simp at h; exact ⟨x, y, rfl, rfl, h.symm⟩
theorem it_zipL {K : PySem.W.Frag} {E : RC} {H : Hp} {xs ys : List D} {a b : Addr} (r : Rl E H (.lst xs) (.ref a)) (r' : Rl E H (.lst ys) (.ref b)) : ItOk K E H (Itz K a b) (zipD xs ys) [(.lst xs, .ref a), (.lst ys, .ref b)] where
  now := fun p hp => by
    rcases List.mem_cons.mp hp with rfl | hp
    · exact r
    · obtain rfl := List.mem_singleton.mp hp
      exact r'
  turn := fun E2 H2 eK h i => by
    obtain ⟨_, us, e, h1, _, h2⟩ := h _ List.mem_cons_self
    cases e
    obtain ⟨_, ws, e, h3, _, h4⟩ := h _ (List.mem_cons_of_mem _ List.mem_cons_self)
    cases e
    refine ⟨fun e => ⟨us, ws, SqL.of h1, SqL.of h3, ?_⟩, fun d hd => ?_⟩
    · rw [← h2.length, ← h4.length, e]
      unfold zipD
      rw [List.length_zipWith]
      omega
    · obtain ⟨x, y, hx, hy, rfl⟩ := zipD_get hd
      obtain ⟨v, e3, r3⟩ := h2.get hx
      obtain ⟨u, e4, r4⟩ := h4.get hy
      refine ⟨⟨us, ws, v, u, SqL.of h1, SqL.of h3, e3, e4⟩, fun z H3 hz => ?_⟩
      obtain ⟨T, x', y', rfl, nT, rfl, f1, f2⟩ := hz
      have ex := (f1 us (SqL.of h1)).symm.trans e3
      have ey := (f2 ws (SqL.of h3)).symm.trans e4
      cases ex
      cases ey
      exact ⟨Grow.new nT, T, [_, _], rfl, upd_same, _, _, rfl, r3.mo (Grow.new nT).mo, _, _, rfl, r4.mo (Grow.new nT).mo, rfl⟩
theorem it_zipT {K : PySem.W.Frag} {E : RC} {H : Hp} {xs ys : List D} {a b : Addr} (r : Rl E H (.tup xs) (.ref a)) (r' : Rl E H (.tup ys) (.ref b)) : ItOk K E H (RZ.ItzT K a b) (zipD xs ys) [(.tup xs, .ref a), (.tup ys, .ref b)] where
  now := fun p hp => by
    rcases List.mem_cons.mp hp with rfl | hp
    · exact r
    · obtain rfl := List.mem_singleton.mp hp
      exact r'
  turn := fun E2 H2 eK h i => by
    obtain ⟨_, us, e, h1, h2⟩ := h _ List.mem_cons_self
    cases e
    obtain ⟨_, ws, e, h3, h4⟩ := h _ (List.mem_cons_of_mem _ List.mem_cons_self)
    cases e
    refine ⟨fun e => ⟨us, ws, SqT.of h1, SqT.of h3, ?_⟩, fun d hd => ?_⟩
    · rw [← h2.length, ← h4.length, e]
      unfold zipD
      rw [List.length_zipWith]
      omega
    · obtain ⟨x, y, hx, hy, rfl⟩ := zipD_get hd
      obtain ⟨v, e3, r3⟩ := h2.get hx
      obtain ⟨u, e4, r4⟩ := h4.get hy
      refine ⟨⟨us, ws, v, u, SqT.of h1, SqT.of h3, e3, e4⟩, fun z H3 hz => ?_⟩
      obtain ⟨T, x', y', rfl, nT, rfl, f1, f2⟩ := hz
      have ex := (f1 us (SqT.of h1)).symm.trans e3
      have ey := (f2 ws (SqT.of h3)).symm.trans e4
      cases ex
      cases ey
      exact ⟨Grow.new nT, T, [_, _], rfl, upd_same, _, _, rfl, r3.mo (Grow.new nT).mo, _, _, rfl, r4.mo (Grow.new nT).mo, rfl⟩
def iZipM (ms : S → R (List D)) : S → R (List D) := fun s => (ms s).bind fun ds s1 => match ds with
  | [.lst xs, .lst ys] => .ok (zipD xs ys) s1
  | [.tup xs, .tup ys] => .ok (zipD xs ys) s1
  | _ => .bad
/-! enumerate of a list -/
def enumD : Nat → List D → List D
  | _, [] => []
  | k, d :: r => .tup [.int k, d] :: enumD (k + 1) r
theorem enumD_get : ∀ {k : Nat} {xs : List D} {i : Nat} {d : D}, (enumD k xs)[i]? = some d → ∃ x, xs[i]? = some x ∧ d = .tup [.int ((k + i : Nat) : Int), x]
  | k, [], i, d, h => by simp [enumD] at h
  | k, x :: r, 0, d, h => by
    simp [enumD] at h
    exact ⟨x, rfl, by rw [← h]; rfl⟩
  | k, x :: r, i + 1, d, h => by
    obtain ⟨y, h1, h2⟩ := enumD_get (k := k + 1) (xs := r) (i := i) (d := d) (by simpa [enumD] using h)
    exact ⟨y, by simpa using h1, by rw [h2, show k + 1 + i = k + (i + 1) by omega]⟩
theorem enumD_len : ∀ (k : Nat) (xs : List D), (enumD k xs).length = xs.length
  | _, [] => rfl
  | k, _ :: r => congrArg (· + 1) (enumD_len (k + 1) r)
theorem it_enum {K : PySem.W.Frag} {E : RC} {H : Hp} {xs : List D} {a : Addr} (r : Rl E H (.lst xs) (.ref a)) : ItOk K E H (Ite K a) (enumD 0 xs) [(.lst xs, .ref a)] where
  now := fun p hp => by
    obtain rfl := List.mem_singleton.mp hp
    exact r
  turn := fun E2 H2 eK h i => by
    obtain ⟨_, us, e, h1, _, h2⟩ := h _ (List.mem_singleton.mpr rfl)
    cases e
    refine ⟨fun e => ⟨us, SqL.of h1, by rw [← h2.length, e, enumD_len]; exact Nat.le_refl _⟩, fun d hd => ?_⟩
    obtain ⟨x, hx, rfl⟩ := enumD_get hd
    obtain ⟨v, e3, r3⟩ := h2.get hx
    refine ⟨⟨us, v, SqL.of h1, e3⟩, fun z H3 hz => ?_⟩
    obtain ⟨T, x', rfl, nT, rfl, f1⟩ := hz
    have ex := (f1 us (SqL.of h1)).symm.trans e3
    cases ex
    exact ⟨Grow.new nT, T, [_, _], rfl, upd_same, _, _, rfl, by rw [Nat.zero_add]; exact rfl, _, _, rfl, r3.mo (Grow.new nT).mo, rfl⟩
def iEnumM (ms : S → R (List D)) : S → R (List D) := fun s => (ms s).bind fun ds s1 => match ds with
  | [.lst xs] => .ok (enumD 0 xs) s1
  | _ => .bad
section
variable {X : Cx} {W : WX} {B : List Nat} {tg a b c : Expr} {ma mb : S → R Er} {ms : S → R (List D)} {pos p tpos : Pos} {elts : List Expr} {kk : Nat}
theorem mi_zip (ha : MA X W B [a, b] ms) (hg : Gl X "zip") (hm : X.mg "zip" = none)
    (hs : starEach [a, b] X.env = (false, eval a X.env) :: starEach [b] X.env := by rfl) (hpl : (backTo pos (starEach [b] X.env)).any (·.1) = false := by rfl) :
    MI X W B (.Tuple elts kk tpos) (.Call (.Name "zip" p) [a, b] [] pos) (iZipM ms) := ⟨fun en => pi_imp (RZ.pi_zipA hg hm (ha.run en) hs hpl) fun σ H Rr ⟨al, s, hst, hw⟩ => by
  refine TA_sub hst hw fun ds s1 al1 H1 vs st1 mo1 rd hw1 => ?_
  split at hw1
  · rename_i xs ys
    obtain ⟨v, u, rfl, rv, ru⟩ := rd.two
    obtain ⟨a, us, rfl, h1, _, h2⟩ := id rv
    obtain ⟨b, ws, rfl, h3, _, h4⟩ := id ru
    exact ⟨a, b, us, ws, rfl, .inl ⟨SqL.of h1, SqL.of h3, hw1 al1 H1 st1 (Mo.refl _ _) _ _ (it_zipL rv ru)⟩⟩
  · rename_i xs ys
    obtain ⟨v, u, rfl, rv, ru⟩ := rd.two
    obtain ⟨a, us, rfl, h1, h2⟩ := id rv
    obtain ⟨b, ws, rfl, h3, h4⟩ := id ru
    exact ⟨a, b, us, ws, rfl, .inr ⟨SqT.of h1, SqT.of h3, hw1 al1 H1 st1 (Mo.refl _ _) _ _ (it_zipT rv ru)⟩⟩
  · exact hw1.elim⟩
theorem mi_enum (ha : MA X W B [a] ms) (hg : Gl X "enumerate") (hm : X.mg "enumerate" = none) (hs : starEach [a] X.env = [(false, eval a X.env)] := by rfl) :
    MI X W B (.Tuple elts kk tpos) (.Call (.Name "enumerate" p) [a] [] pos) (iEnumM ms) := ⟨fun en => pi_imp (pi_enum hg hm (ha.run en) hs) fun σ H Rr ⟨al, s, hst, hw⟩ => by
  refine TA_sub hst hw fun ds s1 al1 H1 vs st1 mo1 rd hw1 => ?_
  split at hw1
  · rename_i xs
    obtain ⟨v, rfl, rv⟩ := rd.one
    obtain ⟨a, us, rfl, h1, _, h2⟩ := id rv
    exact ⟨a, us, rfl, SqL.of h1, hw1 al1 H1 st1 (Mo.refl _ _) _ _ (it_enum rv)⟩
  · exact hw1.elim⟩
end
end MP

namespace MP
open PySem PySem.Spec PyProof.Rows L2
/-! list comprehensions -/
def noOwn (vs : List Nat) (s : S) : Bool := vs.all fun i => match s.v[i]? with
  | some (.own _) => false
  | _ => true
def wipeV : List Nat → List SD → List SD
  | [], v => v
  | i :: is, v => (wipeV is v).set i .no
def restS : SD → SD
  | .val d => if d.flat = true then .val d else .no
  | _ => .no
/-- the slots vs as they were (the flat ones) -/
def restV : List Nat → List SD → List SD → List SD
  | [], _, v => v
  | i :: is, v0, v => (restV is v0 v).set i (restS (v0[i]?.getD .no))
def noEx {α : Type} : R α → R α
  | .ex _ _ => .bad
  | r => r
def compL (B vs : List Nat) (t : Tg) (tc : S → R Bool) (me : S → R Er) : List D → List D → S → R (List D)
  | [], acc, s => .ok acc s
  | d :: r, acc, s => match storeT B t d ⟨wipeV vs s.v, s.h⟩ with
    | none => .bad
    | some s2 => (noEx (tc s2)).bind fun k s3 => if k = true then (noEx (me s3)).bind fun u s4 => (if acc.length < maxL then compL B vs t tc me r (acc ++ [u.toD]) ⟨restV vs s.v s4.v, s4.h⟩ else .bad)
      else compL B vs t tc me r acc ⟨restV vs s.v s3.v, s3.h⟩
def eComp (B vs : List Nat) (mi : S → R (List D)) (t : Tg) (tc : S → R Bool) (me : S → R Er) : S → R Er := fun s => (mi s).bind fun xs s1 => if noOwn vs s1 = true then (compL B vs t tc me xs [] s1).bind fun acc s2 => .ok (.new (.lst acc)) s2 else .bad
section
variable {K : PySem.W.Frag} {mg : Str → Option Value} {W : WX} {en : En} {B : List Nat} {al al1 : Nat → Addr} {s s1 s4 : S} {σ σ2 : PSt} {H H0 H1 H4 : Hp}
theorem wipeV_len : ∀ (vs : List Nat) (v : List SD), (wipeV vs v).length = v.length
  | [], _ => rfl
  | i :: is, v => by simp [wipeV, wipeV_len is v]
theorem restV_len : ∀ (vs : List Nat) (v0 v : List SD), (restV vs v0 v).length = v.length
  | [], _, _ => rfl
  | i :: is, v0, v => by simp [restV, restV_len is v0 v]
theorem wipeV_get : ∀ {vs : List Nat} {v : List SD} {j : Nat} {sd : SD}, (wipeV vs v)[j]? = some sd → sd ≠ .no → j ∉ vs ∧ v[j]? = some sd
  | [], v, j, sd, h, _ => ⟨by simp, h⟩
  | i :: is, v, j, sd, h, n => by
    unfold wipeV at h
    by_cases hj : i = j
    · subst hj
      rw [List.getElem?_set] at h
      split at h
      · split at h
        · cases h; exact absurd rfl n
        · cases h
      · rename_i q; exact absurd rfl q
    · rw [List.getElem?_set_ne hj] at h
      obtain ⟨h1, h2⟩ := wipeV_get h n
      exact ⟨by simp; exact ⟨fun e => hj e.symm, h1⟩, h2⟩
theorem wipeS_get : ∀ {vs : List Nat} {σ : PSt} {j : Nat}, j ∉ vs → (L2.wipe σ vs)[j]? = σ[j]?
  | [], σ, j, _ => rfl
  | v :: vs, σ, j, h => by
    show ((L2.wipe σ vs).set v none)[j]? = _
    rw [List.getElem?_set_ne (fun e => h (by simp [e])), wipeS_get (fun e => h (by simp [e]))]
/-- the comprehension's names are forgotten -/
theorem Sm.wipe (m : Sm K mg en al s σ H) (vs : List Nat) : Sm K mg en al ⟨wipeV vs s.v, s.h⟩ (L2.wipe σ vs) H := by
  have avE : ∀ a, av en [] al ⟨wipeV vs s.v, s.h⟩ (L2.wipe σ vs) a → av en [] al s σ a := by
    intro a x
    rcases x with x | ⟨i, c, _, h1, h2⟩ | x
    · exact .inl x
    · obtain ⟨h3, h4⟩ := wipeV_get h1 (fun z => nomatch z)
      rw [wipeS_get h3] at h2
      exact .inr (.inl ⟨i, c, (fun z => nomatch z), h4, h2⟩)
    · exact .inr (.inr x)
  have mo : Mo (rc K mg en [] al s σ) H (rc K mg en [] al ⟨wipeV vs s.v, s.h⟩ (L2.wipe σ vs)) H := ⟨fun _ _ h _ => h, fun a _ h z => h (avE a z), fun _ h => h, Nat.le_refl _, fun _ _ => rfl, rfl, rfl⟩
  refine ⟨by show (wipeV vs s.v).length = _; rw [wipeV_len, L2.wipe_length]; exact m.len, fun n c e => ⟨(m.cell n c e).1, (m.cell n c e).2.mo mo fun _ q => q⟩, m.inj, fun i d e => ?_, fun i c e => ?_, fun i j c c' a h1 h2 h3 h4 => ?_, m.ek, m.eal, m.enew, m.pres, m.dom, fun a x => ⟨(m.ext a x).1, (m.ext a x).2.1, fun i c e q => ?_⟩, m.pin, fun p hp => (m.hold p hp).mo mo⟩
  · obtain ⟨h3, h4⟩ := wipeV_get e (fun z => nomatch z)
    obtain ⟨v, e1, r⟩ := m.slot i d h4
    exact ⟨v, by rw [wipeS_get h3]; exact e1, r.mo mo⟩
  · obtain ⟨h3, h4⟩ := wipeV_get e (fun z => nomatch z)
    obtain ⟨a, e1, r, x, y⟩ := m.own i c h4
    exact ⟨a, by rw [wipeS_get h3]; exact e1, r.mo mo fun _ q => q, x, y⟩
  · obtain ⟨h5, h6⟩ := wipeV_get h1 (fun z => nomatch z)
    obtain ⟨h7, h8⟩ := wipeV_get h2 (fun z => nomatch z)
    rw [wipeS_get h5] at h3
    rw [wipeS_get h7] at h4
    exact m.dis i j c c' a h6 h8 h3 h4
  · obtain ⟨h3, h4⟩ := wipeV_get e (fun z => nomatch z)
    rw [wipeS_get h3] at q
    exact (m.ext a x).2.2 i c h4 q
theorem restV_out : ∀ {vs : List Nat} {v0 v : List SD} {j : Nat}, j ∉ vs → (restV vs v0 v)[j]? = v[j]?
  | [], _, _, _, _ => rfl
  | i :: is, v0, v, j, h => by
    show ((restV is v0 v).set i _)[j]? = _
    rw [List.getElem?_set_ne (fun e => h (by simp [e])), restV_out (fun e => h (by simp [e]))]
theorem restV_in : ∀ {vs : List Nat} {v0 v : List SD} {j : Nat} {sd : SD}, j ∈ vs → (restV vs v0 v)[j]? = some sd → sd = restS (v0[j]?.getD .no)
  | [], _, _, _, _, h, _ => by cases h
  | i :: is, v0, v, j, sd, h, e => by
    unfold restV at e
    by_cases hj : i = j
    · subst hj
      rw [List.getElem?_set] at e
      split at e
      · split at e
        · cases e; rfl
        · cases e
      · rename_i q; exact absurd rfl q
    · rw [List.getElem?_set_ne hj] at e
      rcases List.mem_cons.mp h with h | h
      · exact absurd h.symm hj
      · exact restV_in h e
/-- .. and come back -/
theorem Sm.rest (m0 : Sm K mg en al s σ H) (m : Sm K mg en al1 s4 σ2 H4) {vs : List Nat} (w : L2.wipe σ2 vs = L2.wipe σ vs) (fo : Fo (rc K mg en [] al s σ) H (rc K mg en [] al1 ⟨restV vs s.v s4.v, s4.h⟩ σ) H4) : Sm K mg en al1 ⟨restV vs s.v s4.v, s4.h⟩ σ H4 := by
  have lenσ : σ2.length = σ.length := by rw [← L2.wipe_length σ2 vs, ← L2.wipe_length σ vs, w]
  have same : ∀ j, j ∉ vs → σ[j]? = σ2[j]? := fun j hj => by rw [← wipeS_get (σ := σ) hj, ← wipeS_get (σ := σ2) hj, w]
  have own1 : ∀ (j : Nat) (c : Con), (restV vs s.v s4.v)[j]? = some (.own c) → j ∉ vs ∧ s4.v[j]? = some (.own c) := by
    intro j c e
    by_cases hj : j ∈ vs
    · have := restV_in hj e
      unfold restS at this
      split at this
      · split at this <;> cases this
      · cases this
    · rw [restV_out hj] at e; exact ⟨hj, e⟩
  have avE : ∀ a, av en [] al1 ⟨restV vs s.v s4.v, s4.h⟩ σ a → av en [] al1 s4 σ2 a := by
    intro a x
    rcases x with x | ⟨i, c, _, h1, h2⟩ | x
    · exact .inl x
    · obtain ⟨h3, h4⟩ := own1 i c h1
      rw [same i h3] at h2
      exact .inr (.inl ⟨i, c, (fun z => nomatch z), h4, h2⟩)
    · exact .inr (.inr x)
  have mo : Mo (rc K mg en [] al1 s4 σ2) H4 (rc K mg en [] al1 ⟨restV vs s.v s4.v, s4.h⟩ σ) H4 := ⟨fun _ _ h _ => h, fun a _ h z => h (avE a z), fun _ h => h, Nat.le_refl _, fun _ _ => rfl, rfl, rfl⟩
  refine ⟨by show (restV vs s.v s4.v).length = _; rw [restV_len, m.len, lenσ], fun n c e => ⟨(m.cell n c e).1, (m.cell n c e).2.mo mo fun _ q => q⟩, m.inj, fun i d e => ?_, fun i c e => ?_, fun i j c c' a h1 h2 h3 h4 => ?_, m.ek, m.eal, m.enew, m.pres, m.dom, fun a x => ⟨(m.ext a x).1, (m.ext a x).2.1, fun i c e q => ?_⟩, m.pin, fun p hp => (m.hold p hp).mo mo⟩
  · by_cases hj : i ∈ vs
    · have := restV_in hj e
      unfold restS at this
      split at this
      · rename_i d0 q
        split at this
        · rename_i df
          cases this
          have q2 : s.v[i]? = some (.val d) := by
            cases z : s.v[i]? with
            | none => rw [z] at q; cases q
            | some sd => rw [z] at q; exact congrArg some q
          obtain ⟨v, e1, r⟩ := m0.slot i d q2
          exact ⟨v, e1, Rl.fo fo df r⟩
        · cases this
      · cases this
    · rw [restV_out hj] at e
      obtain ⟨v, e1, r⟩ := m.slot i d e
      exact ⟨v, by rw [same i hj]; exact e1, r.mo mo⟩
  · obtain ⟨h3, h4⟩ := own1 i c e
    obtain ⟨a, e1, r, x, y⟩ := m.own i c h4
    exact ⟨a, by rw [same i h3]; exact e1, r.mo mo fun _ q => q, x, y⟩
  · obtain ⟨h5, h6⟩ := own1 i c h1
    obtain ⟨h7, h8⟩ := own1 j c' h2
    rw [same i h5] at h3
    rw [same j h7] at h4
    exact m.dis i j c c' a h6 h8 h3 h4
  · obtain ⟨h3, h4⟩ := own1 i c e
    rw [same i h3] at q
    exact (m.ext a x).2.2 i c h4 q
end
/-- an element, whatever stands apart -/
def TEa (K : PySem.W.Frag) (mg : Str → Option Value) (B : List Nat) (m : S → R Er) : TE := fun σ H Q => ∃ en, TEm K mg (fun _ _ _ _ => False) en B m σ H Q
def TTa (K : PySem.W.Frag) (mg : Str → Option Value) (B : List Nat) (m : S → R Bool) : TT := fun σ H Q => ∃ en, TTm K mg (fun _ _ _ _ => False) en B m σ H Q
structure MTs (X : Cx) (W : WX) (B : List Nat) (es : List Expr) (m : S → R Bool) : Prop where
  run : ∀ en, PTs X es (TTm X.K X.mg W en B m)
def eYes : S → R Bool := fun s => .ok true s
theorem pts_imp {X : Cx} {e : List Expr} {t t' : TT} (h : PTs X e t) (i : ∀ σ H Q, t' σ H Q → t σ H Q) : PTs X e t' := ⟨fun pins s σ H Q I q => h.run pins s σ H Q I (i σ H Q q)⟩
theorem mts_nil {X : Cx} {W : WX} {B : List Nat} : MTs X W B [] eYes := ⟨fun en => pts_imp pts_nil fun σ H Q ⟨al, s, hs, hw⟩ => hw al H hs (Mo.refl _ _)⟩
theorem mts_one {X : Cx} {W : WX} {B : List Nat} {c : Expr} {m : S → R Bool} (h : MT X W B c m) : MTs X W B [c] m := ⟨fun en => pts_one (h.run en)⟩
end MP

namespace MP
open PySem PySem.Spec PyProof.Rows L2
section
variable {K : PySem.W.Frag} {mg : Str → Option Value} {W : WX} {en : En} {B : List Nat} {al al1 : Nat → Addr} {s s1 : S} {σ : PSt} {H H0 H1 : Hp}
/-- the list that a comprehension makes gets one more item -/
theorem Sm.grown {D : Addr} {us : List V} {y : V} (m : Sm K mg (en.add D (.lst us)) al s σ H) (m0 : ∀ p ∈ en.pin, en.ex p.1 ∧ p.1 ≠ D) (h0 : en.H D = none) : Sm K mg (en.add D (.lst (us ++ [y]))) al s σ (upd H D (.lst (us ++ [y]))) := by
  have hD : H D = some (.lst us) := (m.pin _ List.mem_cons_self).2
  have avD : ∀ {o}, av (en.add D o) [] al s σ D := .inr (.inr (.inr rfl))
  have avE : ∀ {b}, av (en.add D (.lst (us ++ [y]))) [] al s σ b → av (en.add D (.lst us)) [] al s σ b := fun x => x
  have mo : Mo (rc K mg (en.add D (.lst us)) [] al s σ) H (rc K mg (en.add D (.lst (us ++ [y]))) [] al s σ) (upd H D (.lst (us ++ [y]))) := by
    refine ⟨fun b u e x => ?_, fun b _ x y => x y, fun b e => ?_, Nat.le_refl _, fun _ _ => rfl, rfl, rfl⟩
    · have : b ≠ D := by
        rintro rfl
        rcases x with x | x
        · rw [hD] at e; cases e; cases x
        · exact x avD
      rw [upd_ne this]; exact e
    · by_cases hb : b = D
      · subst hb; rw [upd_same] at e; cases e
      · rw [upd_ne hb] at e; exact e
  obtain ⟨_, nc, no⟩ := m.ext D (.inr rfl)
  refine ⟨m.len, fun n c e => ⟨(m.cell n c e).1, (m.cell n c e).2.mo mo fun u q => by rw [upd_ne (nc n (List.getElem?_eq_some_iff.mp e).1)]; exact q⟩, m.inj, fun i d e => ?_, fun i c e => ?_, m.dis, m.ek, m.eal, m.enew, fun b u e x => ?_, fun b e => m.dom b (mo.dom b e), fun b x => ?_, fun p hp => ?_, fun p hp => (m.hold p hp).mo mo⟩
  · obtain ⟨v, e1, r⟩ := m.slot i d e
    exact ⟨v, e1, r.mo mo⟩
  · obtain ⟨a, e1, r, x, z⟩ := m.own i c e
    refine ⟨a, e1, r.mo mo fun u q => ?_, x, z⟩
    have : a ≠ D := by rintro rfl; exact no i c e e1
    rw [upd_ne this]; exact q
  · have hb : b ≠ D := by
      rintro rfl
      have e' : en.H b = some u := e
      rw [h0] at e'; cases e'
    rw [upd_ne hb]; exact m.pres b u e x
  · by_cases hb : b = D
    · subst hb
      exact ⟨⟨_, upd_same, rfl⟩, nc, no⟩
    · obtain ⟨⟨u, h1, h2⟩, h3⟩ := m.ext b (x.elim .inl fun z => .inr z)
      exact ⟨⟨u, by rw [upd_ne hb]; exact h1, h2⟩, h3⟩
  · rcases List.mem_cons.mp hp with rfl | hp
    · exact ⟨.inr rfl, upd_same⟩
    · obtain ⟨h1, h2⟩ := m0 p hp
      exact ⟨.inl h1, by rw [upd_ne h2]; exact (m.pin p (List.mem_cons_of_mem _ hp)).2⟩
theorem tta_of {tc : S → R Bool} {en' : En} {β : Type} {f : Bool → S → R β} {Kk : β → S → (Nat → Addr) → Hp → Prop} {Q : Bool → Hp → Prop} (hs : Sm K mg en' al s σ H) (hw : Wp K mg W en' B al s σ H ((noEx (tc s)).bind f) Kk)
    (hk : ∀ r s1 al1 H1, Sm K mg en' al1 s1 σ H1 → Mo (rc K mg en' B al s σ) H (rc K mg en' B al1 s1 σ) H1 → Wp K mg W en' B al1 s1 σ H1 (f r s1) Kk → Q r H1) : TTa K mg B tc σ H Q := by
  refine ⟨en', al, s, hs, ?_⟩
  revert hw
  cases tc s with
  | ok r s1 => exact fun hw al1 H1 st1 mo => hk r s1 al1 H1 st1 mo (hw.rebase mo)
  | ex e s1 => exact fun hw => hw.elim
  | bad => exact fun hw => hw
theorem tea_of {me : S → R Er} {en' : En} {β : Type} {f : Er → S → R β} {Kk : β → S → (Nat → Addr) → Hp → Prop} {Q : VK} (hs : Sm K mg en' al s σ H) (hw : Wp K mg W en' B al s σ H ((noEx (me s)).bind f) Kk)
    (hk : ∀ r s1 al1 H1 v, Sm K mg en' al1 s1 σ H1 → Mo (rc K mg en' B al s σ) H (rc K mg en' B al1 s1 σ) H1 → ErN K mg en' B al1 s1 σ H H1 r v → Wp K mg W en' B al1 s1 σ H1 (f r s1) Kk → Q v H1) : TEa K mg B me σ H Q := by
  refine ⟨en', al, s, hs, ?_⟩
  revert hw
  cases me s with
  | ok r s1 => exact fun hw al1 H1 st1 mo v hv => hk r s1 al1 H1 v st1 mo hv (hw.rebase mo)
  | ex e s1 => exact fun hw => hw.elim
  | bad => exact fun hw => hw
/-- of the states of a comprehension's turn alone the slots outside vs count -/
theorem av_rest {vs : List Nat} {v0 : List SD} {σ2 : PSt} (w : L2.wipe σ2 vs = L2.wipe σ vs) {a : Addr} {en' : En} (h : av en' B al1 ⟨restV vs v0 s1.v, s1.h⟩ σ a) : av en' B al1 s1 σ2 a := by
  rcases h with h | ⟨i, c, hb, h1, h2⟩ | h
  · exact .inl h
  · by_cases hj : i ∈ vs
    · have := restV_in hj h1
      unfold restS at this
      split at this
      · split at this <;> cases this
      · cases this
    · rw [restV_out hj] at h1
      refine .inr (.inl ⟨i, c, hb, h1, ?_⟩)
      rw [← wipeS_get (σ := σ2) hj, w, wipeS_get hj]
      exact h2
  · exact .inr (.inr h)
theorem mo_rest {vs : List Nat} {v0 : List SD} {σ2 : PSt} (w : L2.wipe σ2 vs = L2.wipe σ vs) {en' : En} : Mo (rc K mg en' B al1 s1 σ2) H (rc K mg en' B al1 ⟨restV vs v0 s1.v, s1.h⟩ σ) H :=
  ⟨fun _ _ h _ => h, fun a _ h z => h (av_rest w z), fun _ h => h, Nat.le_refl _, fun _ _ => rfl, rfl, rfl⟩
end
theorem storeT_h {B : List Nat} {t : Tg} {d : D} {s s2 : S} (h : storeT B t d s = some s2) : s2.h = s.h := by
  cases t with
  | nm i => cases h; rfl
  | tp is =>
    unfold storeT at h
    dsimp only at h
    split at h
    · split at h
      · cases h
        have : ∀ (is : List Nat) (ds : List D) (s : S), (putL is ds s).h = s.h := by
          intro is
          induction is with
          | nil => intro ds s; rfl
          | cons i is ih => intro ds s; cases ds with
            | nil => rfl
            | cons d ds => exact (ih ds _).trans rfl
        rw [this]
        split <;> rfl
      · cases h
    · cases h
/-- a store of the turn's item makes no new thing of the def's own -/
theorem storeT_own {B : List Nat} {t : Tg} {d : D} {s s2 : S} (h : storeT B t d s = some s2) {j : Nat} {c : Con} (e : s2.v[j]? = some (.own c)) : s.v[j]? = some (.own c) := by
  have st : ∀ {v : List SD} {i j : Nat} {d : D} {c : Con}, (v.set i (.val d))[j]? = some (.own c) → v[j]? = some (.own c) := by
    intro v i j d c e
    by_cases hj : i = j
    · subst hj
      rw [List.getElem?_set] at e
      split at e
      · split at e <;> cases e
      · rename_i q; exact absurd rfl q
    · rw [List.getElem?_set_ne hj] at e; exact e
  cases t with
  | nm i =>
    cases h
    unfold putV at e
    have e := st e
    split at e
    · exact e
    · exact (frz_own e).2
  | tp is =>
    unfold storeT at h
    dsimp only at h
    split at h
    · rename_i ds
      split at h
      · cases h
        have : ∀ (is : List Nat) (ds : List D) (s : S), (putL is ds s).v[j]? = some (.own c) → s.v[j]? = some (.own c) := by
          intro is
          induction is with
          | nil => intro ds s h; exact h
          | cons i is ih => intro ds s h; cases ds with
            | nil => exact h
            | cons d ds => exact st (ih ds _ h)
        have e := this is _ _ e
        split at e
        · exact e
        · exact (frz_own e).2
      · cases h
    · cases h
theorem noOwn_rest {vs : List Nat} {v0 : List SD} {s : S} : noOwn vs ⟨restV vs v0 s.v, s.h⟩ = true := by
  unfold noOwn
  rw [List.all_eq_true]
  intro i hi
  dsimp only
  cases h : (restV vs v0 s.v)[i]? with
  | none => rfl
  | some sd =>
    have := restV_in hi h
    subst this
    cases q : restS (v0[i]?.getD .no) with
    | own c =>
      unfold restS at q
      split at q
      · split at q <;> cases q
      · cases q
    | _ => rfl
theorem wipe_wipe (σ : PSt) (vs : List Nat) : L2.wipe (L2.wipe σ vs) vs = L2.wipe σ vs := by
  apply List.ext_getElem?
  intro j
  by_cases hj : j ∈ vs
  · have gen : ∀ (ws : List Nat) (τ : PSt), j ∈ ws → τ.length = σ.length → (L2.wipe τ ws)[j]? = if j < σ.length then some none else none := by
      intro ws
      induction ws with
      | nil => intro τ h; cases h
      | cons w ws ih =>
        intro τ h hl
        show ((L2.wipe τ ws).set w none)[j]? = _
        rw [List.getElem?_set, L2.wipe_length, hl]
        by_cases hw : w = j
        · rw [if_pos hw]; subst hw; rfl
        · rw [if_neg hw]
          rcases List.mem_cons.mp h with h | h
          · exact absurd h.symm hw
          · exact ih τ h hl
    rw [gen vs _ hj (L2.wipe_length _ _), gen vs σ hj rfl]
  · rw [wipeS_get hj]
theorem compL_noex {B vs : List Nat} {t : Tg} {tc : S → R Bool} {me : S → R Er} : ∀ {xs acc : List D} {s s' : S} {e : Ex}, compL B vs t tc me xs acc s ≠ .ex e s'
  | [], acc, s, s', e, h => by cases h
  | d :: r, acc, s, s', e, h => by
    unfold compL at h
    split at h
    · cases h
    · rename_i s2 _
      revert h
      cases tc s2 with
      | bad => intro h; cases h
      | ex _ _ => intro h; cases h
      | ok k s3 =>
        intro h
        simp only [noEx, R.bind] at h
        split at h
        · revert h
          cases me s3 with
          | bad => intro h; cases h
          | ex _ _ => intro h; cases h
          | ok u s4 =>
            intro h
            simp only [noEx, R.bind] at h
            split at h
            · exact compL_noex h
            · cases h
        · exact compL_noex h
section
variable {K : PySem.W.Frag} {mg : Str → Option Value} {W : WX} {en : En} {B : List Nat} {al al1 : Nat → Addr} {s s1 : S} {σ : PSt} {H H0 H1 : Hp}
theorem mo_grown {D : Addr} {us : List V} {y : V} (hD : H D = some (.lst us)) : Mo (rc K mg (en.add D (.lst us)) B al s σ) H (rc K mg (en.add D (.lst (us ++ [y]))) B al s σ) (upd H D (.lst (us ++ [y]))) := by
  refine ⟨fun b u e x => ?_, fun b _ x y => x y, fun b e => ?_, Nat.le_refl _, fun _ _ => rfl, rfl, rfl⟩
  · have : b ≠ D := by
      rintro rfl
      rcases x with x | x
      · rw [hD] at e; cases e; cases x
      · exact x (.inr (.inr (.inr rfl)))
    rw [upd_ne this]; exact e
  · by_cases hb : b = D
    · subst hb; rw [upd_same] at e; cases e
    · rw [upd_ne hb] at e; exact e
theorem t_comp {vs : List Nat} {t : Tg} {mi : S → R (List MP.D)} {tc : S → R Bool} {me : S → R Er} (hv : ∀ i ∈ t.all, i ∈ vs) {Q : VK} (h : TEm K mg W en B (eComp B vs mi t tc me) σ H Q) :
    tLc (TIm K mg W en B mi) (gOf K t) (TTa K mg B tc) (TEa K mg B me) vs σ H Q := by
  obtain ⟨al, s, hs, hw⟩ := h
  refine ⟨al, s, hs, ?_⟩
  unfold eComp at hw
  revert hw
  cases mi s with
  | bad => exact fun hw => hw
  | ex e s1 => exact fun hw => hw
  | ok xs s1 =>
    intro hw al1 H1 st1 mo1 J hh ok D hD
    replace hw := hw.rebase mo1
    simp only [R.bind] at hw
    split at hw
    case isFalse => exact hw.elim
    case isTrue hno =>
    obtain ⟨accf, sf, ef⟩ : ∃ accf sf, compL B vs t tc me xs [] s1 = .ok accf sf := by
      revert hw
      cases q : compL B vs t tc me xs [] s1 with
      | bad => exact fun hw => hw.elim
      | ex e s => exact (compL_noex q).elim
      | ok a s => exact fun _ => ⟨a, s, rfl⟩
    rw [ef] at hw
    have hw : Wp K mg W en B al1 s1 σ H1 (R.ok (Er.new (Con.lst accf)) sf) _ := hw
    have enD : en.H D = none := st1.dom D hD
    have exD : ¬ en.ex D := fun x => by
      obtain ⟨⟨o, h1, _⟩, _⟩ := st1.ext D x
      rw [hD] at h1; cases h1
    have pinD : ∀ p ∈ en.pin, en.ex p.1 ∧ p.1 ≠ D := fun p hp => ⟨st1.pex p hp, fun z => exD (z ▸ st1.pex p hp)⟩
    have inv0 : Mo (rc K mg en B al1 s1 σ) H1 (rc K mg (en.add D (.lst [])) B al1 s1 σ) (upd H1 D (.lst [])) :=
      ⟨fun b u e _ => Grow.new hD b u e, fun b e x y => (av_add y).elim x fun z => e (z ▸ hD), fun b e => (Grow.new hD).dom b e, Nat.le_refl _, fun _ _ => rfl, rfl, rfl⟩
    have subD : ∀ {o}, EnSub en (en.add D o) := ⟨rfl, rfl, rfl, fun _ h => .inl h, fun p hp => ⟨List.mem_cons_of_mem _ hp, st1.pex p hp⟩, fun _ h => h⟩
    refine ⟨fun i m H => i + m = xs.length ∧ ∃ al s acc us, Sm K mg (en.add D (.lst us)) al s σ H ∧ RlL (rc K mg (en.add D (.lst us)) B al s σ) H acc us ∧ Mo (rc K mg en B al1 s1 σ) H1 (rc K mg (en.add D (.lst us)) B al s σ) H ∧ noOwn vs s = true ∧ compL B vs t tc me (xs.drop i) acc s = .ok accf sf,
      ⟨xs.length, by omega, al1, s1, [], [], st1.add (Grow.new hD) hD upd_same rfl, rfl, inv0, hno, ef⟩, fun i m H ⟨him, al, s, acc, us, st, rl, inv, hn, eq⟩ => ?_⟩
    have hDH : H D = some (.lst us) := (st.pin _ List.mem_cons_self).2
    obtain ⟨hstop, hgo⟩ := ok.turn (rc K mg (en.add D (.lst us)) B al s σ) H rfl (fun p hp => (ok.now p hp).mo inv) i
    cases hd : xs[i]? with
    | none =>
      have hi : i = xs.length := by
        have := List.getElem?_eq_none_iff.mp hd
        omega
      refine .inl ⟨hstop hi, ?_⟩
      rw [hi, List.drop_length] at eq
      unfold compL at eq
      cases eq
      refine hw al H (st.sub subD) (inv.trans (mo_sub subD)) (.ref D) ⟨D, .lst us, rfl, mo1.dom D hD, hDH, st.nadd exD, ⟨us, hDH, rl.mo (mo_sub subD)⟩, st⟩
    | some d =>
      obtain ⟨g1, g2⟩ := hgo d hd
      have hil : i < xs.length := (List.getElem?_eq_some_iff.mp hd).1
      have hdr : xs.drop i = d :: xs.drop (i + 1) := by
        rw [List.drop_eq_getElem_cons hil]
        congr 1
        exact (List.getElem?_eq_some_iff.mp hd).2
      rw [hdr] at eq
      unfold compL at eq
      refine .inr ⟨g1, fun H' => ∃ al s acc us, Sm K mg (en.add D (.lst us)) al s σ H' ∧ RlL (rc K mg (en.add D (.lst us)) B al s σ) H' acc us ∧ Mo (rc K mg en B al1 s1 σ) H1 (rc K mg (en.add D (.lst us)) B al s σ) H' ∧ noOwn vs s = true ∧ compL B vs t tc me (xs.drop (i + 1)) acc s = .ok accf sf,
        fun H' q => ⟨m - 1, by omega, by omega, q⟩, fun x H3 hy => ?_⟩
      obtain ⟨gr, rx⟩ := g2 x H3 hy
      split at eq
      · cases eq
      rename_i s2 e2
      have stw : Sm K mg (en.add D (.lst us)) al ⟨wipeV vs s.v, s.h⟩ (L2.wipe σ vs) H3 := (st.grow gr).wipe vs
      -- the wiped state knows less
      have mow : Mo (rc K mg (en.add D (.lst us)) B al s σ) H3 (rc K mg (en.add D (.lst us)) B al ⟨wipeV vs s.v, s.h⟩ (L2.wipe σ vs)) H3 := by
        refine ⟨fun _ _ h _ => h, fun a _ h z => h ?_, fun _ h => h, Nat.le_refl _, fun _ _ => rfl, rfl, rfl⟩
        rcases z with z | ⟨j, c, hj, h1, h2⟩ | z
        · exact .inl z
        · obtain ⟨h3, h4⟩ := wipeV_get h1 (fun z => nomatch z)
          rw [wipeS_get h3] at h2
          exact .inr (.inl ⟨j, c, hj, h4, h2⟩)
        · exact .inr (.inr z)
      refine gOf_ok (B := B) stw (rx.mo mow) e2 fun σ2 w2 st2 => ?_
      have w : L2.wipe σ2 vs = L2.wipe σ vs := (w2 vs hv).trans (wipe_wipe σ vs)
      refine ⟨w, ?_⟩
      have hh2 : s2.h = s.h := storeT_h (s := ⟨wipeV vs s.v, s.h⟩) e2
      have mos : Mo (rc K mg (en.add D (.lst us)) B al ⟨wipeV vs s.v, s.h⟩ (L2.wipe σ vs)) H3 (rc K mg (en.add D (.lst us)) B al s2 σ2) H3 := by
        refine ⟨fun _ _ h _ => h, fun a _ h z => h ?_, fun _ h => h, by show s.h.length ≤ s2.h.length; rw [hh2]; exact Nat.le_refl _, fun _ _ => rfl, rfl, rfl⟩
        rcases z with ⟨n, hn, z⟩ | ⟨j, c, hj, h1, h2⟩ | z
        · exact .inl ⟨n, hh2 ▸ hn, z⟩
        · have h3 := storeT_own e2 h1
          obtain ⟨h4, _⟩ := wipeV_get h3 (fun z => nomatch z)
          refine .inr (.inl ⟨j, c, hj, h3, ?_⟩)
          rw [wipeS_get h4, ← wipeS_get (σ := σ) h4, ← w, wipeS_get h4]
          exact h2
        · exact .inr (.inr z)
      have mo2 : Mo (rc K mg (en.add D (.lst us)) B al s σ) H (rc K mg (en.add D (.lst us)) B al s2 σ2) H3 := (gr.mo.trans mow).trans mos
      refine ⟨en.add D (.lst us), al, s2, st2, ?_⟩
      revert eq
      cases tc s2 with
      | bad => exact fun eq => nomatch eq
      | ex _ _ => exact fun eq => nomatch eq
      | ok k s3 =>
        intro eq al3 H4 st3 mo3
        simp only [noEx, R.bind] at eq
        have back : ∀ (al4 : Nat → Addr) (s4 : S) (H5 : Hp), Sm K mg (en.add D (.lst us)) al4 s4 σ2 H5 → Mo (rc K mg (en.add D (.lst us)) B al s2 σ2) H3 (rc K mg (en.add D (.lst us)) B al4 s4 σ2) H5 →
            Sm K mg (en.add D (.lst us)) al4 ⟨restV vs s.v s4.v, s4.h⟩ σ H5 ∧ Mo (rc K mg (en.add D (.lst us)) B al s σ) H (rc K mg (en.add D (.lst us)) B al4 ⟨restV vs s.v s4.v, s4.h⟩ σ) H5 := by
          intro al4 s4 H5 st5 mo5
          have mo6 := (mo2.trans mo5).trans (mo_rest (v0 := s.v) w)
          exact ⟨st.rest st5 w ⟨mo6.fo.keep, mo6.k, mo6.al, rfl, rfl⟩, mo6⟩
        cases k with
        | false =>
          dsimp only
          rw [if_neg Bool.false_ne_true] at eq ⊢
          obtain ⟨st7, mo7⟩ := back al3 s3 H4 st3 mo3
          exact ⟨al3, _, acc, us, st7, rl.mo mo7, inv.trans mo7, noOwn_rest, eq⟩
        | true =>
          dsimp only
          rw [if_pos rfl] at eq ⊢
          refine ⟨en.add D (.lst us), al3, s3, st3, ?_⟩
          revert eq
          cases me s3 with
          | bad => exact fun eq => nomatch eq
          | ex _ _ => exact fun eq => nomatch eq
          | ok u s4 =>
            intro eq al4 H5 st4 mo4 y ey
            simp only [noEx, R.bind] at eq
            split at eq
            case isFalse => cases eq
            case isTrue hlen =>
            obtain ⟨st7, mo7⟩ := back al4 s4 H5 st4 (mo3.trans mo4)
            have hD5 : H5 D = some (.lst us) := (st4.pin _ List.mem_cons_self).2
            have rl5 : RlL (rc K mg (en.add D (.lst us)) B al4 ⟨restV vs s.v s4.v, s4.h⟩ σ) H5 (acc ++ [u.toD]) (us ++ [y]) := (rl.mo mo7).append ⟨y, [], rfl, ey.toD.mo (mo_rest w), rfl⟩
            refine ⟨us, hD5, by rw [← rl.length]; exact maxL_lt hlen, al4, _, acc ++ [u.toD], us ++ [y], st7.grown pinD enD, rl5.mo (mo_grown hD5), (inv.trans mo7).trans (mo_grown hD5), noOwn_rest, eq⟩
end
section
variable {X : Cx} {W : WX} {B : List Nat} {elt tg iter : Expr} {ifs : List Expr} {scope : Scope} {own : List (Str × Nat)} {t : Tg} {mi : S → R (List MP.D)} {tc : S → R Bool} {me : S → R Er} {pos : Pos}
theorem pts_ex {m : S → R Bool} (h : MTs X (fun _ _ _ _ => False) B ifs m) : PTs X ifs (TTa X.K X.mg B m) := ⟨fun pins s σ H Q I ⟨en, q⟩ => (h.run en).run pins s σ H Q I q⟩
theorem pe_exa {m : S → R Er} {e : Expr} (h : ME X (fun _ _ _ _ => False) B e m) : PE X e (TEa X.K X.mg B m) := ⟨fun pins s σ H Q I ⟨en, q⟩ => (h.run en).run pins s σ H Q I q⟩
theorem me_comp (hc : X.calm = true) (hN : X.N.Nodup) (hi : MI X W B tg iter mi) (ok : BlkOk X.N X.env.scope scope own) (hv : ∀ i ∈ t.all, i ∈ own.map (·.2))
    (hg : ∀ (s : Shared) (H : Hp) (C : Addr) (cl : List (Str × Addr)) (fp : List Addr), MG (X.blk s H scope (compEnvC scope cl C X.env) fp) tg t)
    (ht : ∀ (s : Shared) (H : Hp) (C : Addr) (cl : List (Str × Addr)) (fp : List Addr), MTs (X.blk s H scope (compEnvC scope cl C X.env) fp) (fun _ _ _ _ => False) B ifs tc)
    (he : ∀ (s : Shared) (H : Hp) (C : Addr) (cl : List (Str × Addr)) (fp : List Addr), ME (X.blk s H scope (compEnvC scope cl C X.env) fp) (fun _ _ _ _ => False) B elt me) (hs : ∀ x, foldedSetIterable iter X.env x = pure x := by intro _; rfl) :
    ME X W B (.ListComp elt [⟨tg, iter, ifs, 0⟩] scope pos) (eComp B (own.map (·.2)) mi t tc me) :=
  ⟨fun en => pe_imp (pe_lc hc hN (hi.run en) ok (fun s H C cl fp => (hg s H C cl fp).run) (fun s H C cl fp => pts_ex (ht s H C cl fp)) (fun s H C cl fp => pe_exa (he s H C cl fp)) hs) fun σ H Q h => t_comp hv h⟩
/-- y = [..] on one line -/
theorem lc_run {i : Nat} {y : Str} {py spos : Pos} (hc : X.calm = true) (hN : X.N.Nodup) (hy : X.N[i]? = some y) (hyl : X.env.scope.names.lookup y = some .local)
    (hsw : swapsWith (.ListComp elt [⟨tg, iter, ifs, 0⟩] scope pos) (some (.Name y py)) spos.line X.env = pure true) (hi : MI X W B tg iter mi) (ok : BlkOk X.N X.env.scope scope own) (hv : ∀ i ∈ t.all, i ∈ own.map (·.2))
    (hg : ∀ (s : Shared) (H : Hp) (C : Addr) (cl : List (Str × Addr)) (fp : List Addr), MG (X.blk s H scope (compEnvC scope cl C X.env) fp) tg t)
    (ht : ∀ (s : Shared) (H : Hp) (C : Addr) (cl : List (Str × Addr)) (fp : List Addr), MTs (X.blk s H scope (compEnvC scope cl C X.env) fp) (fun _ _ _ _ => False) B ifs tc)
    (he : ∀ (s : Shared) (H : Hp) (C : Addr) (cl : List (Str × Addr)) (fp : List Addr), ME (X.blk s H scope (compEnvC scope cl C X.env) fp) (fun _ _ _ _ => False) B elt me) (hs : ∀ x, foldedSetIterable iter X.env x = pure x := by intro _; rfl) (en : En) :
    PS X (.Assign [.Name y py] (.ListComp elt [⟨tg, iter, ifs, 0⟩] scope pos) spos) (tAsg (TEm X.K X.mg W en B (eComp B (own.map (·.2)) mi t tc me)) (gName i)) :=
  ps_imp (ps_setLc hc hN hy hyl hsw (hi.run en) ok (fun s H C cl fp => (hg s H C cl fp).run) (fun s H C cl fp => pts_ex (ht s H C cl fp)) (fun s H C cl fp => pe_exa (he s H C cl fp)) hs) fun D σ H h => t_comp hv h
end
/-! a def's body keeps its function -/
def runF (n : Nat) (m : S → R Fl) : F := fun ds h => match m ⟨ds.map SD.val ++ List.replicate (n - ds.length) SD.no, h⟩ with
  | .ok (.rt r) s' => .ok r s'.h
  | .ok .nx s' => .ok (.val .non) s'.h
  | .ok _ _ => .bad
  | .ex e s' => .ex e s'.h
  | .bad => .bad
end MP

namespace MP
open PySem PySem.Spec PyProof.Rows L2
/-! a def by its body; the row's end -/
section
variable {P : Program} {w : World} {K : PySem.W.Frag} {mg : Str → Option Value} {base : Heap}
theorem Sm.entry {ex : Addr → Prop} {al : Nat → Addr} {ds : List D} {h : List Con} {H : Hp} {vs : List V} (rh : Rh K mg ex al h H) (r : RlL (rcF K mg ex al h) H ds vs) (N : List Str) :
    Sm K mg ⟨al, h.length, H, ex, [], []⟩ al ⟨ds.map SD.val ++ List.replicate (N.length - ds.length) SD.no, h⟩ (L2.start N vs) H := by
  have el : ds.length = vs.length := r.length
  have noown : ∀ (i : Nat) (c : Con), (ds.map SD.val ++ List.replicate (N.length - ds.length) SD.no)[i]? ≠ some (.own c) := by
    intro i c q
    have := List.mem_of_getElem? q
    rcases List.mem_append.mp this with h | h
    · obtain ⟨d, _, e⟩ := List.mem_map.mp h; cases e
    · exact absurd (List.eq_of_mem_replicate h) (fun z => nomatch z)
  have avq : ∀ a, av ⟨al, h.length, H, ex, [], []⟩ [] al ⟨ds.map SD.val ++ List.replicate (N.length - ds.length) SD.no, h⟩ (L2.start N vs) a → (rcF K mg ex al h).av a := by
    rintro a (z | ⟨i, c, _, q, _⟩ | z)
    · exact .inl z
    · exact (noown i c q).elim
    · exact .inr z
  have mo : Mo (rcF K mg ex al h) H (rc K mg ⟨al, h.length, H, ex, [], []⟩ [] al ⟨ds.map SD.val ++ List.replicate (N.length - ds.length) SD.no, h⟩ (L2.start N vs)) H :=
    ⟨fun _ _ h _ => h, fun a _ h z => h (avq a z), fun _ h => h, Nat.le_refl _, fun _ _ => rfl, rfl, rfl⟩
  refine ⟨?_, fun n c e => ⟨(rh.cell n c e).1, (rh.cell n c e).2.mo mo fun _ q => q⟩, rh.inj, fun i d q => ?_, fun i c q => (noown i c q).elim, fun i j c c' a q => (noown i c q).elim, Nat.le_refl _, fun _ _ => rfl, fun n h1 h2 => absurd h2 (Nat.not_lt_of_le h1), fun a o e _ => e, fun _ e => e, fun a x => ⟨(rh.ext a x).1, (rh.ext a x).2, fun i c q => (noown i c q).elim⟩, fun _ z => (nomatch z), fun _ z => (nomatch z)⟩
  · unfold L2.start
    simp only [List.length_append, List.length_map, List.length_replicate, el]
  · have hi : i < ds.length := by
      apply Classical.byContradiction
      intro hi
      rw [List.getElem?_append_right (by rw [List.length_map]; omega)] at q
      have := List.mem_of_getElem? q
      exact absurd (List.eq_of_mem_replicate this) (fun z => nomatch z)
    rw [List.getElem?_append_left (by rw [List.length_map]; exact hi), List.getElem?_map] at q
    cases qd : ds[i]? with
    | none => rw [qd] at q; cases q
    | some d' =>
      rw [qd] at q; cases q
      obtain ⟨v, e, rv⟩ := (r.mo mo).get qd
      refine ⟨v, ?_, rv⟩
      unfold L2.start
      rw [List.getElem?_append_left (by rw [List.length_map]; omega), List.getElem?_map, e]; rfl
theorem Sm.exit {en : En} {al : Nat → Addr} {s : S} {σ : PSt} {H : Hp} (m : Sm K mg en al s σ H) : Rh K mg en.ex al s.h H :=
  ⟨fun n c e => ⟨(m.cell n c e).1, (m.cell n c e).2.mo mo_rcX fun _ q => q⟩, m.inj, fun a x => ⟨(m.ext a x).1, (m.ext a x).2.1⟩⟩
theorem Sm.step {ex : Addr → Prop} {al0 : Nat → Addr} {h0 : List Con} {H0 : Hp} {al : Nat → Addr} {s : S} {σ : PSt} {H : Hp} (m : Sm K mg ⟨al0, h0.length, H0, ex, [], []⟩ al s σ H) : Step al0 h0 H0 al s.h H :=
  ⟨m.ek, m.eal, m.enew, m.pres, m.dom⟩
theorem fn_mk {x qual : Str} {st : Stmt} {f : Addr} {fd : FuncData} {N ps : List Str} {k : Nat} {m : S → R Fl} (F : Fun K x qual st f fd) (S : FnScope N ps (defScope st))
    (hb : ∀ (cdv : Value) (A : Around) (outer : List Env) (s : Shared) (H : Hp) (E : XK), Room k (A.deeper (envOfC qual (defScope st) s.heap.objs.size f cdv)) →
      MB (cxOf (L2.CX P w) P w K mg base N qual (defScope st) f cdv A outer s H E) (fun c d _ H => E c d H) (defBody st) m) :
    FnOk P w K mg base (L2.CX P w) (k + 1) f fd ps (spM K mg ps.length (runF N.length m)) := by
  refine F.okX S (fun vs H Q E h => spM_len h) fun cdv A outer s H vs Q E hr h => ?_
  obtain ⟨ex, al, ds, h, rh, e, r, hw⟩ := h
  refine ⟨_, (hb cdv A outer s H E hr).run ⟨al, h.length, H, ex, [], []⟩, al, _, Sm.entry rh r N, ?_⟩
  show SWp K mg _ _ (m ⟨ds.map SD.val ++ List.replicate (N.length - ds.length) SD.no, h⟩) _
  unfold runF at hw
  revert hw
  cases m ⟨ds.map SD.val ++ List.replicate (N.length - ds.length) SD.no, h⟩ with
  | bad => exact fun hw => hw
  | ex e s1 => exact fun hw al' σ' H' c d st x => hw al' H' c d st.step st.exit (ExR.fo (E := rc K mg ⟨al, h.length, H, ex, [], []⟩ [] al' s1 σ') (H := H') ⟨fun _ _ h _ => h, Nat.le_refl _, fun _ _ => rfl, rfl, rfl⟩ x)
  | ok fl s1 => cases fl with
    | nx => exact fun hw al' σ' H' st => hw al' H' .non st.step st.exit rfl
    | bk => exact fun hw => hw.elim
    | ct => exact fun hw => hw.elim
    | rt u => exact fun hw al' σ' H' v st x => hw al' H' v st.step st.exit x
/-- a def of the text, ready -/
theorem dfn_mk {x : Str} {st : Stmt} {f : Addr} {fd : FuncData} {N ps : List Str} {k : Nat} {m : S → R Fl} (hm : mg x = some (.ref f)) (F : Fun K x x st f fd) (B : Binds K fd ps []) (S : FnScope N ps (defScope st))
    (hb : ∀ (cdv : Value) (A : Around) (outer : List Env) (s : Shared) (H : Hp) (E : XK), Room k (A.deeper (envOfC x (defScope st) s.heap.objs.size f cdv)) →
      MB (cxOf (L2.CX P w) P w K mg base N x (defScope st) f cdv A outer s H E) (fun c d _ H => E c d H) (defBody st) m) : Dfn P w K mg base x st (k + 1) ps (runF N.length m) :=
  ⟨f, fd, hm, F, fn_mk F S hb, B⟩
theorem Dfn.imp {x : Str} {st : Stmt} {k : Nat} {ps : List Str} {f g : F} (d : Dfn P w K mg base x st k ps g) (l : FLe f g) : Dfn P w K mg base x st k ps f := by
  obtain ⟨a, fd, h1, h2, h3, h4⟩ := d
  exact ⟨a, fd, h1, h2, h3.imp fun _ _ _ _ q => spM_imp l q, h4⟩
/-- what the row asks -/
theorem sp_law {f : F} {n : Nat} (h : ∀ ns : List Int, ns.length ≤ n → ∃ h', f [.fz ns] [] = .ok (.val (.bl true)) h') {H : Hp} {a : Addr} {ns : List Int} (hl : ns.length ≤ n) (hS : SqL K H a (ns.map V.int)) (hO : Only H) :
    spM K mg 1 f [.ref a] H (fun v _ => v = .bl true) fun _ _ _ => False := by
  obtain ⟨h', e⟩ := h ns hl
  refine ⟨fun _ => False, fun _ => 0, [.fz ns], [], ⟨fun n c e => (nomatch e), fun n m h => absurd h (Nat.not_lt_zero _), fun a x => False.elim x⟩, rfl, ⟨.ref a, [], rfl, ?_, rfl⟩, ?_⟩
  · show ∃ b, V.ref a = V.ref b ∧ _
    refine ⟨a, rfl, ?_⟩
    rcases hS with (hS | ⟨o, hS⟩) | hS
    · rcases hO a with e | ⟨o, xs, e⟩ <;> rw [e] at hS <;> cases hS
    · exact .inl ⟨o, hS⟩
    · exact .inr hS
  · rw [e]
    exact fun al' H' v _ _ q => q
end
end MP

namespace MP
open PySem PySem.Spec PyProof.Rows L2
/-! a flat value, found while a slot's own thing is read -/
def isOwn : SD → Bool
  | .own _ => true
  | _ => false
/-- nothing is a slot's own that was not -/
def sameOwn : List SD → List SD → Bool
  | [], _ => true
  | a :: r, v => (!isOwn a || isOwn (v.headD .no)) && sameOwn r v.tail
theorem sameOwn_at : ∀ {v1 v : List SD} {i : Nat} {c : Con}, sameOwn v1 v = true → v1[i]? = some (.own c) → ∃ c', v[i]? = some (.own c')
  | [], v, i, c, _, h => by cases h
  | a :: r, v, 0, c, e, h => by
    cases h
    simp only [sameOwn, Bool.and_eq_true] at e
    cases v with
    | nil => cases e.1
    | cons b v => cases b with
      | own c' => exact ⟨c', rfl⟩
      | no => cases e.1
      | val d => cases e.1
  | a :: r, v, i + 1, c, e, h => by
    simp only [sameOwn, Bool.and_eq_true] at e
    obtain ⟨c', h'⟩ := sameOwn_at e.2 (show r[i]? = some (.own c) from h)
    cases v with
    | nil => cases h'
    | cons b v => exact ⟨c', h'⟩
def eFlat (m : S → R Er) : S → R Er := fun s => match m s with
  | .ok (.val d) s1 => if (d.flat && sameOwn s1.v s.v) = true then .ok (.val d) s1 else .bad
  | .ok _ _ => .bad
  | .ex e s1 => .ex e s1
  | .bad => .bad
theorem me_flat {X : Cx} {W : WX} {B B' : List Nat} {e : Expr} {m : S → R Er} (h : ME X W B' e m) (hB : ∀ i ∈ B, i ∈ B') : ME X W B e (eFlat m) := ⟨fun en => pe_imp (h.run en) fun σ H Q ⟨al, s, hs, hw⟩ => by
  refine ⟨al, s, hs, ?_⟩
  unfold eFlat at hw
  revert hw
  cases m s with
  | bad => exact fun hw => hw
  | ex e s1 => exact fun hw => hw
  | ok r s1 => cases r with
    | new c => exact fun hw => hw.elim
    | val d =>
      intro hw al1 H1 st1 mo1 v hv
      simp only at hw
      split at hw
      · rename_i ok
        rw [Bool.and_eq_true] at ok
        refine hw al1 H1 st1 ?_ v ((show Rl (rc X.K X.mg en B' al1 s1 σ) H1 d v from hv).fo fo_rc ok.1)
        refine ⟨fun a o q x => mo1.keep a o q (x.imp id fun x z => x (av_mono hB z)), fun a q x z => ?_, mo1.dom, mo1.k, mo1.al, rfl, rfl⟩
        have n1 := mo1.av a q fun z => x (av_mono hB z)
        rcases z with z | ⟨i, c, hi, h1, h2⟩ | z
        · exact n1 (.inl z)
        · obtain ⟨c', h'⟩ := sameOwn_at ok.2 h1
          exact x (.inr (.inl ⟨i, c', hi, h', h2⟩))
        · exact n1 (.inr (.inr z))
      · exact hw.elim⟩
/-! isinstance -/
inductive Ty where
  | non | bl | int | str | lst | tup | dct
def Ty.nm : Ty → String
  | .non => "NoneType" | .bl => "bool" | .int => "int" | .str => "str" | .lst => "list" | .tup => "tuple" | .dct => "dict"
def Ty.is : Ty → Ty → Bool
  | .non, .non => true | .bl, .bl => true | .bl, .int => true | .int, .int => true | .str, .str => true | .lst, .lst => true | .tup, .tup => true | .dct, .dct => true
  | _, _ => false
def tyD (h : List Con) : D → Option Ty
  | .non => some .non
  | .bl _ => some .bl
  | .int _ => some .int
  | .str _ => some .str
  | .lst _ => some .lst
  | .tup _ => some .tup
  | .fz _ => some .lst
  | .dct _ _ => some .dct
  | .ref n => match h[n]? with
    | some (.lst _) => some .lst
    | some (.dct _ _) => some .dct
    | _ => none
  | .glob _ => none
theorem kit_is (K : PySem.W.Frag) (a b : Ty) : PySem.W.kitOne K (.type a.nm) (.type b.nm) = some (a.is b) := by
  apply kit_ty
  cases a <;> cases b <;> decide +kernel
theorem tyD_ok {K : PySem.W.Frag} {mg : Str → Option Value} {en : En} {B : List Nat} {al : Nat → Addr} {s : S} {σ : PSt} {H : Hp} (st : Sm K mg en al s σ H) {d : D} {v : V} {t : Ty} (r : Rl (rc K mg en B al s σ) H d v) (e : tyD s.h d = some t) : TyX K H v (.type t.nm) := by
  cases d with
  | non => cases e; cases (show v = .non from r); exact .base .non
  | bl b => cases e; cases (show v = .bl b from r); exact .base (.bl b)
  | int b => cases e; cases (show v = .int b from r); exact .base (.int b)
  | str b => cases e; cases (show v = .str b from r); exact .base (.str b)
  | lst xs => cases e; obtain ⟨a, us, rfl, h1, _⟩ := r; exact .base (.lst h1)
  | tup xs => cases e; obtain ⟨a, us, rfl, h1, _⟩ := r; exact .base (.tup h1)
  | fz ns =>
    cases e
    obtain ⟨a, rfl, ⟨o, h⟩ | ⟨o, its, n, h, h2, _⟩⟩ := r
    · exact .base (.frz h)
    · exact .kList h h2
  | dct ks vs => cases e; obtain ⟨a, us, rfl, _, h1, _⟩ := r; exact .base (.dK h1)
  | ref n =>
    obtain ⟨hn, rfl⟩ := r
    dsimp only [tyD] at e
    split at e
    · rename_i xs q
      cases e
      obtain ⟨us, h1, _⟩ := (st.cell n _ q).2
      exact .base (.lst h1)
    · rename_i ks vs q
      cases e
      obtain ⟨us, _, h1, _⟩ := (st.cell n _ q).2
      exact .base (.dK h1)
    · cases e
  | glob x => cases e
def eIsi (ts : List Ty) (m : S → R Er) : S → R Er := fun s => (m s).bind fun r s1 => match tyD s1.h r.toD with
  | some t => .ok (.val (.bl (ts.any t.is))) s1
  | none => .bad
section
variable {X : Cx} {W : WX} {B : List Nat} {a : Expr} {m : S → R Er} {pos p p2 p3 pos2 : Pos} {x T T2 : Str}
theorem me_isi (t : Ty) (ha : ME X W B a m) (hg : Gl X "isinstance") (hm : X.mg "isinstance" = none) (hT : Gl X T) (hmT : X.mg T = none) (hv : bootBuiltins T = some (.type t.nm)) (hn : T ≠ "__name__" := by decide) (hd : (T == ("__debug__" : Str)) = false := by decide)
    (he : starEach [a, .Name T p2] X.env = (false, eval a X.env) :: starEach [.Name T p2] X.env := by rfl) (he2 : starEach [.Name T p2] X.env = (false, eval (.Name T p2) X.env) :: starEach [] X.env := by rfl) (hpl : (backTo pos (starEach [.Name T p2] X.env)).any (·.1) = false := by rfl) :
    ME X W B (.Call (.Name "isinstance" p) [a, .Name T p2] [] pos) (eIsi [t] m) :=
  ⟨fun en => pe_imp (pe_callB call_isi hg hm (by rfl) (pa_cons (ha.run en) (pa_cons (pe_bltn (v := .ty t.nm) hT hmT hv rfl hn hd) pa_nil he2) he) (by decide) (by decide) he hpl) fun σ H Q ⟨al, s, hs, hw⟩ => T_sub hs hw fun r1 s1 al1 H1 x st1 mo1 e1 hw1 => by
    split at hw1
    · rename_i t' q
      refine ⟨x, .ty t.nm, _, _, t'.is t, rfl, .ty _, tyD_ok st1 e1.toD q, kit_is _ _ _, ?_⟩
      have := hw1 al1 H1 st1 (Mo.refl _ _) (.bl (t'.is t))
      simp only [List.any_cons, List.any_nil, Bool.or_false] at this
      exact this rfl
    · exact hw1.elim⟩
theorem me_isi2 (t t2 : Ty) {x1} (ha : ME X W B a m) (hg : Gl X "isinstance") (hm : X.mg "isinstance" = none) (hT : Gl X T) (hmT : X.mg T = none) (hv : bootBuiltins T = some (.type t.nm)) (hT2 : Gl X T2) (hmT2 : X.mg T2 = none) (hv2 : bootBuiltins T2 = some (.type t2.nm))
    (hn : T ≠ "__name__" := by decide) (hd : (T == ("__debug__" : Str)) = false := by decide) (hn2 : T2 ≠ "__name__" := by decide) (hd2 : (T2 == ("__debug__" : Str)) = false := by decide)
    (he : starEach [a, .Tuple [.Name T p2, .Name T2 p3] x1 pos2] X.env = (false, eval a X.env) :: starEach [.Tuple [.Name T p2, .Name T2 p3] x1 pos2] X.env := by rfl)
    (he2 : starEach [.Tuple [.Name T p2, .Name T2 p3] x1 pos2] X.env = (false, eval (.Tuple [.Name T p2, .Name T2 p3] x1 pos2) X.env) :: starEach [] X.env := by rfl) (hpl : (backTo pos (starEach [.Tuple [.Name T p2, .Name T2 p3] x1 pos2] X.env)).any (·.1) = false := by rfl) :
    ME X W B (.Call (.Name "isinstance" p) [a, .Tuple [.Name T p2, .Name T2 p3] x1 pos2] [] pos) (eIsi [t, t2] m) :=
  ⟨fun en => pe_imp (pe_callB call_isiT hg hm (by rfl) (pa_cons (ha.run en) (pa_cons (pe_tup (pa_cons (pe_bltn (v := .ty t.nm) hT hmT hv rfl hn hd) (pa_cons (pe_bltn (v := .ty t2.nm) hT2 hmT2 hv2 rfl hn2 hd2) pa_nil))) pa_nil he2) he) (by decide) (by decide) he hpl) fun σ H Q ⟨al, s, hs, hw⟩ => T_sub hs hw fun r1 s1 al1 H1 x st1 mo1 e1 hw1 => by
    split at hw1
    · rename_i t' q
      refine ⟨(show 2 ≤ sizeLine by decide), fun p hp => ?_⟩
      have g : Grow H1 (upd H1 p (.tup [.ty t.nm, .ty t2.nm])) := Grow.new hp
      refine ⟨x, p, [.ty t.nm, .ty t2.nm], .type t'.nm, [.type t.nm, .type t2.nm], [t, t2].any t'.is, rfl, upd_same, .cons (.ty _) (.cons (.ty _) .nil), tyD_ok (st1.grow g) (e1.toD.mo g.mo) q, ?_, ?_⟩
      · simp only [List.any_cons, List.any_nil, Bool.or_false]
        refine kitAny_cons (kit_is _ _ _) (fun z => ?_) fun z => by rw [z]; rfl
        rw [z, Bool.false_or]
        exact kitAny_cons (kit_is _ _ _) (fun z => by rw [z]; rfl) fun z => z
      · exact hw1 al1 _ (st1.grow g) g.mo (.bl ([t, t2].any t'.is)) rfl
    · exact hw1.elim⟩
/-! a display of two texts, at once read -/
def eSel (k1 k2 : Str) (d1 d2 : D) (m : S → R Er) : S → R Er := fun s => (m s).bind fun r s1 => match r.toD with
  | .str z => if z = k1 then .ok (.val d1) s1 else if z = k2 then .ok (.val d2) s1 else .bad
  | _ => .bad
theorem me_sel {k1 k2 : Str} {d1 d2 : D} {u1 u2 : V} {v1 v2 : Expr} {c1 c2 : Nat} {q1 q2 q3 : Pos} (hne : k1 ≠ k2) (hu : X.A.units + 1 < cLine) (h1 : PE X v1 (tC u1)) (h2 : PE X v2 (tC u2)) (r1 : ∀ E H, Rl E H d1 u1) (r2 : ∀ E H, Rl E H d2 u2) (ha : ME X W B a m) (hs : NoSl a := by intro _ _; rfl) :
    ME X W B (.Subscript (.Dict [some (.Constant (.str k1) c1 q1), some (.Constant (.str k2) c2 q2)] [v1, v2] q3) a pos) (eSel k1 k2 d1 d2 m) :=
  ⟨fun en => pe_imp (pe_dget hu (pe_disp (pps_cons (pe_str (x := k1)) h1 (pps_cons (pe_str (x := k2)) h2 pps_nil)) rfl rfl (by simp) (show 2 ≤ 15 by decide)) (pe_ex ha) hs) fun σ H Q ⟨al, s, hst, hw⟩ => by
    intro p hp
    refine ⟨upd_same, [(.inr k1, u1), (.inr k2, u2)], rfl, (show 2 ≤ 15 by decide), ?_⟩
    have g : Grow H (upd (upd H p (.dK [])) p (.dK (mergeK [] [(.inr k1, u1), (.inr k2, u2)]))) := fun b o e => by
      have nb : b ≠ p := ne_of_none e hp
      rw [upd_ne nb, upd_ne nb]; exact e
    have hs2 := hst.add g hp upd_same rfl
    have sub : EnSub en (en.add p (.dK (mergeK [] [(.inr k1, u1), (.inr k2, u2)]))) := ⟨rfl, rfl, rfl, fun _ h => .inl h, fun q hq => ⟨List.mem_cons_of_mem _ hq, hst.pex q hq⟩, fun _ h => h⟩
    have inv0 : Mo (rc X.K X.mg en B al s σ) H (rc X.K X.mg (en.add p (.dK (mergeK [] [(.inr k1, u1), (.inr k2, u2)]))) B al s σ) (upd (upd H p (.dK [])) p (.dK (mergeK [] [(.inr k1, u1), (.inr k2, u2)]))) :=
      ⟨fun b u e _ => g b u e, fun b e x y => (av_add y).elim x fun z => e (z ▸ hp), fun b e => g.dom b e, Nat.le_refl _, fun _ _ => rfl, rfl, rfl⟩
    refine ⟨_, al, s, hs2, ?_⟩
    unfold eSel at hw
    revert hw
    cases m s with
    | bad => exact fun hw => hw
    | ex e s1 => exact fun hw al' H' c d st2 x => hw al' H' c d (st2.sub sub) (x.fo (fo_en (en1 := en.add p _) (en2 := en) (B := []) (B' := []) (s2 := s1) (τ := σ) (Nat.le_refl _)))
    | ok r s1 =>
      intro hw al1 H1 st1 mo1 v hv
      have e1 := hv.toD
      simp only [R.bind] at hw
      have fin : ∀ d, (∀ al' H', Sm X.K X.mg (en.add p (.dK (mergeK [] [(.inr k1, u1), (.inr k2, u2)]))) al' s1 σ H' → True) → (Wp X.K X.mg W en B al s σ H (R.ok (Er.val d) s1) (fun r s' al' H' => ∀ v, ErN X.K X.mg en B al' s' σ H H' r v → Q v H')) → ∀ v, Rl (rc X.K X.mg en B al1 s1 σ) H1 d v → Q v H1 := fun d _ hw v rv =>
        hw al1 H1 (st1.sub sub) ((inv0.trans mo1).trans (mo_sub sub)) v rv
      have hpin : H1 p = some (.dK (mergeK [] [(.inr k1, u1), (.inr k2, u2)])) := (st1.pin _ List.mem_cons_self).2
      have get : ∀ z : Str, valV (mergeK [] [(.inr k1, u1), (.inr k2, u2)]) (.inr z : Key) = if z = k2 then some u2 else if z = k1 then some u1 else none := fun z => by
        show valV (putK (putK [] (.inr k1 : Key) u1) (.inr k2) u2) _ = _
        rw [valV_put, valV_put]
        simp only [Sum.inr.injEq]
        rfl
      revert hw e1
      generalize r.toD = dd
      cases dd with
      | str z =>
        intro hw e1
        have e1 : v = .str z := e1
        subst e1
        by_cases h1 : z = k1
        · simp only [if_pos h1] at hw
          refine ⟨p, u1, rfl, ?_, fin d1 (fun _ _ _ => trivial) hw u1 (r1 _ _)⟩
          have := DGet.k (k := .inr z) hpin
          rw [get, if_neg (by rw [h1]; exact hne), if_pos h1] at this
          exact this
        · simp only [if_neg h1] at hw
          by_cases h2 : z = k2
          · simp only [if_pos h2] at hw
            refine ⟨p, u2, rfl, ?_, fin d2 (fun _ _ _ => trivial) hw u2 (r2 _ _)⟩
            have := DGet.k (k := .inr z) hpin
            rw [get, if_pos h2] at this
            exact this
          · simp only [if_neg h2] at hw
            exact hw.elim
      | _ => exact fun hw _ => hw.elim⟩
end
end MP

namespace MP
open PySem PySem.Spec PyProof.Rows L2
theorem fm_congr {α β : Type} {f g : α → Option β} : ∀ {l : List α}, (∀ x ∈ l, f x = g x) → l.filterMap f = l.filterMap g
  | [], _ => rfl
  | a :: l, h => by
    rw [List.filterMap_cons, List.filterMap_cons, h a List.mem_cons_self, fm_congr fun x hx => h x (List.mem_cons_of_mem _ hx)]
theorem fm_all {α : Type} : ∀ (zs : List α), (List.range zs.length).filterMap (fun m => zs[m]?) = zs
  | [] => rfl
  | z :: zs => by
    rw [List.length_cons, List.range_succ_eq_map, List.filterMap_cons]
    simp only [List.getElem?_cons_zero, List.filterMap_map]
    congr 1
    exact fm_all zs
section
variable {prog : Program} {w : World} {A : Around} {E : Value → Shared → Prop} {s : Shared}
theorem adj_rev (n : Nat) : Builtin.Slice.sliceAdjust none none (-1) (n : Int) = ((n : Int) - 1, -1) := by
  unfold Builtin.Slice.sliceAdjust
  simp
theorem places_rev (n : Nat) : Builtin.Slice.slicePlaces ((n : Int) - 1) (-1) (-1) = n := by
  unfold Builtin.Slice.slicePlaces
  simp
  omega
theorem pick_rev (xs : Array Value) : ((List.range xs.size).filterMap fun (m : Nat) => xs[(((xs.size : Int) - 1) + (m : Int) * (-1)).toNat]?).toArray = xs.toList.reverse.toArray := by
  congr 1
  rw [fm_congr (g := fun m => xs.toList.reverse[m]?) fun m hm => ?_]
  · have := fm_all xs.toList.reverse
    rwa [List.length_reverse, Array.length_toList] at this
  · rw [List.mem_range] at hm
    rw [List.getElem?_reverse (by rw [Array.length_toList]; exact hm), Array.length_toList, Array.getElem?_toList]
    congr 1
    omega
theorem applied_rev {sl : Addr} {vs : Value} {n : Nat} {Q : Int × Int × Nat → Shared → Prop} (hs : s.heap.IsSliceOf sl .none .none vs) (ps : IsPart vs (some (-1)))
    (h : Q ((n : Int) - 1, -1, n) s) : wpAny (model prog w) A (Builtin.Slice.sliceApplied (.ref sl) (pure (n : Int))) Q E s := by
  obtain ⟨os, hos, hcs, hds⟩ := id hs
  unfold Builtin.Slice.sliceApplied Builtin.Slice.sliceFields
  refine wpAny_bind (wpAny_bind (wpAny_field hos hds (x := .none) rfl (wpAny_bind (wpAny_field hos hds (x := .none) rfl (wpAny_bind (wpAny_field hos hds (x := vs) rfl (wpAny_pure ?_)))))))
  refine wpAny_bind (HT.slicePart_ ps ?_)
  show wpAny _ _ (if ((-1 : Int) == 0) = true then _ else _) _ _ s
  rw [if_neg (by decide)]
  refine wpAny_bind (slicePart_none (wpAny_bind (slicePart_none (wpAny_bind (wpAny_pure ?_)))))
  show wpAny _ _ (match Builtin.Slice.sliceAdjust none none (-1) (n : Int) with | (lo, hi) => pure (lo, (-1 : Int), Builtin.Slice.slicePlaces lo hi (-1))) _ _ s
  rw [adj_rev n]
  show wpAny _ _ (pure ((n : Int) - 1, (-1 : Int), Builtin.Slice.slicePlaces ((n : Int) - 1) (-1) (-1))) _ _ s
  rw [places_rev]
  exact wpAny_pure h
theorem getItem_tuple_rev {t sl : Addr} {items : Array Value} {vs : Value} {Q : Value → Shared → Prop} (ht : IsTup s.heap t items) (hs : s.heap.IsSliceOf sl .none .none vs) (ps : IsPart vs (some (-1)))
    (h : Q (.ref s.heap.objs.size) { s with heap := s.heap.push { cls := .type "tuple", data := .seq items.toList.reverse.toArray } })
    (hsz : items.size ≤ sizeLine) : wpAny (model prog w) A (getItem (.ref t) (.ref sl)) Q E s := by
  have htake : sizeOk (.seq items.toList.reverse.toArray) := by
    show items.toList.reverse.toArray.size ≤ sizeLine
    rw [List.size_toArray, List.length_reverse, Array.length_toList]
    exact hsz
  obtain ⟨os, hos, hcs, hds⟩ := id hs
  have hTs : s.TypeIs (.ref sl) "slice" := ⟨os, hos, hcs⟩
  unfold getItem
  try with_reducible refine wpAny_holding ?_
  first | refine wpAny_bind (wpAny_pure ?_) | skip
  refine wpAny_bind (wpAny_sequenceKey ht.typeIs (by decide) ?_)
  refine wpAny_bind (wpAny_callSpecial?_slot (name := Str.ofString "__getitem__") ht.typeIs PyProof.Rows.slot_tuple_getitem
    (wpAny_call_entry PyProof.Rows.slot_tuple_getitem ht.typeIs entry_tuple_getitem ?_ (args_tuple_getitem _ _)))
  show wpAny _ _ (Builtin.Tuple.tupleItemsOf (.ref t) >>= _) _ _ s
  refine wpAny_bind (tupleItemsOf_ ht ?_)
  refine wpAny_bind (wpAny_typeOf hTs ?_)
  rw [if_pos (by decide)]
  refine wpAny_bind (applied_rev (n := items.size) hs ps ?_)
  have hno : ¬ ((((items.size : Int) - 1) == 0 && (-1 : Int) == 1 && items.size == items.size) = true) := by simp
  show wpAny _ _ (if ((((items.size : Int) - 1) == 0 && (-1 : Int) == 1 && items.size == items.size) = true) then _ else _) _ _ s
  rw [if_neg hno, pick_rev]
  first
    | exact wpAny_bind (m := Builtin.Tuple.tupleExact _) (wpAny_newObj_type (wpAny_pure ⟨_, rfl, wpAny_pure h⟩) htake)
    | exact wpAny_bind (m := Builtin.Tuple.tupleExact _) (wpAny_newObj_type (wpAny_bind (wpAny_pure (wpAny_pure ⟨_, rfl, wpAny_pure h⟩))) htake)
    | exact wpAny_bind (wpAny_bind (m := Builtin.Tuple.tupleExact _) (wpAny_newObj_type (wpAny_pure (wpAny_pure ⟨_, rfl, wpAny_pure h⟩)) htake))
    | exact wpAny_bind (wpAny_bind (m := Builtin.Tuple.tupleExact _) (wpAny_newObj_type (wpAny_pure ⟨_, rfl, wpAny_pure h⟩) htake))
end
section
variable {X : Cx}
def tRevA (K : PySem.W.Frag) (te : TE) : TE := fun σ H Q => te σ H fun x H1 => (∃ a xs, x = .ref a ∧ SqL K H1 a xs ∧ ∀ p, H1 p = none → Q (.ref p) (upd H1 p (.lst xs.reverse))) ∨ ∃ a xs, x = .ref a ∧ SqT K H1 a xs ∧ ∀ p, H1 p = none → Q (.ref p) (upd H1 p (.tup xs.reverse))
theorem pe_revA {e : Expr} {te : TE} {k : Nat} {p1 p2 p3 pos : Pos} (he : PE X e te) : PE X (.Subscript e (.Slice none none (some (.UnaryOp .USub (.Constant (.int 1) k p1) p2)) p3) pos) (tRevA X.K te) := by
  refine ⟨fun pins s σ H Q I h => ?_⟩
  refine Subscript_ (thn (he.run pins s σ H _ I h) fun v s1 ⟨x, H1, I1, r1, q1⟩ => ?_)
  have hst : PO X (some (.UnaryOp .USub (.Constant (.int 1) k p1) p2)) (tPart (tUn (rU fun i => .int (-i)) (tC (.int 1)))) := po_some (pe_un un_neg pe_int)
  refine wpAny_Slice (thn (po_none.run pins s1 σ H1 (fun o H2 => o = none ∧ H2 = H1) I1 ⟨rfl, rfl⟩) fun vl s2 ⟨l, H2, I2, pl, el, e2⟩ => ?_)
  subst el e2
  refine thn (po_none.run pins s2 σ H2 (fun o H3 => o = none ∧ H3 = H2) I2 ⟨rfl, rfl⟩) fun vu s3 ⟨u, H3, I3, pu, eu, e3⟩ => ?_
  subst eu e3
  refine thn (hst.run pins s3 σ H3 (fun o H4 => o = some (-1) ∧ H4 = H3) I3 ⟨1, rfl, -1, rfl, rfl, rfl⟩) fun vs s4 ⟨o, H4, I4, ps, eo, e4⟩ => ?_
  subst eo e4
  cases pl
  cases pu
  have I5 : Inv X pins σ H4 { s4 with heap := s4.heap.push { cls := .type "slice", data := .fields #[.none, .none, vs] } } := I4.kept (t' := s4.toks) fun b ob q => Heap.get?_push_of_some _ q
  rcases q1 with ⟨a, xs, ex, hx, q⟩ | ⟨a, xs, ex, hx, q⟩
  · subst ex
    cases r1
    obtain ⟨its, r, ht, hz⟩ := I5.list hx
    have hlen := r.length
    show wpAny (model X.prog X.w) X.A (subscriptTail e (.Slice none none (some (.UnaryOp .USub (.Constant (.int 1) k p1) p2)) p3) (.ref a) (.ref s4.heap.objs.size)) (EP X pins σ Q) X.xe { s4 with heap := s4.heap.push { cls := .type "slice", data := .fields #[.none, .none, vs] } }
    refine tail_any (ops := [.ref a, .ref s4.heap.objs.size]) ht.isList.typeIs (PySem.slot_list_getitem.lookup) ?_ (by with_unfolding_all rfl)
    refine wpAny_getItem_list_slice ht.isList (Heap.IsSliceOf.new _ .none .none vs) .none .none ps (by decide) ?_ (by rw [List.size_toArray]; omega)
    rw [PySem.W.krv_pick]
    refine ⟨.ref _, _, I5.laid (t' := s4.toks) (o := .lst xs.reverse) (fun b ob q => Heap.get?_push_of_some _ q) (Nat.le_refl _) ?_, rfl, q _ (I5.hok.fresh (Nat.le_refl _))⟩
    exact ⟨by rw [List.length_reverse]; exact hz, _, 0, r.reverse, Heap.get?_push_size _ rfl⟩
  · subst ex
    cases r1
    obtain ⟨its, r, ht, hz⟩ := I5.tuple hx
    have hlen := r.length
    show wpAny (model X.prog X.w) X.A (subscriptTail e (.Slice none none (some (.UnaryOp .USub (.Constant (.int 1) k p1) p2)) p3) (.ref a) (.ref s4.heap.objs.size)) (EP X pins σ Q) X.xe { s4 with heap := s4.heap.push { cls := .type "slice", data := .fields #[.none, .none, vs] } }
    refine tail_any (ops := [.ref a, .ref s4.heap.objs.size]) ht.typeIs (PyProof.Rows.slot_tuple_getitem.lookup) ?_ (by with_unfolding_all rfl)
    refine getItem_tuple_rev ht (Heap.IsSliceOf.new _ .none .none vs) ps ?_ (by rw [List.size_toArray]; omega)
    refine ⟨.ref _, _, I5.laid (t' := s4.toks) (o := .tup xs.reverse) (fun b ob q => Heap.get?_push_of_some _ q) (Nat.le_refl _) ?_, rfl, q _ (I5.hok.fresh (Nat.le_refl _))⟩
    exact ⟨by rw [List.length_reverse]; exact hz, _, r.reverse, IsTup.new _ _⟩
/-- the step -1 -/
def fRev : List Con → D → Option Er := fun h x => match x with
  | .tup xs => some (.val (.tup xs.reverse))
  | d => (asL h d).map fun xs => .new (.lst xs.reverse)
theorem RlL.rev {E : RC} {H : Hp} : ∀ {ds : List D} {vs : List V}, RlL E H ds vs → RlL E H ds.reverse vs.reverse
  | [], vs, h => by cases h; exact rfl
  | d :: ds, vs, h => by
    obtain ⟨v, r, rfl, h1, h2⟩ := h
    rw [List.reverse_cons, List.reverse_cons]
    exact (RlL.rev h2).append ⟨v, [], rfl, h1, rfl⟩
def rRevA (K : PySem.W.Frag) : V → Hp → VK → Prop := fun x H1 Q => (∃ a xs, x = .ref a ∧ SqL K H1 a xs ∧ ∀ p, H1 p = none → Q (.ref p) (upd H1 p (.lst xs.reverse))) ∨ ∃ a xs, x = .ref a ∧ SqT K H1 a xs ∧ ∀ p, H1 p = none → Q (.ref p) (upd H1 p (.tup xs.reverse))
theorem o1_rev {K : PySem.W.Frag} : Op1 K (rRevA K) fRev := by
  intro E H h eK c d x r er e Q q
  unfold fRev at e
  split at e
  · rename_i xs
    cases e
    obtain ⟨a, us, rfl, h1, h2⟩ := r
    exact .inr ⟨a, us, rfl, SqT.of h1, new_tup h2.rev q⟩
  · rw [Option.map_eq_some_iff] at e
    obtain ⟨xs, e1, rfl⟩ := e
    obtain ⟨a, us, rfl, h1, h2⟩ := asL_ok c r e1
    exact .inl ⟨a, us, rfl, SqL.of h1, new_lst c h2.rev q⟩
theorem me_rev {W : WX} {B : List Nat} {e : Expr} {m : S → R Er} {k : Nat} {p1 p2 p3 pos : Pos} (ha : ME X W B e m) : ME X W B (.Subscript e (.Slice none none (some (.UnaryOp .USub (.Constant (.int 1) k p1) p2)) p3) pos) (eOp1 fRev m) :=
  ⟨fun en => pe_imp (pe_revA (ha.run en)) fun _ _ _ h => t_op1 o1_rev h⟩
end
end MP

namespace MP
open PySem PySem.Spec PyProof.Rows L2
/-! calls with keywords: ix puts the values (by position, then by keyword) in the parameters' order -/
def permL {α : Type} (z : α) (ix : List Nat) (xs : List α) : List α := ix.map fun j => xs.getD j z
theorem RlL.perm {E : RC} {H : Hp} {ds : List D} {vs : List V} (r : RlL E H ds vs) : ∀ (ix : List Nat), RlL E H (permL .non ix ds) (permL .non ix vs)
  | [] => rfl
  | j :: ix => by
    refine ⟨vs.getD j .non, permL .non ix vs, rfl, ?_, RlL.perm r ix⟩
    dsimp only
    rw [List.getD_eq_getElem?_getD, List.getD_eq_getElem?_getD]
    cases q : ds[j]? with
    | some d =>
      obtain ⟨v, e, rv⟩ := r.get q
      rw [e]; exact rv
    | none =>
      have : vs[j]? = none := by
        rw [List.getElem?_eq_none_iff] at q ⊢
        rw [← r.length]; exact q
      rw [this]; exact rfl
theorem vals_perm {vs : List V} {us : List Value} (r : Vals vs us) : ∀ (ix : List Nat), Vals (permL .non ix vs) (permL .none ix us)
  | [] => .nil
  | j :: ix => by
    refine .cons ?_ (vals_perm r ix)
    dsimp only
    rw [List.getD_eq_getElem?_getD, List.getD_eq_getElem?_getD]
    cases q : vs[j]? with
    | some v =>
      obtain ⟨u, e, ru⟩ := r.get q
      rw [e]; exact ru
    | none =>
      have : us[j]? = none := by
        rw [List.getElem?_eq_none_iff] at q ⊢
        rw [← r.length]; exact q
      rw [this]; exact rfl
section
variable {X : Cx} {W : WX} {B : List Nat} {x : Str} {st : Stmt} {k : Nat} {ps ks : List Str} {fn : F} {a e : Expr} {es : List Expr} {kws : List Keyword} {ms mk : S → R (List D)} {ma : S → R Er} {p pos kpos : Pos} {nm : Option Str}
/-- the values of the keywords -/
structure MK (X : Cx) (W : WX) (B : List Nat) (kws : List Keyword) (m : S → R (List D)) : Prop where
  run : ∀ en, PK X kws (TAm X.K X.mg W en B m)
theorem pk_imp {t t' : TA} (h : PK X kws t) (i : ∀ σ H Q, t' σ H Q → t σ H Q) : PK X kws t' := ⟨fun pos pins s σ H Q I q => h.run pos pins s σ H Q I (i σ H Q q)⟩
theorem mk_nil : MK X W B [] eNil := ⟨fun en => pk_imp pk_nil fun σ H Q ⟨al, s, hs, hw⟩ => hw al H hs (Mo.refl _ _) [] rfl⟩
theorem mk_cons (ha : ME X W B a ma) (hr : MK X W B kws mk) : MK X W B (⟨nm, a, kpos⟩ :: kws) (eCons ma mk) :=
  ⟨fun en => pk_imp (pk_cons (ha.run en) (hr.run en)) fun σ H Q ⟨al, s, hs, hw⟩ => T_sub hs hw fun r1 s1 al1 H1 x st1 mo1 e1 hw1 => TA_sub st1 hw1 fun r2 s2 al2 H2 xs st2 mo2 e2 hw2 =>
    hw2 al2 H2 st2 (Mo.refl _ _) (x :: xs) ⟨x, xs, rfl, e1.toD.mo mo2, e2⟩⟩
def KOk (x : Str) (st : Stmt) (ps ks : List Str) (ix : List Nat) (na : Nat) : Prop := ∀ (kV doc pm : Value) (an : Option Addr) (cdv ct : Value) (us ws : List Value), us.length = na → ws.length = ks.length →
  bindArgs (PySem.W.fnOf x x (defArgs st) (defBody st) (defScope st) .none kV doc pm an cdv ct) ⟨us, ks.zip ws⟩ = pure (ps.zip (permL .none ix (us ++ ws)))
def eCallK (n na nk : Nat) (f : F) (ix : List Nat) (ms mk : S → R (List D)) : S → R Er := fun s => (ms s).bind fun ds s1 => (mk s1).bind fun zs s2 => if ds.length = na ∧ zs.length = nk then (if (permL D.non ix (ds ++ zs)).length = n then (match f (permL .non ix (ds ++ zs)) s2.h with
  | .ok r h' => .ok r ⟨s2.v, h'⟩
  | .ex e h' => .ex e ⟨s2.v, h'⟩
  | .bad => .bad) else .bad) else .bad
theorem TA_sub2 {K : PySem.W.Frag} {mg : Str → Option Value} {en : En} {al : Nat → Addr} {s : S} {σ : PSt} {H : Hp} {β : Type} {m : S → R (List D)} {f : List D → S → R β} {Kk : β → S → (Nat → Addr) → Hp → Prop} {Q : List V → Hp → Prop} (hs : Sm K mg en al s σ H) (hw : Wp K mg W en B al s σ H ((m s).bind f) Kk)
    (hk : ∀ r s1 al1 H1 v, Sm K mg en al1 s1 σ H1 → Mo (rc K mg en B al s σ) H (rc K mg en B al1 s1 σ) H1 → RlL (rc K mg en B al1 s1 σ) H1 r v → Wp K mg W en B al1 s1 σ H1 (f r s1) Kk → Q v H1) : TAm K mg W en B m σ H Q := TA_sub hs hw hk
theorem callK_fin {pins : List (Addr × Obj)} {σ : PSt} {H2 : Hp} {s2 : Shared} {en : En} {al2 : Nat → Addr} {z2 : S} {Q : VK} {f : Addr} {fd : FuncData} {us ws : List Value} {vs zs : List V} {ds gs : List D} {ix : List Nat} (hr : Room k X.A) (tk : Takes X W) (hF : Fun X.K x x st f fd) (hO : FnOk X.prog X.w X.K X.mg X.base (L2.CX X.prog X.w) k f fd ps (spM X.K X.mg ps.length fn))
    (ko : KOk x st ps ks ix ds.length) (hz : gs.length = ks.length) (I : Inv X pins σ H2 s2) (r1 : Vals vs us) (r2 : Vals zs ws) (st2 : Sm X.K X.mg en al2 z2 σ H2) (e1 : RlL (rc X.K X.mg en B al2 z2 σ) H2 ds vs) (e2 : RlL (rc X.K X.mg en B al2 z2 σ) H2 gs zs)
    (hl : (permL D.non ix (ds ++ gs)).length = ps.length)
    (hw : Wp X.K X.mg W en B al2 z2 σ H2 (match fn (permL .non ix (ds ++ gs)) z2.h with
      | .ok r h' => .ok r ⟨z2.v, h'⟩
      | .ex e h' => .ex e ⟨z2.v, h'⟩
      | .bad => .bad) fun r s' al' H' => ∀ v, ErN X.K X.mg en B al' s' σ H2 H' r v → Q v H') : wpAny (model X.prog X.w) X.A (call (.ref f) us (ks.zip ws)) (EP X pins σ Q) X.xe s2 := by
  have hul : us.length = ds.length := by rw [e1.length, r1.length]
  have hwl : ws.length = ks.length := by rw [← hz, e2.length, r2.length]
  have rp : RlL (rc X.K X.mg en B al2 z2 σ) H2 (permL .non ix (ds ++ gs)) (permL .non ix (vs ++ zs)) := (e1.append e2).perm ix
  have hv : Vals (permL .non ix (vs ++ zs)) (permL .none ix (us ++ ws)) := vals_perm (r1.append r2) ix
  have hb : BindsTo s2 fd ⟨us, ks.zip ws⟩ (ps.zip (permL .none ix (us ++ ws))) := by
    obtain ⟨oc, od, kV, doc, pm, an, cdv, ct, osl, rfl, lk, hcd⟩ := hF.ex
    exact BindsTo.of_eq (ko kV doc pm an cdv ct us ws hul hwl)
  refine wpAny_call (codeAny_mono (hO.run X.A X.stack s2 H2 ⟨us, ks.zip ws⟩ _ _ Q (WE W σ) hr I.env0 hb hv ?_) fun r s' hq => ?_)
  · refine ⟨exB en B z2 σ, al2, _, z2.h, st2.rh, hl, rp.mo rcF_mo, ?_⟩
    revert hw
    cases fn (permL .non ix (ds ++ gs)) z2.h with
    | bad => exact fun hw => hw
    | ok r h' => exact fun hw al' H' v t rh e => hw al' H' (st2.call t rh) (st2.callMo t) v (e.called st2 t rh)
    | ex e h' => exact fun hw al' H' c d t rh x => hw al' H' c d (st2.call t rh) (ExR.fo (E := rcF X.K X.mg (exB en B z2 σ) al' h') (H := H') ⟨fun _ _ h _ => h, Nat.le_refl _, fun _ _ => rfl, rfl, rfl⟩ x)
  · cases r with
    | error e => exact passAt tk σ pins H2 s2 e s' I hq
    | ok fl =>
      cases fl with
      | ret u => exact I.after hq
      | next => exact False.elim hq
      | brk => exact False.elim hq
      | cont => exact False.elim hq
/-- f(a, .., k = b, ..) -/
theorem me_callK (Dx : Dfn X.prog X.w X.K X.mg X.base x st k ps fn) (hr : Room k X.A) (tk : Takes X W) {ix : List Nat} {na : Nat} (ko : KOk x st ps ks ix na) (ha : MA X W B (a :: es) ms) (hk : MK X W B kws mk) (hg : Gl X x)
    (hall : (backToKw pos (keywordEach kws X.env)).all (·.1.isSome) = true := by rfl) (hks : (backToKw pos (keywordEach kws X.env)).filterMap (·.1) = ks := by rfl)
    (hdb : (x == ("__debug__" : Str)) = false := by decide) (he : starEach (a :: es) X.env = (false, eval a X.env) :: starEach es X.env := by rfl)
    (hpl : ((backTo pos (starEach (a :: es) X.env)).any (·.1) || (backToKw pos (keywordEach kws X.env)).any (·.1.isNone)) = false := by rfl) :
    ME X W B (.Call (.Name x p) (a :: es) kws pos) (eCallK ps.length na ks.length fn ix ms mk) := by
  obtain ⟨f, fd, hm, hF, hO, hB⟩ := Dx.ex
  refine ⟨fun en => ⟨fun pins s σ H Q I ⟨al, z, hs, hw⟩ => ?_⟩⟩
  refine wpAny_Call_Name_kw (ld_glob I hg hm ?_ hdb)
  unfold eCallK at hw
  have h1 : TAm X.K X.mg W en B ms σ H fun vs H1 => TAm X.K X.mg W en B mk σ H1 fun zs H2 => ∃ al2 z2 ds gs, Sm X.K X.mg en al2 z2 σ H2 ∧ RlL (rc X.K X.mg en B al2 z2 σ) H2 ds vs ∧ RlL (rc X.K X.mg en B al2 z2 σ) H2 gs zs ∧ (∀ b, H2 b = none → H b = none) ∧
      Wp X.K X.mg W en B al2 z2 σ H2 (if ds.length = na ∧ gs.length = ks.length then (if (permL D.non ix (ds ++ gs)).length = ps.length then (match fn (permL .non ix (ds ++ gs)) z2.h with
        | .ok r h' => .ok r ⟨z2.v, h'⟩
        | .ex e h' => .ex e ⟨z2.v, h'⟩
        | .bad => .bad) else .bad) else .bad) fun r s' al' H' => ∀ v, ErN X.K X.mg en B al' s' σ H H' r v → Q v H' := by
    refine TA_sub hs hw fun ds s1 al1 H1 vs st1 mo1 r1 hw1 => TA_sub st1 hw1 fun gs s2 al2 H2 zs st2 mo2 r2 hw2 => ⟨al2, s2, ds, gs, st2, r1.mo mo2, r2, fun b z => mo1.dom b (mo2.dom b z), hw2⟩
  refine PySem.W.callWith_KW (h₀ := X.base) I.ok.mod.kin hF.kp hall (thn ((ha.run en).run pos pins s σ H _ I h1) fun us s1 ⟨vs, H1, I1, r, q⟩ => ?_) hpl he
  refine thn ((hk.run en).run pos pins s1 σ H1 _ I1 q) fun ws s2 ⟨zs, H2, I2, rz, al2, z2, ds, gs, st2, e1, e2, dm, hw2⟩ => ⟨I2.kIn, ?_⟩
  rw [hks]
  split at hw2
  case isFalse => exact hw2.elim
  case isTrue hn =>
  split at hw2
  case isFalse => exact hw2.elim
  case isTrue hl =>
  obtain ⟨hn, hz⟩ := hn
  subst hn
  refine callK_fin (B := B) (W := W) hr tk hF hO ko hz I2 r rz st2 e1 e2 hl ?_
  revert hw2
  cases fn (permL .non ix (ds ++ gs)) z2.h with
  | bad => exact fun hw => hw
  | ex e h' => exact fun hw => hw
  | ok r h' => exact fun hw al' H' st' mo v hv => hw al' H' st' mo v (hv.back dm)
/-- f(k = b, ..) -/
theorem me_callK0 (Dx : Dfn X.prog X.w X.K X.mg X.base x st k ps fn) (hr : Room k X.A) (tk : Takes X W) {ix : List Nat} (ko : KOk x st ps ks ix 0) (hk : MK X W B kws mk) (hg : Gl X x)
    (hall : (backToKw pos (keywordEach kws X.env)).all (·.1.isSome) = true := by rfl) (hks : (backToKw pos (keywordEach kws X.env)).filterMap (·.1) = ks := by rfl)
    (hdb : (x == ("__debug__" : Str)) = false := by decide)
    (hpl : ((backTo pos (starEach [] X.env)).any (·.1) || (backToKw pos (keywordEach kws X.env)).any (·.1.isNone)) = false := by rfl) :
    ME X W B (.Call (.Name x p) [] kws pos) (eCallK ps.length 0 ks.length fn ix eNil mk) := by
  obtain ⟨f, fd, hm, hF, hO, hB⟩ := Dx.ex
  refine ⟨fun en => ⟨fun pins s σ H Q I ⟨al, z, hs, hw⟩ => ?_⟩⟩
  refine wpAny_Call_Name_kw (ld_glob I hg hm ?_ hdb)
  unfold eCallK at hw
  have h1 : TAm X.K X.mg W en B mk σ H fun zs H2 => ∃ al2 z2 ds gs, Sm X.K X.mg en al2 z2 σ H2 ∧ RlL (rc X.K X.mg en B al2 z2 σ) H2 ds [] ∧ RlL (rc X.K X.mg en B al2 z2 σ) H2 gs zs ∧ (∀ b, H2 b = none → H b = none) ∧
      Wp X.K X.mg W en B al2 z2 σ H2 (if ds.length = 0 ∧ gs.length = ks.length then (if (permL D.non ix (ds ++ gs)).length = ps.length then (match fn (permL .non ix (ds ++ gs)) z2.h with
        | .ok r h' => .ok r ⟨z2.v, h'⟩
        | .ex e h' => .ex e ⟨z2.v, h'⟩
        | .bad => .bad) else .bad) else .bad) fun r s' al' H' => ∀ v, ErN X.K X.mg en B al' s' σ H H' r v → Q v H' := by
    refine TA_sub hs (show Wp X.K X.mg W en B al z σ H ((mk z).bind _) _ from hw) fun gs s2 al2 H2 zs st2 mo2 r2 hw2 => ⟨al2, s2, [], gs, st2, rfl, r2, fun b z => mo2.dom b z, hw2⟩
  refine PySem.W.callWith_KW0 (h₀ := X.base) I.ok.mod.kin hF.kp hall ?_ hpl
  refine thn ((hk.run en).run pos pins s σ H _ I h1) fun ws s2 ⟨zs, H2, I2, rz, al2, z2, ds, gs, st2, e1, e2, dm, hw2⟩ => ⟨I2.kIn, ?_⟩
  rw [hks]
  split at hw2
  case isFalse => exact hw2.elim
  case isTrue hn =>
  split at hw2
  case isFalse => exact hw2.elim
  case isTrue hl =>
  obtain ⟨hn, hz⟩ := hn
  refine callK_fin (B := B) (W := W) (us := []) (vs := []) hr tk hF hO (hn.symm ▸ ko) hz I2 .nil rz st2 e1 e2 hl ?_
  revert hw2
  cases fn (permL .non ix (ds ++ gs)) z2.h with
  | bad => exact fun hw => hw
  | ex e h' => exact fun hw => hw
  | ok r h' => exact fun hw al' H' st' mo v hv => hw al' H' st' mo v (hv.back dm)
end
end MP

namespace MP
open PySem PySem.Spec PyProof.Rows L2
theorem hu64 {k : Nat} {A : Around} (hr : Room k A) : A.units + 64 < cLine := hr.units
theorem hu1 {k : Nat} {A : Around} (hr : Room k A) : A.units + 1 < cLine := hu_of hr
def fMul : List Con → D → D → Option Er := fun h x y => (fMulI h x y).or (fMulL h x y)
def fAugAdd : List Con → D → D → Option Er := fun h x y => (fI2 (fun i j => some (.val (.int (i + j)))) h x y).or (fAddS h x y)
section
variable {X : Cx} {W : WX} {B : List Nat} {a b e : Expr} {ma mb m : S → R Er} {pos : Pos}
theorem me_mulA (ha : ME X W B a ma) (hb : ME X W B b mb) : ME X W B (.BinOp a .Mult b pos) (eOp2 fMul ma mb) := me_mul ha hb
theorem ms_augAddA {i : Nat} {x : Str} {pos' : Pos} (h : ME X W B e m) (hN : X.N.Nodup) (hi : X.N[i]? = some x) (hx : Loc X.env.scope x)
    (hl : X.fn x = true ∨ X.env.scope.names.lookup x = some .local := by first | exact .inl rfl | exact .inr rfl | assumption) : MS X W (.AugAssign (.Name x pos') .Add e pos) (sAug fAugAdd i m) := ms_augAdd h hN hi hx hl
end
/-! try .. except -/
/-- the exceptions' classes: caught (cs) or let through (ns) by the clause of C -/
def ExT (K : PySem.W.Frag) (mg : Str → Option Value) (C : Str) (cs ns : List Str) : Prop := ∃ c, mg C = some c ∧ (∀ x ∈ cs, ∃ u, mg x = some u ∧ PySem.W.exmOne K u c = some true) ∧ ∀ x ∈ ns, ∃ u, mg x = some u ∧ PySem.W.exmOne K u c = some false
def Ex.nm : Ex → Str
  | .cls C => C
  | .lim C _ _ => C
def sTry (cs ns : List Str) (mb ms : S → R Fl) : S → R Fl := fun s => match mb s with
  | .ok f s1 => .ok f s1
  | .ex e s1 => if e.nm ∈ cs then noEx (ms s1) else if e.nm ∈ ns then .ex e s1 else .bad
  | .bad => .bad
/-- try: .. except X as e: return e.f -/
def sTryF (i : Nat) (C : Str) (ns : List Str) (f : Str) (mb : S → R Fl) : S → R Fl := fun s => match mb s with
  | .ok f s1 => .ok f s1
  | .ex e s1 => if e.nm = C then (match e with
    | .lim _ g d => if g = f ∧ i < s1.v.length then .ok (.rt (.val d)) s1 else .bad
    | .cls _ => .bad) else if e.nm ∈ ns then .ex e s1 else .bad
  | .bad => .bad
def XfT (K : PySem.W.Frag) (mg : Str → Option Value) (x f : Str) : Prop := ∃ C, mg x = some (.ref C) ∧ XfC K C ∧ PySem.W.findIn K (.ref C) f = some none
theorem ExR.mg {E : RC} {H : Hp} {e : Ex} {c : Value} {d : Option Addr} (h : ExR E H e c d) : E.mg e.nm = some c := by
  cases e with
  | cls C => exact h.1
  | lim C f x => exact h.1
section
variable {X : Cx} {W : WX} {x n : Str} {cs ns : List Str} {body suite : List Stmt} {b₀ : Stmt} {np pos pos' : Pos} {mb ms : S → R Fl}
theorem swp_ok {K : PySem.W.Frag} {mg : Str → Option Value} {W W' : WX} {en : En} {f : Fl} {s : S} {D : Ends} (h : SWp K mg W en (.ok f s) D) : SWp K mg W' en (.ok f s) D := by
  cases f <;> exact h
theorem ms_try (hx : ExT X.K X.mg x cs ns) (hg : Gl X x) (hd : (x == ("__debug__" : Str)) = false) (tk : Takes X W)
    (hb : ∀ (W : WX) (pn : List (Addr × Obj)) (xe : Value → Shared → Prop), Takes (X.tr pn xe) W → PassesOwn (model X.prog X.w) X.A X.env xe → MB (X.tr pn xe) W body mb)
    (hsu : ∀ (a : Addr) (oe : Obj) (pn : List (Addr × Obj)), MB (X.suite a ((a, oe) :: pn)) (fun _ _ _ _ => False) (b₀ :: suite) ms)
    (hs : X.stack = X.env :: X.outer := by rfl) (hf : X.env.frame = some X.env.locals := by rfl) :
    MS X W (.Try body [.ExceptHandler (some (.Name x np)) none (b₀ :: suite) pos'] [] [] pos) (sTry cs ns mb ms) := ⟨fun en => by
  obtain ⟨c, hc, h1, h2⟩ := hx
  refine ps_imp (ps_try_only hs hf ⟨hg, hd, .inl hc⟩ tk (tb := fun W' => TSm X.K X.mg W' en mb) (ts := fun _ _ _ => TSm X.K X.mg (fun _ _ _ _ => False) en ms) (fun W' pn xe tk' pp => (hb W' pn xe tk' pp).run en) fun a oe cls d pn _ _ => (hsu a oe pn).run en) fun D σ H ⟨al, s, hst, hw⟩ => ?_
  refine ⟨al, s, hst, ?_⟩
  unfold sTry at hw
  revert hw
  cases mb s with
  | bad => exact fun hw => hw
  | ok f s1 => exact fun hw => swp_ok hw
  | ex e s1 =>
    intro hw al' σ' H' cl d st' x
    have hm : X.mg e.nm = some cl := x.mg
    simp only at hw
    split at hw
    · rename_i hin
      obtain ⟨u, hu, q⟩ := h1 _ hin
      rw [hm] at hu; cases hu
      refine ⟨true, q, fun _ a _ => ⟨al', s1, st', ?_⟩, fun z => nomatch z⟩
      revert hw
      cases ms s1 with
      | bad => exact fun hw => hw
      | ok f s2 => exact fun hw => swp_ok hw
      | ex e s2 => exact fun hw => hw.elim
    · split at hw
      · rename_i hin
        obtain ⟨u, hu, q⟩ := h2 _ hin
        rw [hm] at hu; cases hu
        exact ⟨false, q, fun z => (nomatch z), fun _ => hw al' σ' H' cl d st' x⟩
      · exact hw.elim⟩
theorem ms_tryF {i : Nat} {C f : Str} {p2 p3 p4 : Pos} (hx : ExT X.K X.mg x [C] ns) (hxf : XfT X.K X.mg C f) (hg : Gl X x) (hd : (x == ("__debug__" : Str)) = false) (hN : X.N.Nodup) (hi : X.N[i]? = some n) (hln : X.env.kindOf n = some .local) (tk : Takes X W)
    (hb : ∀ (W : WX) (pn : List (Addr × Obj)) (xe : Value → Shared → Prop), Takes (X.tr pn xe) W → PassesOwn (model X.prog X.w) X.A X.env xe → MB (X.tr pn xe) W body mb)
    (hn1 : (n == ("__debug__" : Str)) = false := by decide) (hn2 : (n == ("__classdict__" : Str)) = false := by decide)
    (hs : X.stack = X.env :: X.outer := by rfl) (hf : X.env.frame = some X.env.locals := by rfl) (hab : attributeBase (.Name n p2) f X.env (eval (.Name n p2) X.env) = eval (.Name n p2) X.env := by rfl) :
    MS X W (.Try body [.ExceptHandler (some (.Name x np)) (some n) [.Return (some (.Attribute (.Name n p2) f p3)) p4] pos'] [] [] pos) (sTryF i C ns f mb) := ⟨fun en => by
  obtain ⟨c, hc, h1, h2⟩ := hx
  obtain ⟨Ca, hCa, T, hno⟩ := hxf
  refine ps_imp (ps_try_as hs hf hN hi hln ⟨hg, hd, .inl hc⟩ tk (tb := fun W' => TSm X.K X.mg W' en mb) (ts := fun a cls d => tRet (tXf a cls d Ca f (tVar i))) (fun W' pn xe tk' pp => (hb W' pn xe tk' pp).run en) fun a oe cls d pn hz hv => pss_one (ps_ret (pe_xf T hno hz hv (pe_var hi (.inl hln) hn1 hn2) hab))) fun D σ H ⟨al, s, hst, hw⟩ => ?_
  refine ⟨al, s, hst, ?_⟩
  unfold sTryF at hw
  revert hw
  cases mb s with
  | bad => exact fun hw => hw
  | ok f s1 => exact fun hw => swp_ok hw
  | ex e s1 =>
    intro hw al' σ' H' cl d st' x
    have hm : X.mg e.nm = some cl := x.mg
    simp only at hw
    split at hw
    · rename_i hin
      obtain ⟨u, hu, q⟩ := h1 C List.mem_cons_self
      rw [← hin, hm] at hu; cases hu
      refine ⟨true, q, fun _ a _ => ?_, fun z => nomatch z⟩
      cases e with
      | cls C => exact hw.elim
      | lim C' g y =>
        simp only at hw
        split at hw
        · rename_i hgi
          obtain ⟨hgf, hlen⟩ := hgi
          subst hgf
          obtain ⟨_, da, v, rfl, hda, hyf, hy⟩ := x
          have e1 : C' = C := hin
          rw [show (Ex.lim C' g y).nm = C from hin, hCa] at hm
          cases hm
          refine ⟨.ref a, ?_, rfl, rfl, da, [(g, v)], v, rfl, hda, by simp [List.lookup], ?_⟩
          · rw [List.getElem?_set_self (by rw [← st'.len]; exact hlen)]
          · exact hw al' σ' H' v st' (ErN.out (B := []) (r := .val y) st' (fun _ (z : en.H _ = none) => z) hy)
        · exact hw.elim
    · split at hw
      · rename_i hin
        obtain ⟨u, hu, q⟩ := h2 _ hin
        rw [hm] at hu; cases hu
        exact ⟨false, q, fun z => (nomatch z), fun _ => hw al' σ' H' cl d st' x⟩
      · exact hw.elim⟩
end
end MP

namespace MP
open PySem PySem.Spec PyProof.Rows L2
/-! an own exception with one field -/
def spLim (K : PySem.W.Frag) (f : Str) : Sp := fun vs H Q _ => ∃ (a C : Addr) (v : V), vs = [.ref a, v] ∧ OexC K C ∧ PySem.W.findIn K (.ref C) f = some none ∧ H a = some (exo a C none) ∧
  ∀ dx, H dx = none → dx ≠ a → Q .non (upd (upd H dx (exd dx [(f, v)])) a (exo a C (some dx)))
structure LimC (P : Program) (w : World) (K : PySem.W.Frag) (mg : Str → Option Value) (base : Heap) (x : Str) (k : Nat) (f : Str) : Prop where
  ex : ∃ (C fI : Addr) (fd : FuncData) (ps : List Str), mg x = some (.ref C) ∧ OexC K C ∧ PySem.W.findIn K (.ref C) f = some none ∧ PySem.W.findIn K (.ref C) "__init__" = some (some (.ref fI)) ∧ PySem.W.typeIn K (.ref fI) = some (.type "function") ∧
    FnOk P w K mg base (L2.CX P w) k fI fd ps (spLim K f) ∧ Binds K fd ps []
section
variable {P : Program} {w : World} {K : PySem.W.Frag} {mg : Str → Option Value} {base : Heap}
theorem init_ok {x qual f : Str} {st : Stmt} {fI : Addr} {fd : FuncData} {k : Nat} {N : List Str} {s1 s2 : Str} (F : Fun K x qual st fI fd) (S : FnScope N [s1, s2] (defScope st)) (hN : N.length = 2)
    (hb : ∀ (cdv : Value) (A : Around) (outer : List Env) (s : Shared) (H : Hp) (E : XK), PSs (cxOf (L2.CX P w) P w K mg base N qual (defScope st) fI cdv A outer s H E) (defBody st) (tOst K f (tVar 0) (tVar 1))) :
    FnOk P w K mg base (L2.CX P w) (k + 1) fI fd [s1, s2] (spLim K f) := by
  refine F.okX S (fun vs H Q E h => ?_) fun cdv A outer s H vs Q E hr h => ?_
  · obtain ⟨a, C, v, rfl, _⟩ := h; rfl
  · obtain ⟨a, C, v, rfl, T, hno, ea, q⟩ := h
    refine ⟨_, hb cdv A outer s H E, ?_⟩
    have e : L2.start N [.ref a, v] = [some (.ref a), some v] := by unfold L2.start; simp [hN]
    rw [e]
    exact ⟨v, rfl, .ref a, rfl, a, C, rfl, T, hno, .inl ⟨ea, q⟩⟩
end
def sRaiseL (C f : Str) (m : S → R Er) : S → R Fl := fun s => (m s).bind fun r s1 => if r.toD.flat = true then .ex (.lim C f r.toD) s1 else .bad
section
variable {X : Cx} {W : WX} {B : List Nat} {x f : Str} {e : Expr} {m : S → R Er} {k : Nat} {p pos pos' : Pos}
theorem ms_raiseL (hc : X.calm = true) (tk : Takes X W) (L : LimC X.prog X.w X.K X.mg X.base x k f) (hr : Room (k + 1) X.A) (ha : ME X W B e m) (hg : Gl X x)
    (hdb : (x == ("__debug__" : Str)) = false := by decide) (he : starEach [e] X.env = (false, eval e X.env) :: starEach [] X.env := by rfl) (hpl : (backTo pos (starEach [] X.env)).any (·.1) = false := by rfl) :
    MS X W (.Raise (some (.Call (.Name x p) [e] [] pos)) none pos') (sRaiseL x f m) := ⟨fun en => by
  obtain ⟨C, fI, fd, ps, hm, T, hno, iC, tI, F1, hB⟩ := L.ex
  refine ps_imp (ps_raise hc tk (pmk_oex (dvs := []) T iC tI F1 hr hB .nil (fun _ _ _ _ e s' I c => by
    obtain ⟨_, _, _, _, _, _, _, _, _, _, _, _, z⟩ := c
    exact z.elim) hg hm (pa_cons (ha.run en) pa_nil he) hdb he hpl)) fun D σ H ⟨al, s, hst, hw⟩ => ?_
  refine ⟨al, s, hst, ?_⟩
  unfold sRaiseL at hw
  revert hw
  cases m s with
  | bad => exact fun hw => hw
  | ex e s1 => exact fun hw al' H' c d st' x => hw al' σ H' c d st' x
  | ok r s1 =>
    intro hw al1 H1 st1 mo1 v hv
    simp only [R.bind] at hw
    split at hw
    case isFalse => exact hw.elim
    case isTrue hfl =>
    refine ⟨(show 1 ≤ 1000 by decide), fun a ha => ⟨a, C, v, rfl, T, hno, upd_same, fun dx hdx hne => ⟨rfl, dx, [(f, v)], upd_same, ?_, ?_, ?_⟩⟩⟩
    · rw [upd_ne hne, upd_same]
    · rwa [upd_ne hne] at hdx
    · have hdx1 : H1 dx = none := by rwa [upd_ne hne] at hdx
      generalize hH : upd (del (upd (upd (upd H1 a (exo a C none)) dx (exd dx [(f, v)])) a (exo a C (some dx))) a) dx (.xd [(f, v)]) = H2
      have at2 : ∀ b, H2 b = if b = dx then some (.xd [(f, v)]) else H1 b := by
        intro b
        rw [← hH]
        by_cases hb : b = dx
        · subst hb; rw [upd_same, if_pos rfl]
        · rw [upd_ne hb, if_neg hb]
          by_cases hba : b = a
          · subst hba; rw [del_same, ha]
          · rw [del_ne hba, upd_ne hba, upd_ne hb, upd_ne hba]
      have g : Grow H1 H2 := fun b o q => by
        rw [at2, if_neg]
        · exact q
        · rintro rfl; rw [hdx1] at q; cases q
      have hv2 := hv.toD.mo g.mo
      exact hw al1 σ H2 _ _ (st1.grow g) ⟨hm, dx, v, rfl, by rw [at2, if_pos rfl], hfl, hv2.fo fo_rc hfl⟩⟩
end
section
variable {P : Program} {w : World} {K : PySem.W.Frag} {mg : Str → Option Value} {base : Heap}
theorem dfn_bad {x : Str} {st : Stmt} {f : Addr} {fd : FuncData} {ps : List Str} {k : Nat} (hm : mg x = some (.ref f)) (F : Fun K x x st f fd) (B : Binds K fd ps []) : Dfn P w K mg base x st k ps (fun _ _ => .bad) :=
  ⟨f, fd, hm, F, ⟨fun vs H Q E h => spM_len h, fun A outer s H args us vs Q E _ _ _ _ h => by obtain ⟨_, _, _, _, _, _, _, z⟩ := h; exact z.elim⟩, B⟩
end
/-! what stands in the written part, for the end -/
def NoneAt (K : PySem.W.Frag) (x : Str) : Prop := PySem.W.nsIn K mainGlobals x = some none
structure DefAt (K : PySem.W.Frag) (x : Str) (st : Stmt) : Prop where
  ex : ∃ (f : Addr) (oc : Value) (od an : Option Addr) (osl : Array (Option Value)) (kV doc pm cdv ct : Value), PySem.W.nsIn K mainGlobals x = some (some (.ref f)) ∧
    K.lookup f = some ⟨oc, od, .func (PySem.W.fnOf x x (defArgs st) (defBody st) (defScope st) .none kV doc pm an cdv ct), osl⟩ ∧ PySem.W.codeIn K cdv x = true ∧ PySem.W.keepIn K (.ref f) = true
theorem defAt_mk {K : PySem.W.Frag} {x : Str} {st : Stmt} {f : Addr} {oc : Value} {od an : Option Addr} {osl : Array (Option Value)} {kV doc pm cdv ct : Value} (a : PySem.W.nsIn K mainGlobals x = some (some (.ref f)))
    (l : K.lookup f = some ⟨oc, od, .func (PySem.W.fnOf x x (defArgs st) (defBody st) (defScope st) .none kV doc pm an cdv ct), osl⟩) (c : PySem.W.codeIn K cdv x = true) (k : PySem.W.keepIn K (.ref f) = true) : DefAt K x st :=
  ⟨f, oc, od, an, osl, kV, doc, pm, cdv, ct, a, l, c, k⟩
theorem DefAt.get {K : PySem.W.Frag} {x : Str} {st : Stmt} {h : Heap} {mg : Str → Option Value} (d : DefAt K x st) (X : K.In h) (G : h.Ns mainGlobals mg) : ∃ (f : Addr) (fd : FuncData), mg x = some (.ref f) ∧ Fun K x x st f fd := by
  obtain ⟨f, oc, od, an, osl, kV, doc, pm, cdv, ct, a, l, c, k⟩ := d.ex
  exact ⟨f, _, PySem.W.mg_of X G a, fun_mk l c k⟩
end MP
namespace MP
open PySem PySem.Spec PyProof.Rows L2
/-- one clause that catches its own class alone -/
theorem exT_one {K : PySem.W.Frag} {h : Heap} {mg : Str → Option Value} (X : K.In h) (G : h.Ns mainGlobals mg) {C : Str} {c : Value} (a : PySem.W.nsIn K mainGlobals C = some (some c)) (b : PySem.W.exmOne K c c = some true) : ExT K mg C [C] [] := by
  have e := PySem.W.mg_of X G a
  exact ⟨c, e, fun x hx => by
    cases List.mem_singleton.mp hx
    exact ⟨c, e, b⟩, fun x hx => nomatch hx⟩
theorem xfT_mk {K : PySem.W.Frag} {h : Heap} {mg : Str → Option Value} (X : K.In h) (G : h.Ns mainGlobals mg) {C f : Str} {c : Addr} (a : PySem.W.nsIn K mainGlobals C = some (some (.ref c))) (b : xfB K c = true) (d : PySem.W.findIn K (.ref c) f = some none) : XfT K mg C f :=
  ⟨c, PySem.W.mg_of X G a, xfB_ok b, d⟩
structure LimAt (K : PySem.W.Frag) (x qual f : Str) (st : Stmt) : Prop where
  ex : ∃ (C fI : Addr) (oc : Value) (od an : Option Addr) (osl : Array (Option Value)) (kV doc pm cdv ct : Value), PySem.W.nsIn K mainGlobals x = some (some (.ref C)) ∧ OexC K C ∧ PySem.W.findIn K (.ref C) f = some none ∧
    PySem.W.findIn K (.ref C) "__init__" = some (some (.ref fI)) ∧ PySem.W.typeIn K (.ref fI) = some (.type "function") ∧
    K.lookup fI = some ⟨oc, od, .func (PySem.W.fnOf "__init__" qual (defArgs st) (defBody st) (defScope st) .none kV doc pm an cdv ct), osl⟩ ∧ PySem.W.codeIn K cdv qual = true ∧ PySem.W.keepIn K (.ref fI) = true
theorem limAt_mk {K : PySem.W.Frag} {x qual f : Str} {st : Stmt} {C fI : Addr} {oc : Value} {od an : Option Addr} {osl : Array (Option Value)} {kV doc pm cdv ct : Value} (a : PySem.W.nsIn K mainGlobals x = some (some (.ref C))) (T : OexC K C) (hno : PySem.W.findIn K (.ref C) f = some none)
    (iC : PySem.W.findIn K (.ref C) "__init__" = some (some (.ref fI))) (tI : PySem.W.typeIn K (.ref fI) = some (.type "function")) (l : K.lookup fI = some ⟨oc, od, .func (PySem.W.fnOf "__init__" qual (defArgs st) (defBody st) (defScope st) .none kV doc pm an cdv ct), osl⟩)
    (c : PySem.W.codeIn K cdv qual = true) (k : PySem.W.keepIn K (.ref fI) = true) : LimAt K x qual f st := ⟨C, fI, oc, od, an, osl, kV, doc, pm, cdv, ct, a, T, hno, iC, tI, l, c, k⟩
theorem LimAt.get {P : Program} {w : World} {K : PySem.W.Frag} {h base : Heap} {mg : Str → Option Value} {x qual f : Str} {st : Stmt} {N : List Str} {s1 s2 : Str} (L : LimAt K x qual f st) (X : K.In h) (G : h.Ns mainGlobals mg) (S : FnScope N [s1, s2] (defScope st)) (hN : N.length = 2)
    (hb : ∀ (fI : Addr) (cdv : Value) (A : Around) (outer : List Env) (s : Shared) (H : Hp) (E : XK), PSs (cxOf (L2.CX P w) P w K mg base N qual (defScope st) fI cdv A outer s H E) (defBody st) (tOst K f (tVar 0) (tVar 1)))
    (bi : ∀ (kV doc pm : Value) (an : Option Addr) (cdv ct : Value) (us : List Value), us.length = [s1, s2].length → bindArgs (PySem.W.fnOf "__init__" qual (defArgs st) (defBody st) (defScope st) .none kV doc pm an cdv ct) ⟨us, []⟩ = pure ([s1, s2].zip us)) :
    LimC P w K mg base x 1 f := by
  obtain ⟨C, fI, oc, od, an, osl, kV, doc, pm, cdv, ct, a, T, hno, iC, tI, l, c, k⟩ := L.ex
  have F := fun_mk l c k
  exact ⟨C, fI, _, [s1, s2], PySem.W.mg_of X G a, T, hno, iC, tI, init_ok F S hN (hb fI), F.binds bi⟩
end MP
namespace MP
open PySem PySem.Spec PyProof.Rows L2
/-- what is asked of the law's def -/
def spL (K : PySem.W.Frag) : Sp := fun vs H Q _ => ∃ (a : Addr) (ns : List Int), vs = [.ref a] ∧ SqL K H a (ns.map V.int) ∧ Only H ∧ ns.length ≤ 63 ∧ ∀ H', Q (.bl true) H'
theorem law_end {P : Program} {w : World} {K : PySem.W.Frag} {mg : Str → Option Value} {base : Heap} {k : Nat} {f : Addr} {fd : FuncData} {x : Str} {F : F} (h : FnOk P w K mg base (L2.CX P w) k f fd [x] (spM K mg 1 F)) (ok : ∀ ns : List Int, ns.length ≤ 63 → ∃ h', F [.fz ns] [] = .ok (.val (.bl true)) h') : FnOk P w K mg base (L2.CX P w) k f fd [x] (spL K) :=
  h.imp fun vs H Q E ⟨a, ns, ev, hS, hO, hl, q⟩ => by
    subst ev
    obtain ⟨ex, al, ds, hh, rh, e1, r, hw⟩ := sp_law (K := K) (mg := mg) (f := F) (n := 63) ok hl hS hO
    refine ⟨ex, al, ds, hh, rh, e1, r, ?_⟩
    revert hw
    cases F ds hh with
    | bad => exact fun hw => hw
    | ok r h' => exact fun hw al' H' v a b c => (hw al' H' v a b c) ▸ q H'
    | ex e h' => exact fun hw al' H' c d a b x => (hw al' H' c d a b x).elim
theorem cx_none {P : Program} {w : World} {H : Hp} {s : Shared} {e : Value} {s' : Shared} (h : L2.CX P w [] H s (fun _ _ _ => False) e s') : False := by
  obtain ⟨_, _, _, _, _, _, _, _, _, _, _, _, z⟩ := h
  exact z
end MP
namespace MP
open PySem PySem.Spec PyProof.Rows L2
section
variable {P : Program} {w : World} {K : PySem.W.Frag} {mg : Str → Option Value} {base : Heap}
/-- the same, the def's text evaluated -/
theorem fn_mkE {x qual : Str} {st st0 : Stmt} {f : Addr} {fd : FuncData} {N ps : List Str} {k : Nat} {m : S → R Fl} (e : st = st0) (F : Fun K x qual st f fd) (S : FnScope N ps (defScope st))
    (hb : ∀ (cdv : Value) (A : Around) (outer : List Env) (s : Shared) (H : Hp) (E : XK), Room k (A.deeper (envOfC qual (defScope st0) s.heap.objs.size f cdv)) →
      MB (cxOf (L2.CX P w) P w K mg base N qual (defScope st0) f cdv A outer s H E) (fun c d _ H => E c d H) (defBody st0) m) :
    FnOk P w K mg base (L2.CX P w) (k + 1) f fd ps (spM K mg ps.length (runF N.length m)) := by
  subst e
  exact fn_mk F S hb
theorem dfn_mkE {x : Str} {st st0 : Stmt} {f : Addr} {fd : FuncData} {N ps : List Str} {k : Nat} {m : S → R Fl} (e : st = st0) (hm : mg x = some (.ref f)) (F : Fun K x x st f fd) (B : Binds K fd ps []) (S : FnScope N ps (defScope st))
    (hb : ∀ (cdv : Value) (A : Around) (outer : List Env) (s : Shared) (H : Hp) (E : XK), Room k (A.deeper (envOfC x (defScope st0) s.heap.objs.size f cdv)) →
      MB (cxOf (L2.CX P w) P w K mg base N x (defScope st0) f cdv A outer s H E) (fun c d _ H => E c d H) (defBody st0) m) : Dfn P w K mg base x st (k + 1) ps (runF N.length m) :=
  ⟨f, fd, hm, F, fn_mkE e F S hb, B⟩
end
end MP
namespace MP
theorem bo_len : PySem.bootBuiltins "len" = some (.builtin "len") := by decide +kernel
theorem bo_sum : PySem.bootBuiltins "sum" = some (.builtin "sum") := by decide +kernel
theorem bo_all : PySem.bootBuiltins "all" = some (.builtin "all") := by decide +kernel
theorem bo_max : PySem.bootBuiltins "max" = some (.builtin "max") := by decide +kernel
theorem bo_min : PySem.bootBuiltins "min" = some (.builtin "min") := by decide +kernel
theorem bo_abs : PySem.bootBuiltins "abs" = some (.builtin "abs") := by decide +kernel
theorem bo_divmod : PySem.bootBuiltins "divmod" = some (.builtin "divmod") := by decide +kernel
theorem bo_sorted : PySem.bootBuiltins "sorted" = some (.builtin "sorted") := by decide +kernel
theorem bo_repr : PySem.bootBuiltins "repr" = some (.builtin "repr") := by decide +kernel
theorem bo_tuple : PySem.bootBuiltins "tuple" = some (.type "tuple") := by decide +kernel
theorem bo_list : PySem.bootBuiltins "list" = some (.type "list") := by decide +kernel
theorem bo_int : PySem.bootBuiltins "int" = some (.type "int") := by decide +kernel
theorem bo_str : PySem.bootBuiltins "str" = some (.type "str") := by decide +kernel
theorem bo_bool : PySem.bootBuiltins "bool" = some (.type "bool") := by decide +kernel
theorem bo_dict : PySem.bootBuiltins "dict" = some (.type "dict") := by decide +kernel
theorem bo_set : PySem.bootBuiltins "set" = some (.type "set") := by decide +kernel
end MP
namespace MP
open PySem PySem.Spec PyProof.Rows L2
section
variable {X : Cx} {W : WX} {B : List Nat} {x : Str} {st : Stmt} {k n : Nat} {ps ks : List Str} {fn : F} {a : Expr} {es : List Expr} {kws : List Keyword} {ms mk : S → R (List D)} {p pos : Pos}
theorem me_callN (Dx : Dfn X.prog X.w X.K X.mg X.base x st k ps fn) (hr : Room k X.A) (tk : Takes X W) (ha : MA X W B (a :: es) ms) (hn : ps.length = n := by rfl) (hg : Gl X x := by rfl) (hdb : (x == ("__debug__" : Str)) = false := by decide)
    (he : starEach (a :: es) X.env = (false, eval a X.env) :: starEach es X.env := by rfl) (hpl : (backTo pos (starEach es X.env)).any (·.1) = false := by rfl) :
    ME X W B (.Call (.Name x p) (a :: es) [] pos) (eCall n fn [] ms) := by
  subst hn
  exact me_call Dx hr tk ha hg hdb he hpl
theorem me_callKN (Dx : Dfn X.prog X.w X.K X.mg X.base x st k ps fn) (hr : Room k X.A) (tk : Takes X W) {ix : List Nat} {na nk : Nat} (ko : KOk x st ps ks ix na) (ha : MA X W B (a :: es) ms) (hk : MK X W B kws mk) (hn : ps.length = n := by rfl) (hnk : ks.length = nk := by rfl) (hg : Gl X x := by rfl)
    (hall : (backToKw pos (keywordEach kws X.env)).all (·.1.isSome) = true := by rfl) (hks : (backToKw pos (keywordEach kws X.env)).filterMap (·.1) = ks := by rfl)
    (hdb : (x == ("__debug__" : Str)) = false := by decide) (he : starEach (a :: es) X.env = (false, eval a X.env) :: starEach es X.env := by rfl)
    (hpl : ((backTo pos (starEach (a :: es) X.env)).any (·.1) || (backToKw pos (keywordEach kws X.env)).any (·.1.isNone)) = false := by rfl) :
    ME X W B (.Call (.Name x p) (a :: es) kws pos) (eCallK n na nk fn ix ms mk) := by
  subst hn hnk
  exact me_callK Dx hr tk ko ha hk hg hall hks hdb he hpl
theorem me_callK0N (Dx : Dfn X.prog X.w X.K X.mg X.base x st k ps fn) (hr : Room k X.A) (tk : Takes X W) {ix : List Nat} {nk : Nat} (ko : KOk x st ps ks ix 0) (hk : MK X W B kws mk) (hn : ps.length = n := by rfl) (hnk : ks.length = nk := by rfl) (hg : Gl X x := by rfl)
    (hall : (backToKw pos (keywordEach kws X.env)).all (·.1.isSome) = true := by rfl) (hks : (backToKw pos (keywordEach kws X.env)).filterMap (·.1) = ks := by rfl)
    (hdb : (x == ("__debug__" : Str)) = false := by decide)
    (hpl : ((backTo pos (starEach [] X.env)).any (·.1) || (backToKw pos (keywordEach kws X.env)).any (·.1.isNone)) = false := by rfl) :
    ME X W B (.Call (.Name x p) [] kws pos) (eCallK n 0 nk fn ix eNil mk) := by
  subst hn hnk
  exact me_callK0 Dx hr tk ko hk hg hall hks hdb hpl
end
end MP
namespace MP
open PySem PySem.Spec PyProof.Rows L2
theorem oex_mk {K : PySem.W.Frag} {C N : Addr} {nm q : Str} {bs bm : List Value} {sn : List Str} {sub : List Value} {ab : Bool} {col : Option Bool} {dd : Option Addr} {k0 k1 k2 k3 k5 : Option Value}
    (l : K.lookup C = some (excClassObj nm q C N bs bm true sn sub ab col dd k0 k1 k2 k3 k5 "ValueError.__new__")) (r : PySem.HandSPX.refsVE bm = true) (sa : PySem.W.findIn K (.ref C) "__setattr__" = some (some (.builtin "object.__setattr__")))
    (e : PySem.W.subIn K (.ref C) (.type "BaseException") = some true) (t : PySem.W.typeIn K (.ref C) = some (.type "type")) (k : PySem.W.keepIn K (.ref C) = true) : OexC K C :=
  ⟨⟨nm, q, N, bs, bm, sn, sub, ab, col, dd, k0, k1, k2, k3, k5, l, r⟩, sa, e, t, k⟩
theorem exm_own {K : PySem.W.Frag} {S : Addr} (h1 : PySem.W.subIn K (.ref S) (.type "BaseException") = some true) (h2 : PySem.W.isClsIn K S = true) (h3 : PySem.W.typeIn K (.ref S) = some (.type "type")) (h4 : PySem.W.subIn K (.ref S) (.ref S) = some true) :
    PySem.W.exmOne K (.ref S) (.ref S) = some true := by
  unfold PySem.W.exmOne PySem.W.kitCls
  have h2' : (PySem.W.clsIn K S).isSome = true := h2
  simp only [h1, h2', h3, h4]
  rfl
/-- one clause that catches its own class alone -/
theorem exT_own {K : PySem.W.Frag} {h : Heap} {mg : Str → Option Value} (X : K.In h) (G : h.Ns mainGlobals mg) {C : Str} {S : Addr} (a : PySem.W.nsIn K mainGlobals C = some (some (.ref S))) (h1 : PySem.W.subIn K (.ref S) (.type "BaseException") = some true) (h2 : PySem.W.isClsIn K S = true) (h3 : PySem.W.typeIn K (.ref S) = some (.type "type")) (h4 : PySem.W.subIn K (.ref S) (.ref S) = some true) : ExT K mg C [C] [] :=
  exT_one X G a (exm_own h1 h2 h3 h4)
theorem xfT_own {K : PySem.W.Frag} {h : Heap} {mg : Str → Option Value} (X : K.In h) (G : h.Ns mainGlobals mg) {C f : Str} {c : Addr} (a : PySem.W.nsIn K mainGlobals C = some (some (.ref c))) (b1 : PySem.W.findIn K (.ref c) "__getattribute__" = some (some (.builtin "BaseException.__getattribute__")))
    (b2 : PySem.W.findIn K (.ref c) "__getattr__" = some none) (b3 : PySem.W.subIn K (.ref c) (.type "BaseException") = some true) (b4 : PySem.W.hasDictIn K c = true) (d : PySem.W.findIn K (.ref c) f = some none) : XfT K mg C f :=
  ⟨c, PySem.W.mg_of X G a, ⟨b1, b2, b3, b4⟩, d⟩
end MP

namespace MP
open PySem PySem.Spec PyProof.Rows L2
/-! running denotations -/
section
variable {α β : Type} {s : S} {v : List SD} {h : List Con} {B : List Nat} {i j : Nat}
@[simp] theorem x_ok (a : α) (s : S) (f : α → S → R β) : (R.ok a s).bind f = f a s := rfl
@[simp] theorem x_ex (e : Ex) (s : S) (f : α → S → R β) : (R.ex e s : R α).bind f = .ex e s := rfl
@[simp] theorem x_bad (f : α → S → R β) : (R.bad : R α).bind f = .bad := rfl
@[simp] theorem x_noEx (a : α) (s : S) : noEx (R.ok a s) = .ok a s := rfl
@[simp] theorem x_opt (e : α) : opt (some e) s = .ok e s := rfl
@[simp] theorem x_toD (d : D) : (Er.val d).toD = d := rfl
@[simp] theorem x_toL (xs : List D) : (Er.new (.lst xs)).toD = .lst xs := rfl
@[simp] theorem x_eC (d : D) : eC d s = .ok (.val d) s := rfl
@[simp] theorem x_var : eVar i s = match s.v[i]? with
  | some (.val d) => .ok (.val d) s
  | some (.own (.lst xs)) => .ok (.val (.lst xs)) s
  | some (.own (.dct ks vs)) => .ok (.val (.dct ks vs)) s
  | _ => .bad := rfl
@[simp] theorem x_op2 (f : List Con → D → D → Option Er) (ma mb : S → R Er) : eOp2 f ma mb s = (ma s).bind fun r1 s1 => (mb s1).bind fun r2 s2 => opt (f s2.h r1.toD r2.toD) s2 := rfl
@[simp] theorem x_op1 (f : List Con → D → Option Er) (ma : S → R Er) : eOp1 f ma s = (ma s).bind fun r1 s1 => opt (f s1.h r1.toD) s1 := rfl
@[simp] theorem x_opN (f : List Con → List D → Option Er) (ma : S → R (List D)) : eOpN f ma s = (ma s).bind fun r1 s1 => opt (f s1.h r1) s1 := rfl
@[simp] theorem x_nil : eNil s = .ok [] s := rfl
@[simp] theorem x_cons (m : S → R Er) (ms : S → R (List D)) : eCons m ms s = (m s).bind fun r s1 => (ms s1).bind fun rs s2 => .ok (r.toD :: rs) s2 := rfl
@[simp] theorem x_tup (ms : S → R (List D)) : eTup ms s = (ms s).bind fun rs s1 => if rs.length ≤ maxL then .ok (.val (.tup rs)) s1 else .bad := rfl
@[simp] theorem x_lst (ms : S → R (List D)) : eLst ms s = (ms s).bind fun rs s1 => if rs.length ≤ maxL then .ok (.new (.lst rs)) s1 else .bad := rfl
@[simp] theorem x_B (m : S → R Er) : eB m s = (m s).bind fun r s1 => match r.toD with
  | .bl k => .ok k s1
  | _ => .bad := rfl
@[simp] theorem x_tru (m : S → R Er) : eTru m s = (m s).bind fun r s1 => opt (truD s1.h r.toD) s1 := rfl
@[simp] theorem x_and (a b : S → R Bool) : eAnd a b s = (a s).bind fun k s1 => if k = true then b s1 else .ok false s1 := rfl
@[simp] theorem x_or (a b : S → R Bool) : eOr a b s = (a s).bind fun k s1 => if k = true then .ok true s1 else b s1 := rfl
@[simp] theorem x_not (a : S → R Bool) : eNot a s = (a s).bind fun k s1 => .ok (!k) s1 := rfl
@[simp] theorem x_andV (a b : S → R Er) : eAndV a b s = (eB a s).bind fun k s1 => if k = true then b s1 else .ok (.val (.bl false)) s1 := rfl
@[simp] theorem x_orV (a b : S → R Er) : eOrV a b s = (eB a s).bind fun k s1 => if k = true then .ok (.val (.bl true)) s1 else b s1 := rfl
@[simp] theorem x_notV (a : S → R Er) : eNotV a s = (eB a s).bind fun k s1 => .ok (.val (.bl (!k))) s1 := rfl
@[simp] theorem x_if (t : S → R Bool) (a b : S → R Er) : eIf t a b s = (t s).bind fun k s1 => if k = true then a s1 else b s1 := rfl
@[simp] theorem x_yes : eYes s = .ok true s := rfl
@[simp] theorem x_noP : eNoP s = .ok none s := rfl
@[simp] theorem x_P (m : S → R Er) : eP m s = (m s).bind fun r s1 => match r.toD with
  | .int i => .ok (some i) s1
  | _ => .bad := rfl
@[simp] theorem f_slT (xs : List D) (lo hi : Option Int) : fSl h (.tup xs) lo hi = some (.val (.tup (cutD xs lo hi))) := rfl
@[simp] theorem f_slL (xs : List D) (lo hi : Option Int) : fSl h (.lst xs) lo hi = some (.new (.lst (cutD xs lo hi))) := rfl
@[simp] theorem x_sl (ma : S → R Er) (ml mh : S → R (Option Int)) : eSl ma ml mh s = (ma s).bind fun r1 s1 => (ml s1).bind fun lo s2 => (mh s2).bind fun hi s3 => opt (fSl s3.h r1.toD lo hi) s3 := rfl
@[simp] theorem x_ch (f f' : List Con → D → D → Option Er) (ma mb mc : S → R Er) : eCh f f' ma mb mc s = (ma s).bind fun r1 s1 => (mb s1).bind fun r2 s2 => match f s2.h r1.toD r2.toD with
  | some (.val (.bl true)) => (mc s2).bind fun r3 s3 => opt (f' s3.h r2.toD r3.toD) s3
  | some (.val (.bl false)) => .ok (.val (.bl false)) s2
  | _ => .bad := rfl
@[simp] theorem x_isi (ts : List Ty) (m : S → R Er) : eIsi ts m s = (m s).bind fun r s1 => match tyD s1.h r.toD with
  | some t => .ok (.val (.bl (ts.any t.is))) s1
  | none => .bad := rfl
@[simp] theorem x_sel (k1 k2 : Str) (d1 d2 : D) (m : S → R Er) : eSel k1 k2 d1 d2 m s = (m s).bind fun r s1 => match r.toD with
  | .str z => if z = k1 then .ok (.val d1) s1 else if z = k2 then .ok (.val d2) s1 else .bad
  | _ => .bad := rfl
@[simp] theorem x_call (n : Nat) (f : F) (dd : List D) (ms : S → R (List D)) : eCall n f dd ms s = (ms s).bind fun ds s1 => if (ds ++ dd).length = n then (match f (ds ++ dd) s1.h with
  | .ok r h' => .ok r ⟨s1.v, h'⟩
  | .ex e h' => .ex e ⟨s1.v, h'⟩
  | .bad => .bad) else .bad := rfl
@[simp] theorem x_callK (n na nk : Nat) (f : F) (ix : List Nat) (ms mk : S → R (List D)) : eCallK n na nk f ix ms mk s = (ms s).bind fun ds s1 => (mk s1).bind fun zs s2 => if ds.length = na ∧ zs.length = nk then (if (permL D.non ix (ds ++ zs)).length = n then (match f (permL .non ix (ds ++ zs)) s2.h with
  | .ok r h' => .ok r ⟨s2.v, h'⟩
  | .ex e h' => .ex e ⟨s2.v, h'⟩
  | .bad => .bad) else .bad) else .bad := rfl
@[simp] theorem x_flat (m : S → R Er) : eFlat m s = match m s with
  | .ok (.val d) s1 => if (d.flat && sameOwn s1.v s.v) = true then .ok (.val d) s1 else .bad
  | .ok _ _ => .bad
  | .ex e s1 => .ex e s1
  | .bad => .bad := rfl
@[simp] theorem x_mut (g : GMut) (ms : S → R (List D)) : eMut B i g ms s = if isLst s i = true then (ms s).bind (doMut B i g) else .bad := rfl
@[simp] theorem x_any (m : S → R Er) : iAny m s = (m s).bind fun r s1 => opt (itemsD s1.h r.toD) s1 := rfl
@[simp] theorem x_r1 (ms : S → R (List D)) : iR1 ms s = (ms s).bind fun ds s1 => match ds with
  | [.int j] => if smR j = true then .ok (rngD 0 j.toNat) s1 else .bad
  | _ => .bad := rfl
@[simp] theorem x_r2 (ms : S → R (List D)) : iR2 ms s = (ms s).bind fun ds s1 => match ds with
  | [.int i, .int j] => if (smR i && smR j) = true then .ok (rngD i (j - i).toNat) s1 else .bad
  | _ => .bad := rfl
@[simp] theorem x_zip (ms : S → R (List D)) : iZipM ms s = (ms s).bind fun ds s1 => match ds with
  | [.lst xs, .lst ys] => .ok (zipD xs ys) s1
  | [.tup xs, .tup ys] => .ok (zipD xs ys) s1
  | _ => .bad := rfl
@[simp] theorem x_comp (vs : List Nat) (mi : S → R (List D)) (t : Tg) (tc : S → R Bool) (me : S → R Er) : eComp B vs mi t tc me s = (mi s).bind fun xs s1 => if noOwn vs s1 = true then (compL B vs t tc me xs [] s1).bind fun acc s2 => .ok (.new (.lst acc)) s2 else .bad := rfl
@[simp] theorem x_next : sNext s = .ok .nx s := rfl
@[simp] theorem x_seq (a b : S → R Fl) : sSeq a b s = (a s).bind fun f s1 => match f with
  | .nx => b s1
  | f => .ok f s1 := rfl
@[simp] theorem x_sif (t : S → R Bool) (a b : S → R Fl) : sIf t a b s = (t s).bind fun k s1 => if k = true then a s1 else b s1 := rfl
@[simp] theorem x_expr (m : S → R Er) : sExpr m s = (m s).bind fun _ s1 => .ok .nx s1 := rfl
@[simp] theorem x_ret (m : S → R Er) : sRet m s = (m s).bind fun r s1 => .ok (.rt r) s1 := rfl
@[simp] theorem x_asg (m : S → R Er) : sAsg B i m s = (m s).bind fun r s1 => .ok .nx (putV B i r.toD s1) := rfl
@[simp] theorem x_own (m : S → R Er) : sOwn B i m s = (m s).bind fun r s1 => .ok .nx (putO B i r s1) := rfl
@[simp] theorem x_cell (m : S → R Er) : sCell i m s = (m s).bind fun r s1 => putC i r s1 := rfl
@[simp] theorem x_tgt (t : Tg) (m : S → R Er) : sTgt B t m s = (m s).bind fun r s1 => match storeT B t r.toD s1 with
  | some s2 => .ok .nx s2
  | none => .bad := rfl
@[simp] theorem x_par2 (ma mb : S → R Er) : sPar2 i j ma mb s = (ma s).bind fun r1 s1 => (mb s1).bind fun r2 s2 =>
  if okP r1 i s2 = true then (if okP r2 j (put1 i r1 s2) = true then .ok .nx (put1 j r2 (put1 i r1 s2)) else .bad) else .bad := rfl
@[simp] theorem x_aug (f : List Con → D → D → Option Er) (m : S → R Er) : sAug f i m s = match s.v[i]? with
  | some (.val d) => if d.flat = true then (m s).bind fun r s1 => (match f s1.h d r.toD with
    | some (.val u) => if u.flat = true then .ok .nx ⟨s1.v.set i (.val u), s1.h⟩ else .bad
    | _ => .bad) else .bad
  | _ => .bad := rfl
@[simp] theorem x_setI (mv mi : S → R Er) : sSetI B i mv mi s = (eMut B i gSet (eCons mv (eCons mi eNil)) s).bind fun _ s1 => .ok .nx s1 := rfl
@[simp] theorem x_for (mi : S → R (List D)) (t : Tg) (body : S → R Fl) : sFor B mi t body s = (mi s).bind fun xs s1 => forL t body xs ⟨frzB B 0 s1.v, s1.h⟩ := rfl
@[simp] theorem x_raiseL (C f : Str) (m : S → R Er) : sRaiseL C f m s = (m s).bind fun r s1 => if r.toD.flat = true then .ex (.lim C f r.toD) s1 else .bad := rfl
@[simp] theorem x_raise (C : Str) : sRaise C s = .ex (.cls C) s := rfl
theorem x_run (n : Nat) (m : S → R Fl) (ds : List D) : runF n m ds h = match m ⟨ds.map SD.val ++ List.replicate (n - ds.length) SD.no, h⟩ with
  | .ok (.rt r) s' => .ok r s'.h
  | .ok .nx s' => .ok (.val .non) s'.h
  | .ok _ _ => .bad
  | .ex e s' => .ex e s'.h
  | .bad => .bad := rfl
/-! operations -/
@[simp] theorem maxL_eq : maxL = 100000 := rfl
theorem sz_of {i : Int} (h : i.natAbs < 2 ^ 4000) : sz i = true := decide_eq_true h
@[simp] theorem frzS_val (d : D) : frzS (.val d) = .val d := rfl
@[simp] theorem frzS_no : frzS .no = .no := rfl
@[simp] theorem frzS_own (xs : List D) : frzS (.own (.lst xs)) = .val (.lst xs) := rfl
theorem smR_of {i : Int} (h0 : -1000000000 ≤ i) (h : i ≤ 1000000000) : smR i = true := decide_eq_true (by omega)
@[simp] theorem f_addI (x y : Int) : fAdd h (.int x) (.int y) = some (.val (.int (x + y))) := rfl
@[simp] theorem f_subI (x y : Int) : fSub h (.int x) (.int y) = some (.val (.int (x - y))) := rfl
@[simp] theorem f_mod (x y : Int) : fMod h (.int x) (.int y) = if decide (0 < y) = true then some (.val (.int (x % y))) else none := rfl
@[simp] theorem f_div (x y : Int) : fDiv h (.int x) (.int y) = if (decide (0 < y) && sz y) = true then some (.val (.int (x / y))) else none := rfl
@[simp] theorem f_pow (x y : Int) : fPow h (.int x) (.int y) = if (sz x && (decide (0 ≤ y) && decide (y ≤ 1000))) = true then some (.val (.int (x ^ y.toNat))) else none := rfl
@[simp] theorem f_mulI (x y : Int) : fMul h (.int x) (.int y) = if (sz x && sz y) = true then some (.val (.int (x * y))) else none := by
  show (if (sz x && sz y) = true then some (Er.val (.int (x * y))) else none).or none = _
  split <;> rfl
@[simp] theorem f_augI (x y : Int) : fAugAdd h (.int x) (.int y) = some (.val (.int (x + y))) := rfl
@[simp] theorem f_ltI (x y : Int) : fLt h (.int x) (.int y) = some (.val (.bl (decide (x < y)))) := rfl
@[simp] theorem f_leI (x y : Int) : fLe h (.int x) (.int y) = some (.val (.bl (decide (x ≤ y)))) := rfl
@[simp] theorem f_gtI (x y : Int) : fGt h (.int x) (.int y) = some (.val (.bl (decide (y < x)))) := rfl
@[simp] theorem f_geI (x y : Int) : fGe h (.int x) (.int y) = some (.val (.bl (decide (y ≤ x)))) := rfl
@[simp] theorem f_neg (x : Int) : fNeg h (.int x) = some (.val (.int (-x))) := rfl
theorem f_eqP {x y : D} {p q : PyData} (h1 : pyOf h x = some p) (h2 : pyOf h y = some q) (s1 : SeqAt.shaped p = true) (s2 : SeqAt.shaped q = true) : fEq h x y = some (.val (.bl (PyData.eqv p q))) := by
  unfold fEq; rw [h1, h2]; simp [s1, s2, vB]
theorem f_neP {x y : D} {p q : PyData} (h1 : pyOf h x = some p) (h2 : pyOf h y = some q) (s1 : SeqAt.shaped p = true) (s2 : SeqAt.shaped q = true) : fNe h x y = some (.val (.bl (!PyData.eqv p q))) := by
  unfold fNe; rw [h1, h2]; simp [s1, s2, vB]
@[simp] theorem f_eqI (x y : Int) : fEq h (.int x) (.int y) = some (.val (.bl (x == y))) := f_eqP (p := .int x) (q := .int y) rfl rfl (by rfl) (by rfl)
@[simp] theorem f_neI (x y : Int) : fNe h (.int x) (.int y) = some (.val (.bl (!(x == y)))) := f_neP (p := .int x) (q := .int y) rfl rfl (by rfl) (by rfl)
@[simp] theorem f_eqB (x y : Bool) : fEq h (.bl x) (.bl y) = some (.val (.bl (x == y))) := f_eqP (p := .bool x) (q := .bool y) rfl rfl (by rfl) (by rfl)
@[simp] theorem f_neB (x y : Bool) : fNe h (.bl x) (.bl y) = some (.val (.bl (!(x == y)))) := f_neP (p := .bool x) (q := .bool y) rfl rfl (by rfl) (by rfl)
theorem f_eqS {x y : Str} (h1 : SeqAt.shaped (.str x) = true) (h2 : SeqAt.shaped (.str y) = true) : fEq h (.str x) (.str y) = some (.val (.bl (x == y))) := f_eqP (p := .str x) (q := .str y) rfl rfl h1 h2
theorem f_neS {x y : Str} (h1 : SeqAt.shaped (.str x) = true) (h2 : SeqAt.shaped (.str y) = true) : fNe h (.str x) (.str y) = some (.val (.bl (!(x == y)))) := f_neP (p := .str x) (q := .str y) rfl rfl h1 h2
theorem lt4000 {n : Nat} (h : n ≤ 2 ^ 300) : n < 2 ^ 4000 := Nat.lt_of_le_of_lt h (Nat.pow_lt_pow_right (by decide) (by decide))
theorem sz_300 {i : Int} (h : i.natAbs ≤ 2 ^ 300) : sz i = true := sz_of (lt4000 h)
theorem sz_le {i : Int} (h : i.natAbs ≤ 1000000) : sz i = true := sz_300 (Nat.le_trans h (by decide))
@[simp] theorem f_lenT (xs : List D) : f1 fLen h [.tup xs] = some (.val (.int xs.length)) := rfl
@[simp] theorem f_lenL (xs : List D) : f1 fLen h [.lst xs] = some (.val (.int xs.length)) := rfl
@[simp] theorem f_ixT (xs : List D) (k : Int) : fIx h (.tup xs) (.int k) = (atI xs k).map Er.val := rfl
@[simp] theorem f_ixL (xs : List D) (k : Int) : fIx h (.lst xs) (.int k) = (atI xs k).map Er.val := rfl
@[simp] theorem f_ixR (n : Nat) (k : Int) : fIx h (.ref n) (.int k) = (asL h (.ref n)).bind fun xs => (atI xs k).map Er.val := rfl
@[simp] theorem f_tupL (xs : List D) : f1 fTupC h [.lst xs] = some (.val (.tup xs)) := rfl
theorem intsOf_id : ∀ ns : List Int, D.intsOf (ns.map D.int) = some ns
  | [] => rfl
  | n :: r => by simp [D.intsOf, intsOf_id r]
theorem blsOf_id : ∀ ns : List Bool, D.blsOf (ns.map D.bl) = some ns
  | [] => rfl
  | n :: r => by simp [D.blsOf, blsOf_id r]
@[simp] theorem f_sumL (ns : List Int) : f1 fSum h [.lst (ns.map D.int)] = some (.val (.int ns.sum)) := by
  show ((D.intsOf (ns.map D.int)).bind fun ns => vI ns.sum) = _
  rw [intsOf_id]; rfl
@[simp] theorem f_allL (ns : List Bool) : f1 fAll h [.lst (ns.map D.bl)] = some (.val (.bl (ns.all id))) := by
  show ((D.blsOf (ns.map D.bl)).bind fun ns => vB (ns.all id)) = _
  rw [blsOf_id]; rfl
@[simp] theorem f_max (i j : Int) : fMax h [.int i, .int j] = some (.val (.int (max i j))) := by
  show vI (if j > i then j else i) = _
  unfold vI
  congr 3
  omega
@[simp] theorem f_min (i j : Int) : fMin h [.int i, .int j] = some (.val (.int (min i j))) := by
  show vI (if j < i then j else i) = _
  unfold vI
  congr 3
  omega
end
/-! loops -/
theorem forL_inv {t : Tg} {body : S → R Fl} (I : Nat → S → Prop) : ∀ (xs : List D) (k : Nat) (s : S), I k s → (∀ i d s, xs[i]? = some d → I (k + i) s → ∃ s1 s2, storeT [] t d s = some s1 ∧ body s1 = .ok .nx s2 ∧ I (k + i + 1) s2) → ∃ s', forL t body xs s = .ok .nx s' ∧ I (k + xs.length) s'
  | [], k, s, h0, _ => ⟨s, rfl, h0⟩
  | d :: r, k, s, h0, h => by
    obtain ⟨s1, s2, e1, e2, h2⟩ := h 0 d s rfl h0
    obtain ⟨s', e, hi⟩ := forL_inv I r (k + 1) s2 h2 fun i d s hd hi => by
      have := h (i + 1) d s hd (by rw [show k + (i + 1) = k + 1 + i by omega]; exact hi)
      rwa [show k + (i + 1) + 1 = k + 1 + i + 1 by omega] at this
    refine ⟨s', ?_, by rw [List.length_cons, show k + (r.length + 1) = k + 1 + r.length by omega]; exact hi⟩
    unfold forL
    simp only [e1, e2, x_ok]
    exact e
/-- a comprehension whose item is one value -/
theorem compL_map {B vs : List Nat} {t : Tg} {tc : S → R Bool} {me : S → R Er} {s : S} (p : D → Bool) (g : D → D) : ∀ (xs acc : List D), acc.length + xs.length ≤ maxL →
    (∀ d ∈ xs, ∃ s2, storeT B t d ⟨wipeV vs s.v, s.h⟩ = some s2 ∧ tc s2 = .ok (p d) s2 ∧ (p d = true → ∃ r, me s2 = .ok r s2 ∧ r.toD = g d) ∧ restV vs s.v s2.v = s.v ∧ s2.h = s.h) →
    compL B vs t tc me xs acc s = .ok (acc ++ (xs.filter p).map g) s
  | [], acc, _, _ => by simp [compL]
  | d :: r, acc, hl, h => by
    obtain ⟨s2, e1, e2, e3, e4, e5⟩ := h d List.mem_cons_self
    have hl' : acc.length + r.length ≤ maxL := by rw [List.length_cons] at hl; omega
    have hr := fun d hd => h d (List.mem_cons_of_mem _ hd)
    have es : (⟨restV vs s.v s2.v, s2.h⟩ : S) = s := by rw [e4, e5]
    unfold compL
    rw [e1]
    simp only [e2, x_noEx, x_ok]
    cases hp : p d with
    | false =>
      rw [if_neg Bool.false_ne_true, es, compL_map p g r acc hl' hr, List.filter_cons, if_neg (by rw [hp]; exact Bool.false_ne_true)]
    | true =>
      obtain ⟨u, e6, e7⟩ := e3 hp
      rw [if_pos rfl, e6]
      simp only [x_noEx, x_ok]
      rw [if_pos (by rw [List.length_cons] at hl; omega), es, compL_map p g r (acc ++ [u.toD]) (by rw [List.length_append]; simp at hl ⊢; omega) hr, List.filter_cons, if_pos hp, e7]
      simp
theorem compL_enc {γ : Type} {B vs : List Nat} {t : Tg} {tc : S → R Bool} {me : S → R Er} {s : S} (enc : γ → D) (p : γ → Bool) (g : γ → D) : ∀ (ys : List γ) (acc : List D), acc.length + ys.length ≤ maxL →
    (∀ y ∈ ys, ∃ s2, storeT B t (enc y) ⟨wipeV vs s.v, s.h⟩ = some s2 ∧ tc s2 = .ok (p y) s2 ∧ (p y = true → ∃ r, me s2 = .ok r s2 ∧ r.toD = g y) ∧ restV vs s.v s2.v = s.v ∧ s2.h = s.h) →
    compL B vs t tc me (ys.map enc) acc s = .ok (acc ++ (ys.filter p).map g) s
  | [], acc, _, _ => by simp [compL]
  | d :: r, acc, hl, h => by
    obtain ⟨s2, e1, e2, e3, e4, e5⟩ := h d List.mem_cons_self
    have hl' : acc.length + r.length ≤ maxL := by rw [List.length_cons] at hl; omega
    have hr := fun d hd => h d (List.mem_cons_of_mem _ hd)
    have es : (⟨restV vs s.v s2.v, s2.h⟩ : S) = s := by rw [e4, e5]
    rw [List.map_cons]
    unfold compL
    rw [e1]
    simp only [e2, x_noEx, x_ok]
    cases hp : p d with
    | false =>
      rw [if_neg Bool.false_ne_true, es, compL_enc enc p g r acc hl' hr, List.filter_cons, if_neg (by rw [hp]; exact Bool.false_ne_true)]
    | true =>
      obtain ⟨u, e6, e7⟩ := e3 hp
      rw [if_pos rfl, e6]
      simp only [x_noEx, x_ok]
      rw [if_pos (by rw [List.length_cons] at hl; omega), es, compL_enc enc p g r (acc ++ [u.toD]) (by rw [List.length_append]; simp at hl ⊢; omega) hr, List.filter_cons, if_pos hp, e7]
      simp
/-- without tests -/
theorem compL_all {γ : Type} {B vs : List Nat} {t : Tg} {me : S → R Er} {s : S} (enc : γ → D) (g : γ → D) (ys : List γ) (hl : ys.length ≤ maxL)
    (h : ∀ y ∈ ys, ∃ s2, storeT B t (enc y) ⟨wipeV vs s.v, s.h⟩ = some s2 ∧ (∃ r, me s2 = .ok r s2 ∧ r.toD = g y) ∧ restV vs s.v s2.v = s.v ∧ s2.h = s.h) :
    compL B vs t eYes me (ys.map enc) [] s = .ok (ys.map g) s := by
  have := compL_enc (B := B) (vs := vs) (t := t) (tc := eYes) (me := me) (s := s) enc (fun _ => true) g ys [] (by simpa using hl) fun y hy => by
    obtain ⟨s2, h1, h2, h3⟩ := h y hy
    exact ⟨s2, h1, rfl, fun _ => h2, h3⟩
  rw [List.filter_eq_self.mpr (fun _ _ => rfl), List.nil_append] at this
  exact this
theorem cutD_1 (xs : List D) : cutD xs (some 1) none = xs.drop 1 := by
  unfold cutD
  rw [HT.sIx_none]
  have : HT.sIx xs.length 0 (some 1) = min 1 xs.length := HT.sIx_nat xs.length 0 1
  rw [this]
  cases xs with
  | nil => rfl
  | cons x r => simp
theorem zipD_map {γ : Type} (enc : γ → D) (xs ys : List γ) : zipD (xs.map enc) (ys.map enc) = (xs.zip ys).map fun p => D.tup [enc p.1, enc p.2] := by
  unfold zipD
  rw [List.zipWith_map, List.zip, List.map_zipWith]
theorem forR_inv {j : Nat} {body : S → R Fl} (I : Nat → S → Prop) (n : Nat) (s : S) (h0 : I 0 s) (step : ∀ i s, i < n → I i s → ∃ s2, body ⟨s.v.set j (.val (.int i)), s.h⟩ = .ok .nx s2 ∧ I (i + 1) s2) : ∃ s', forL (.nm j) body (rngD 0 n) s = .ok .nx s' ∧ I n s' := by
  obtain ⟨s', e, hi⟩ := forL_inv (t := .nm j) (body := body) I (rngD 0 n) 0 s h0 fun i d s hd hi => by
    unfold rngD at hd
    rw [List.getElem?_map, Option.map_eq_some_iff] at hd
    obtain ⟨m, hj, rfl⟩ := hd
    obtain ⟨hlt, hij⟩ := List.getElem?_eq_some_iff.mp hj
    rw [List.length_range] at hlt
    rw [List.getElem_range] at hij
    subst hij
    rw [Nat.zero_add] at hi ⊢
    obtain ⟨s2, e, h2⟩ := step i s hlt hi
    refine ⟨_, s2, rfl, ?_, h2⟩
    rw [show (0 + (i : Int)) = i by omega]
    exact e
  refine ⟨s', e, ?_⟩
  simpa [rngD] using hi
theorem forE_inv {γ : Type} {t : Tg} {body : S → R Fl} (enc : γ → D) (I : Nat → S → Prop) (ys : List γ) (s : S) (h0 : I 0 s) (step : ∀ i y s, ys[i]? = some y → I i s → ∃ s1 s2, storeT [] t (enc y) s = some s1 ∧ body s1 = .ok .nx s2 ∧ I (i + 1) s2) : ∃ s', forL t body (ys.map enc) s = .ok .nx s' ∧ I ys.length s' := by
  obtain ⟨s', e, hi⟩ := forL_inv (t := t) (body := body) I (ys.map enc) 0 s h0 fun i d s hd hi => by
    rw [List.getElem?_map, Option.map_eq_some_iff] at hd
    obtain ⟨y, hy, rfl⟩ := hd
    rw [Nat.zero_add] at hi ⊢
    exact step i y s hy hi
  refine ⟨s', e, ?_⟩
  simpa using hi
end MP

namespace MPLAW
open PySem PySem.Spec PyProof.Rows L2 MP
/-! the text -/
def topS (i : Nat) : Stmt := PySem.Challenge.pw_swingposts_k37_before_on_large_lines.main.body.getD i (.Pass ⟨0, 0, 0, 0⟩)
abbrev s__law_bag : Stmt := topS 38
abbrev N__law_bag : List Str := ["cell", "k"]
theorem sc__law_bag : FnScope N__law_bag ["cell", "k"] (defScope s__law_bag) := ⟨rfl, rfl, rfl, by decide +kernel, rfl, by decide +kernel, by decide +kernel⟩
def m__law_bag : S → R Fl :=
  sRet (eLst (eCons (eOpN (fMax) (eCons (eC (.int 0)) (eCons (eOp2 fSub (eVar 0) (eOp2 fPow (eC (.int 10)) (eC (.int 18)))) (eNil)))) (eCons (eOp2 fAdd (eOp2 fMod (eVar 0) (eC (.int 162259276829213363391578010288127))) (eOp2 fMul (eC (.int 6469)) (eOp2 fAdd (eVar 1) (eC (.int 1))))) (eCons (eC (.int 0)) (eNil)))))
def F__law_bag : F := runF 2 m__law_bag
abbrev s__law_cell_at : Stmt := topS 36
abbrev N__law_cell_at : List Str := ["script", "k"]
theorem sc__law_cell_at : FnScope N__law_cell_at ["script", "k"] (defScope s__law_cell_at) := ⟨rfl, rfl, rfl, by decide +kernel, rfl, by decide +kernel, by decide +kernel⟩
def m__law_cell_at : S → R Fl :=
  sSeq (sIf (eB (eOp2 fLt (eVar 1) (eOpN (f1 fLen) (eCons (eVar 0) (eNil)))))
    (sRet (eOp2 fIx (eVar 0) (eVar 1)))
    (sNext))
    (sRet (eC (.int 0)))
def F__law_cell_at : F := runF 2 m__law_cell_at
abbrev s__law_take : Stmt := topS 39
abbrev N__law_take : List Str := ["bag", "limit", "mixed", "found"]
theorem sc__law_take : FnScope N__law_take ["bag", "limit"] (defScope s__law_take) := ⟨rfl, rfl, rfl, by decide +kernel, rfl, by decide +kernel, by decide +kernel⟩
def m__law_take : S → R Fl :=
  sSeq (sIf (eB (eOp2 fGt (eOp2 fIx (eVar 0) (eC (.int 0))) (eC (.int 1))))
    (sSeq (sAsg [0, 1] 3 (eOp2 fMod (eOp2 fIx (eVar 0) (eC (.int 0))) (eVar 1)))
    (sSeq (sSetI [1] 0 (eFlat (eOp2 fDiv (eOp2 fIx (eVar 0) (eC (.int 0))) (eVar 1))) (eC (.int 0)))
    (sRet (eVar 3))))
    (sNext))
    (sSeq (sSetI [] 0 (eFlat (eOp2 fAdd (eOp2 fIx (eVar 0) (eC (.int 2))) (eC (.int 1)))) (eC (.int 2)))
    (sSeq (sAsg [0] 2 (eOp2 fMod (eOp2 fPow (eOp2 fAdd (eOp2 fIx (eVar 0) (eC (.int 1))) (eOp2 fMul (eC (.int 1300223)) (eOp2 fIx (eVar 0) (eC (.int 2))))) (eC (.int 3))) (eC (.int 162259276829213363391578010288127))))
    (sSeq (sAsg [0, 2] 2 (eOp2 fMod (eOp2 fPow (eOp2 fAdd (eVar 2) (eOp2 fMul (eC (.int 15486253)) (eOp2 fIx (eVar 0) (eC (.int 2))))) (eC (.int 5))) (eC (.int 618970019642690137449562111))))
    (sRet (eOp2 fMod (eOp2 fDiv (eVar 2) (eC (.int 1048576))) (eVar 1))))))
def F__law_take : F := runF 4 m__law_take
abbrev s__law_wide : Stmt := topS 41
abbrev N__law_wide : List Str := ["bag", "most", "k", "turn", "found", "many"]
theorem sc__law_wide : FnScope N__law_wide ["bag", "most"] (defScope s__law_wide) := ⟨rfl, rfl, rfl, by decide +kernel, rfl, by decide +kernel, by decide +kernel⟩
def l1__law_wide : S → R Fl :=
  sSeq (sAsg [0] 5 (eOp2 fAdd (eC (.int 1)) (eCall 2 (F__law_take) [] (eCons (eVar 0) (eCons (eOp2 fIx (eLst (eCons (eC (.int 1)) (eCons (eC (.int 3)) (eCons (eOp2 fPow (eC (.int 10)) (eC (.int 30))) (eNil))))) (eCall 2 (F__law_take) [] (eCons (eVar 0) (eCons (eC (.int 3)) (eNil))))) (eNil))))))
    (sExpr (eMut [2, 3, 5] 4 gApp (eCons (eTup (eCons (eOp2 fIx (eC (.str "LR")) (eOp2 fMod (eOp2 fAdd (eVar 3) (eVar 2)) (eC (.int 2)))) (eCons (eVar 5) (eNil)))) (eNil))))
def m__law_wide : S → R Fl :=
  sSeq (sPar2 3 4 (eCall 2 (F__law_take) [] (eCons (eVar 0) (eCons (eC (.int 2)) (eNil)))) (eLst (eNil)))
    (sSeq (sFor [0, 1] (iR1 (eCons (eOp2 fAdd (eC (.int 1)) (eCall 2 (F__law_take) [] (eCons (eVar 0) (eCons (eVar 1) (eNil))))) (eNil))) (.nm 2)
    (l1__law_wide))
    (sRet (eOpN (f1 fTupC) (eCons (eVar 4) (eNil)))))
def F__law_wide : F := runF 6 m__law_wide
abbrev s__law_ends : Stmt := topS 52
abbrev N__law_ends : List Str := ["line"]
theorem sc__law_ends : FnScope N__law_ends ["line"] (defScope s__law_ends) := ⟨rfl, rfl, rfl, by decide +kernel, rfl, by decide +kernel, by decide +kernel⟩
def m__law_ends : S → R Fl :=
  sRet (eTup (eCons (eOp2 fMul (eOp2 fIx (eOp2 fIx (eVar 0) (eC (.int 0))) (eC (.int 1))) (eOpN (f1 fIntC) (eCons (eOp2 fEq (eOp2 fIx (eOp2 fIx (eVar 0) (eC (.int 0))) (eC (.int 0))) (eC (.str "R"))) (eNil)))) (eCons (eOp2 fMul (eOp2 fIx (eOp2 fIx (eVar 0) (eOp1 fNeg (eC (.int 1)))) (eC (.int 1))) (eOpN (f1 fIntC) (eCons (eOp2 fEq (eOp2 fIx (eOp2 fIx (eVar 0) (eOp1 fNeg (eC (.int 1)))) (eC (.int 0))) (eC (.str "L"))) (eNil)))) (eNil))))
def F__law_ends : F := runF 1 m__law_ends
abbrev s_is_side : Stmt := topS 10
abbrev N_is_side : List Str := ["value"]
theorem sc_is_side : FnScope N_is_side ["value"] (defScope s_is_side) := ⟨rfl, rfl, rfl, by decide +kernel, rfl, by decide +kernel, by decide +kernel⟩
def m_is_side : S → R Fl :=
  sRet (eAndV (eIsi [.str] (eVar 0)) (eOp2 (fInW false) (eVar 0) (eTup (eCons (eC (.str "L")) (eCons (eC (.str "R")) (eNil))))))
def F_is_side : F := runF 1 m_is_side
abbrev s_is_integer : Stmt := topS 9
abbrev N_is_integer : List Str := ["value", "low"]
theorem sc_is_integer : FnScope N_is_integer ["value", "low"] (defScope s_is_integer) := ⟨rfl, rfl, rfl, by decide +kernel, rfl, by decide +kernel, by decide +kernel⟩
def m_is_integer : S → R Fl :=
  sRet (eAndV (eIsi [.int] (eVar 0)) (eAndV (eNotV (eIsi [.bl] (eVar 0))) (eOp2 fGe (eVar 0) (eVar 1))))
def F_is_integer : F := runF 2 m_is_integer
abbrev s_is_run : Stmt := topS 11
abbrev N_is_run : List Str := ["value"]
theorem sc_is_run : FnScope N_is_run ["value"] (defScope s_is_run) := ⟨rfl, rfl, rfl, by decide +kernel, rfl, by decide +kernel, by decide +kernel⟩
def m_is_run : S → R Fl :=
  sRet (eAndV (eIsi [.tup] (eVar 0)) (eAndV (eOp2 fEq (eOpN (f1 fLen) (eCons (eVar 0) (eNil))) (eC (.int 2))) (eAndV (eCall 1 (F_is_side) [] (eCons (eOp2 fIx (eVar 0) (eC (.int 0))) (eNil))) (eCall 2 (F_is_integer) [] (eCons (eOp2 fIx (eVar 0) (eC (.int 1))) (eCons (eC (.int 1)) (eNil)))))))
def F_is_run : F := runF 1 m_is_run
abbrev s_is_posts : Stmt := topS 12
abbrev N_is_posts : List Str := ["value", "one", "other", "run"]
theorem sc_is_posts : FnScope N_is_posts ["value"] (defScope s_is_posts) := ⟨rfl, rfl, rfl, by decide +kernel, rfl, by decide +kernel, by decide +kernel⟩
def m_is_posts : S → R Fl :=
  sSeq (sIf (eOr (eNot (eTru (eIsi [.tup] (eVar 0)))) (eOr (eB (eOp2 fEq (eOpN (f1 fLen) (eCons (eVar 0) (eNil))) (eC (.int 0)))) (eNot (eTru (eOpN (f1 fAll) (eCons (eComp [0, 3] [3] (iAny (eVar 0)) (.nm 3) (eYes) (eCall 1 (F_is_run) [] (eCons (eVar 3) (eNil)))) (eNil)))))))
    (sRet (eC (.bl false)))
    (sNext))
    (sRet (eOpN (f1 fAll) (eCons (eComp [0, 1, 2] [1, 2] (iZipM (eCons (eVar 0) (eCons (eSl (eVar 0) (eP (eC (.int 1))) (eNoP)) (eNil)))) (.tp [1, 2]) (eYes) (eOp2 fNe (eOp2 fIx (eVar 1) (eC (.int 0))) (eOp2 fIx (eVar 2) (eC (.int 0))))) (eNil))))
def F_is_posts : F := runF 4 m_is_posts
abbrev s_check_posts : Stmt := topS 13
abbrev N_check_posts : List Str := ["posts"]
theorem sc_check_posts : FnScope N_check_posts ["posts"] (defScope s_check_posts) := ⟨rfl, rfl, rfl, by decide +kernel, rfl, by decide +kernel, by decide +kernel⟩
def m_check_posts : S → R Fl :=
  sIf (eNot (eTru (eCall 1 (F_is_posts) [] (eCons (eVar 0) (eNil)))))
    (sNever)
    (sNext)
def F_check_posts : F := runF 1 m_check_posts
abbrev s_count_posts : Stmt := topS 14
abbrev N_count_posts : List Str := ["posts", "side", "count"]
theorem sc_count_posts : FnScope N_count_posts ["posts"] (defScope s_count_posts) := ⟨rfl, rfl, rfl, by decide +kernel, rfl, by decide +kernel, by decide +kernel⟩
def m_count_posts : S → R Fl :=
  sRet (eOpN (f1 fSum) (eCons (eComp [0, 2] [1, 2] (iAny (eVar 0)) (.tp [1, 2]) (eYes) (eVar 2)) (eNil)))
def F_count_posts : F := runF 3 m_count_posts
abbrev s_is_place : Stmt := topS 15
abbrev N_is_place : List Str := ["posts", "value"]
theorem sc_is_place : FnScope N_is_place ["posts", "value"] (defScope s_is_place) := ⟨rfl, rfl, rfl, by decide +kernel, rfl, by decide +kernel, by decide +kernel⟩
def m_is_place : S → R Fl :=
  sRet (eAndV (eCall 2 (F_is_integer) [] (eCons (eVar 1) (eCons (eC (.int 1)) (eNil)))) (eOp2 fLe (eVar 1) (eCall 1 (F_count_posts) [] (eCons (eVar 0) (eNil)))))
def F_is_place : F := runF 2 m_is_place
abbrev s_check_place : Stmt := topS 16
abbrev N_check_place : List Str := ["posts", "place"]
theorem sc_check_place : FnScope N_check_place ["posts", "place"] (defScope s_check_place) := ⟨rfl, rfl, rfl, by decide +kernel, rfl, by decide +kernel, by decide +kernel⟩
def m_check_place : S → R Fl :=
  sIf (eNot (eTru (eCall 2 (F_is_place) [] (eCons (eVar 0) (eCons (eVar 1) (eNil))))))
    (sNever)
    (sNext)
def F_check_place : F := runF 2 m_check_place
abbrev s_check_limit : Stmt := topS 28
abbrev N_check_limit : List Str := ["posts"]
theorem sc_check_limit : FnScope N_check_limit ["posts"] (defScope s_check_limit) := ⟨rfl, rfl, rfl, by decide +kernel, rfl, by decide +kernel, by decide +kernel⟩
def m_check_limit : S → R Fl :=
  sIf (eB (eOp2 fGt (eCall 1 (F_count_posts) [] (eCons (eVar 0) (eNil))) (eC (.int 200))))
    (sRaiseL "TooLarge" "limit" (eC (.int 200)))
    (sNext)
def F_check_limit : F := runF 1 m_check_limit
abbrev s_borders : Stmt := topS 21
abbrev N_borders : List Str := ["goal"]
theorem sc_borders : FnScope N_borders ["goal"] (defScope s_borders) := ⟨rfl, rfl, rfl, by decide +kernel, rfl, by decide +kernel, by decide +kernel⟩
def m_borders : S → R Fl :=
  sRet (eTup (eCons (eIf (eB (eOp2 fEq (eOp2 fIx (eOp2 fIx (eVar 0) (eC (.int 0))) (eC (.int 0))) (eC (.str "R")))) (eOp2 fIx (eOp2 fIx (eVar 0) (eC (.int 0))) (eC (.int 1))) (eC (.int 0))) (eCons (eIf (eB (eOp2 fEq (eOp2 fIx (eOp2 fIx (eVar 0) (eOp1 fNeg (eC (.int 1)))) (eC (.int 0))) (eC (.str "L")))) (eOp2 fIx (eOp2 fIx (eVar 0) (eOp1 fNeg (eC (.int 1)))) (eC (.int 1))) (eC (.int 0))) (eNil))))
def F_borders : F := runF 1 m_borders
abbrev s_ways : Stmt := topS 26
abbrev N_ways : List Str := ["size", "chosen", "found", "number"]
theorem sc_ways : FnScope N_ways ["size", "chosen"] (defScope s_ways) := ⟨rfl, rfl, rfl, by decide +kernel, rfl, by decide +kernel, by decide +kernel⟩
def l1_ways : S → R Fl :=
  sAsg [0, 2, 3] 2 (eOp2 fDiv (eOp2 fMul (eVar 2) (eOp2 fSub (eVar 0) (eVar 3))) (eOp2 fAdd (eVar 3) (eC (.int 1))))
def m_ways : S → R Fl :=
  sSeq (sIf (eB (eOp2 fGt (eVar 1) (eVar 0)))
    (sRet (eC (.int 0)))
    (sNext))
    (sSeq (sAsg [] 2 (eC (.int 1)))
    (sSeq (sFor [1] (iR1 (eCons (eVar 1) (eNil))) (.nm 3)
    (l1_ways))
    (sRet (eVar 2))))
def F_ways : F := runF 4 m_ways
abbrev s_numbers_before : Stmt := topS 29
abbrev N_numbers_before : List Str := ["posts", "place", "low", "high"]
theorem sc_numbers_before : FnScope N_numbers_before ["posts", "place"] (defScope s_numbers_before) := ⟨rfl, rfl, rfl, by decide +kernel, rfl, by decide +kernel, by decide +kernel⟩
def m_numbers_before : S → R Fl :=
  sSeq (sTgt [0] (.tp [2, 3]) (eCall 1 (F_borders) [] (eCons (eVar 0) (eNil))))
    (sRet (eTup (eCons (eCall 2 (F_ways) [] (eCons (eVar 2) (eCons (eVar 1) (eNil)))) (eCons (eCall 2 (F_ways) [] (eCons (eVar 3) (eCons (eOp2 fSub (eOp2 fAdd (eCall 1 (F_count_posts) [] (eCons (eVar 0) (eNil))) (eC (.int 1))) (eVar 1)) (eNil)))) (eNil)))))
def F_numbers_before : F := runF 4 m_numbers_before
abbrev s_count_before : Stmt := topS 32
abbrev N_count_before : List Str := ["posts", "place"]
theorem sc_count_before : FnScope N_count_before ["posts", "place"] (defScope s_count_before) := ⟨rfl, rfl, rfl, by decide +kernel, rfl, by decide +kernel, by decide +kernel⟩
def m_count_before : S → R Fl :=
  sSeq (sExpr (eCall 1 (F_check_posts) [] (eCons (eVar 0) (eNil))))
    (sSeq (sExpr (eCall 2 (F_check_place) [] (eCons (eVar 0) (eCons (eVar 1) (eNil)))))
    (sSeq (sExpr (eCall 1 (F_check_limit) [] (eCons (eVar 0) (eNil))))
    (sRet (eOpN (f1 fSum) (eCons (eCall 2 (F_numbers_before) [] (eCons (eVar 0) (eCons (eVar 1) (eNil)))) (eNil))))))
def F_count_before : F := runF 2 m_count_before
abbrev s_doubled : Stmt := topS 27
abbrev N_doubled : List Str := ["times", "found", "turn"]
theorem sc_doubled : FnScope N_doubled ["times"] (defScope s_doubled) := ⟨rfl, rfl, rfl, by decide +kernel, rfl, by decide +kernel, by decide +kernel⟩
def l1_doubled : S → R Fl :=
  sAug fAugAdd 1 (eVar 1)
def m_doubled : S → R Fl :=
  sSeq (sAsg [] 1 (eC (.int 1)))
    (sSeq (sFor [0] (iR1 (eCons (eVar 0) (eNil))) (.nm 2)
    (l1_doubled))
    (sRet (eVar 1)))
def F_doubled : F := runF 3 m_doubled
abbrev s_count_all_before : Stmt := topS 33
abbrev N_count_all_before : List Str := ["posts", "low", "high"]
theorem sc_count_all_before : FnScope N_count_all_before ["posts"] (defScope s_count_all_before) := ⟨rfl, rfl, rfl, by decide +kernel, rfl, by decide +kernel, by decide +kernel⟩
def m_count_all_before : S → R Fl :=
  sSeq (sExpr (eCall 1 (F_check_posts) [] (eCons (eVar 0) (eNil))))
    (sSeq (sExpr (eCall 1 (F_check_limit) [] (eCons (eVar 0) (eNil))))
    (sSeq (sTgt [0] (.tp [1, 2]) (eCall 1 (F_borders) [] (eCons (eVar 0) (eNil))))
    (sRet (eOp2 fSub (eOp2 fAdd (eCall 1 (F_doubled) [] (eCons (eVar 1) (eNil))) (eCall 1 (F_doubled) [] (eCons (eVar 2) (eNil)))) (eC (.int 2))))))
def F_count_all_before : F := runF 3 m_count_all_before
abbrev s_check_index : Stmt := topS 23
abbrev N_check_index : List Str := ["index"]
theorem sc_check_index : FnScope N_check_index ["index"] (defScope s_check_index) := ⟨rfl, rfl, rfl, by decide +kernel, rfl, by decide +kernel, by decide +kernel⟩
def m_check_index : S → R Fl :=
  sIf (eNot (eTru (eCall 2 (F_is_integer) [] (eCons (eVar 0) (eCons (eC (.int 0)) (eNil))))))
    (sNever)
    (sNext)
def F_check_index : F := runF 1 m_check_index
abbrev s_joined : Stmt := topS 17
abbrev N_joined : List Str := ["runs", "found", "side", "count"]
theorem sc_joined : FnScope N_joined ["runs"] (defScope s_joined) := ⟨rfl, rfl, rfl, by decide +kernel, rfl, by decide +kernel, by decide +kernel⟩
def l1_joined : S → R Fl :=
  sIf (eAnd (eB (eOp2 fGt (eVar 3) (eC (.int 0)))) (eAnd (eB (eOp2 fNe (eVar 1) (eLst (eNil)))) (eB (eOp2 fEq (eOp2 fIx (eOp2 fIx (eVar 1) (eOp1 fNeg (eC (.int 1)))) (eC (.int 0))) (eVar 2)))))
    (sSetI [2, 3] 1 (eFlat (eTup (eCons (eVar 2) (eCons (eOp2 fAdd (eOp2 fIx (eOp2 fIx (eVar 1) (eOp1 fNeg (eC (.int 1)))) (eC (.int 1))) (eVar 3)) (eNil))))) (eOp1 fNeg (eC (.int 1))))
    (sIf (eB (eOp2 fGt (eVar 3) (eC (.int 0))))
    (sExpr (eMut [2, 3] 1 gApp (eCons (eTup (eCons (eVar 2) (eCons (eVar 3) (eNil)))) (eNil))))
    (sNext))
def m_joined : S → R Fl :=
  sSeq (sOwn [] 1 (eLst (eNil)))
    (sSeq (sFor [0] (iAny (eVar 0)) (.tp [2, 3])
    (l1_joined))
    (sRet (eOpN (f1 fTupC) (eCons (eVar 1) (eNil)))))
def F_joined : F := runF 4 m_joined
abbrev s_nth_sides : Stmt := topS 30
abbrev N_nth_sides : List Str := ["size", "lefts", "index", "number", "found", "rest", "first"]
theorem sc_nth_sides : FnScope N_nth_sides ["size", "lefts", "index"] (defScope s_nth_sides) := ⟨rfl, rfl, rfl, by decide +kernel, rfl, by decide +kernel, by decide +kernel⟩
def l1_nth_sides : S → R Fl :=
  sSeq (sAsg [0, 1, 3] 6 (eIf (eB (eOp2 fGt (eVar 1) (eC (.int 0)))) (eCall 2 (F_ways) [] (eCons (eOp2 fSub (eOp2 fSub (eVar 0) (eVar 3)) (eC (.int 1))) (eCons (eOp2 fSub (eVar 1) (eC (.int 1))) (eNil)))) (eC (.int 0))))
    (sIf (eB (eOp2 fLt (eVar 5) (eVar 6)))
    (sSeq (sAug fAugAdd 4 (eC (.str "L")))
    (sAug fSub 1 (eC (.int 1))))
    (sSeq (sAug fAugAdd 4 (eC (.str "R")))
    (sAug fSub 5 (eVar 6))))
def m_nth_sides : S → R Fl :=
  sSeq (sPar2 4 5 (eC (.str "")) (eVar 2))
    (sSeq (sFor [0] (iR1 (eCons (eVar 0) (eNil))) (.nm 3)
    (l1_nth_sides))
    (sRet (eVar 4)))
def F_nth_sides : F := runF 7 m_nth_sides
abbrev s_nth_before : Stmt := topS 34
abbrev N_nth_before : List Str := ["posts", "place", "index", "lefts", "left", "right", "low", "high", "side"]
theorem sc_nth_before : FnScope N_nth_before ["posts", "place", "index"] (defScope s_nth_before) := ⟨rfl, rfl, rfl, by decide +kernel, rfl, by decide +kernel, by decide +kernel⟩
def m_nth_before : S → R Fl :=
  sSeq (sExpr (eCall 1 (F_check_posts) [] (eCons (eVar 0) (eNil))))
    (sSeq (sExpr (eCall 2 (F_check_place) [] (eCons (eVar 0) (eCons (eVar 1) (eNil)))))
    (sSeq (sExpr (eCall 1 (F_check_index) [] (eCons (eVar 2) (eNil))))
    (sSeq (sExpr (eCall 1 (F_check_limit) [] (eCons (eVar 0) (eNil))))
    (sSeq (sTgt [0, 1] (.tp [4, 5]) (eCall 2 (F_numbers_before) [] (eCons (eVar 0) (eCons (eVar 1) (eNil)))))
    (sSeq (sIf (eB (eOp2 fGe (eVar 2) (eOp2 fAdd (eVar 4) (eVar 5))))
    (sNever)
    (sNext))
    (sSeq (sTgt [0] (.tp [6, 7]) (eCall 1 (F_borders) [] (eCons (eVar 0) (eNil))))
    (sSeq (sIf (eB (eOp2 fLt (eVar 2) (eVar 4)))
    (sRet (eCall 1 (F_joined) [] (eCons (eOp2 fAdd (eComp [0, 1, 2, 6, 8] [8] (iAny (eCall 3 (F_nth_sides) [] (eCons (eVar 6) (eCons (eVar 1) (eCons (eVar 2) (eNil)))))) (.nm 8) (eYes) (eTup (eCons (eVar 8) (eCons (eC (.int 1)) (eNil))))) (eOpN (f1 fListC) (eCons (eSl (eVar 0) (eP (eC (.int 1))) (eNoP)) (eNil)))) (eNil))))
    (sNext))
    (sSeq (sAsg [0, 1, 7] 3 (eOp2 fSub (eVar 7) (eOp2 fSub (eOp2 fAdd (eCall 1 (F_count_posts) [] (eCons (eVar 0) (eNil))) (eC (.int 1))) (eVar 1))))
    (sRet (eCall 1 (F_joined) [] (eCons (eOp2 fAdd (eOpN (f1 fListC) (eCons (eSl (eVar 0) (eNoP) (eP (eOp1 fNeg (eC (.int 1))))) (eNil))) (eComp [0, 2, 3, 4, 7, 8] [8] (iAny (eCall 3 (F_nth_sides) [] (eCons (eVar 7) (eCons (eVar 3) (eCons (eOp2 fSub (eVar 2) (eVar 4)) (eNil)))))) (.nm 8) (eYes) (eTup (eCons (eVar 8) (eCons (eC (.int 1)) (eNil)))))) (eNil))))))))))))
def F_nth_before : F := runF 9 m_nth_before
abbrev s__law_limit : Stmt := topS 51
abbrev N__law_limit : List Str := ["door", "line", "start", "e"]
theorem sc__law_limit : FnScope N__law_limit ["door", "line", "start"] (defScope s__law_limit) := ⟨rfl, rfl, rfl, by decide +kernel, rfl, by decide +kernel, by decide +kernel⟩
def m__law_limit : S → R Fl :=
  sSeq (sTryF 3 "TooLarge" [] "limit" (sIf (eB (eOp2 fEq (eVar 0) (eC (.int 0))))
    (sExpr (eCall 2 (F_count_before) [] (eCons (eVar 1) (eCons (eVar 2) (eNil)))))
    (sIf (eB (eOp2 fEq (eVar 0) (eC (.int 1))))
    (sExpr (eCall 1 (F_count_all_before) [] (eCons (eVar 1) (eNil))))
    (sExpr (eCall 3 (F_nth_before) [] (eCons (eVar 1) (eCons (eVar 2) (eCons (eC (.int 0)) (eNil)))))))))
    (sRet (eC (.int 0)))
def F__law_limit : F := runF 4 m__law_limit
abbrev s__law_size : Stmt := topS 42
abbrev N__law_size : List Str := ["line", "side", "many"]
theorem sc__law_size : FnScope N__law_size ["line"] (defScope s__law_size) := ⟨rfl, rfl, rfl, by decide +kernel, rfl, by decide +kernel, by decide +kernel⟩
def m__law_size : S → R Fl :=
  sRet (eOpN (f1 fSum) (eCons (eComp [0, 2] [1, 2] (iAny (eVar 0)) (.tp [1, 2]) (eYes) (eVar 2)) (eNil)))
def F__law_size : F := runF 3 m__law_size
abbrev s__law_start : Stmt := topS 43
abbrev N__law_start : List Str := ["bag", "line", "some", "size", "low", "side", "many"]
theorem sc__law_start : FnScope N__law_start ["bag", "line"] (defScope s__law_start) := ⟨rfl, rfl, rfl, by decide +kernel, rfl, by decide +kernel, by decide +kernel⟩
def l1__law_start : S → R Fl :=
  sAsg [4, 6] 4 (eOp2 fAdd (eVar 4) (eVar 6))
def m__law_start : S → R Fl :=
  sSeq (sPar2 3 4 (eCall 1 (F__law_size) [] (eCons (eVar 1) (eNil))) (eC (.int 0)))
    (sSeq (sFor [0, 1] (iAny (eSl (eVar 1) (eNoP) (eP (eCall 2 (F__law_take) [] (eCons (eVar 0) (eCons (eOp2 fAdd (eOpN (f1 fLen) (eCons (eVar 1) (eNil))) (eC (.int 1))) (eNil))))))) (.tp [5, 6])
    (l1__law_start))
    (sSeq (sAsg [0, 3, 4] 2 (eLst (eCons (eVar 4) (eCons (eOp2 fAdd (eVar 4) (eC (.int 1))) (eCons (eOp2 fSub (eVar 4) (eC (.int 1))) (eCons (eVar 3) (eCons (eC (.int 1)) (eCons (eOp2 fAdd (eC (.int 1)) (eCall 2 (F__law_take) [] (eCons (eVar 0) (eCons (eVar 3) (eNil))))) (eNil)))))))))
    (sRet (eOpN (fMax) (eCons (eC (.int 1)) (eCons (eOpN (fMin) (eCons (eVar 3) (eCons (eOp2 fIx (eVar 2) (eCall 2 (F__law_take) [] (eCons (eVar 0) (eCons (eC (.int 6)) (eNil))))) (eNil)))) (eNil)))))))
def F__law_start : F := runF 7 m__law_start
abbrev s__law_rights : Stmt := topS 44
abbrev N__law_rights : List Str := ["line", "side", "many"]
theorem sc__law_rights : FnScope N__law_rights ["line"] (defScope s__law_rights) := ⟨rfl, rfl, rfl, by decide +kernel, rfl, by decide +kernel, by decide +kernel⟩
def m__law_rights : S → R Fl :=
  sRet (eOpN (f1 fSum) (eCons (eComp [0, 1, 2] [1, 2] (iAny (eVar 0)) (.tp [1, 2]) (eB (eOp2 fEq (eVar 1) (eC (.str "R")))) (eVar 2)) (eNil)))
def F__law_rights : F := runF 3 m__law_rights
abbrev s__law_nth_left : Stmt := topS 48
abbrev N__law_nth_left : List Str := ["line", "number", "low", "rest", "side", "many"]
theorem sc__law_nth_left : FnScope N__law_nth_left ["line", "number"] (defScope s__law_nth_left) := ⟨rfl, rfl, rfl, by decide +kernel, rfl, by decide +kernel, by decide +kernel⟩
def l1__law_nth_left : S → R Fl :=
  sSeq (sIf (eAnd (eB (eOp2 fEq (eVar 4) (eC (.str "L")))) (eB (eCh fLt fLe (eC (.int 0)) (eVar 3) (eVar 5))))
    (sRet (eOp2 fAdd (eVar 2) (eVar 3)))
    (sNext))
    (sSeq (sAsg [3, 4, 5] 3 (eOp2 fSub (eVar 3) (eOp2 fMul (eVar 5) (eOpN (f1 fIntC) (eCons (eOp2 fEq (eVar 4) (eC (.str "L"))) (eNil))))))
    (sAsg [2, 5] 2 (eOp2 fAdd (eVar 2) (eVar 5))))
def m__law_nth_left : S → R Fl :=
  sSeq (sPar2 2 3 (eC (.int 0)) (eVar 1))
    (sSeq (sFor [0] (iAny (eVar 0)) (.tp [4, 5])
    (l1__law_nth_left))
    (sRet (eC (.int 0))))
def F__law_nth_left : F := runF 6 m__law_nth_left
abbrev s__law_joined : Stmt := topS 40
abbrev N__law_joined : List Str := ["runs", "found", "side", "many"]
theorem sc__law_joined : FnScope N__law_joined ["runs"] (defScope s__law_joined) := ⟨rfl, rfl, rfl, by decide +kernel, rfl, by decide +kernel, by decide +kernel⟩
def l1__law_joined : S → R Fl :=
  sIf (eAnd (eB (eOp2 fGt (eVar 3) (eC (.int 0)))) (eAnd (eB (eOp2 fNe (eVar 1) (eLst (eNil)))) (eB (eOp2 fEq (eOp2 fIx (eOp2 fIx (eVar 1) (eOp1 fNeg (eC (.int 1)))) (eC (.int 0))) (eVar 2)))))
    (sSetI [2, 3] 1 (eFlat (eTup (eCons (eVar 2) (eCons (eOp2 fAdd (eOp2 fIx (eOp2 fIx (eVar 1) (eOp1 fNeg (eC (.int 1)))) (eC (.int 1))) (eVar 3)) (eNil))))) (eOp1 fNeg (eC (.int 1))))
    (sIf (eB (eOp2 fGt (eVar 3) (eC (.int 0))))
    (sExpr (eMut [2, 3] 1 gApp (eCons (eTup (eCons (eVar 2) (eCons (eVar 3) (eNil)))) (eNil))))
    (sNext))
def m__law_joined : S → R Fl :=
  sSeq (sOwn [] 1 (eLst (eNil)))
    (sSeq (sFor [0] (iAny (eVar 0)) (.tp [2, 3])
    (l1__law_joined))
    (sRet (eOpN (f1 fTupC) (eCons (eVar 1) (eNil)))))
def F__law_joined : F := runF 4 m__law_joined
abbrev s__law_settled : Stmt := topS 49
abbrev N__law_settled : List Str := ["size", "rights"]
theorem sc__law_settled : FnScope N__law_settled ["size", "rights"] (defScope s__law_settled) := ⟨rfl, rfl, rfl, by decide +kernel, rfl, by decide +kernel, by decide +kernel⟩
def m__law_settled : S → R Fl :=
  sRet (eCall 1 (F__law_joined) [] (eCons (eLst (eCons (eTup (eCons (eC (.str "R")) (eCons (eVar 1) (eNil)))) (eCons (eTup (eCons (eC (.str "L")) (eCons (eOp2 fSub (eVar 0) (eVar 1)) (eNil)))) (eNil)))) (eNil)))
def F__law_settled : F := runF 2 m__law_settled
abbrev s__law_mirror : Stmt := topS 45
abbrev N__law_mirror : List Str := ["line", "side", "many"]
theorem sc__law_mirror : FnScope N__law_mirror ["line"] (defScope s__law_mirror) := ⟨rfl, rfl, rfl, by decide +kernel, rfl, by decide +kernel, by decide +kernel⟩
def m__law_mirror : S → R Fl :=
  sRet (eOpN (f1 fTupC) (eCons (eComp [0, 1, 2] [1, 2] (iAny (eOp1 fRev (eVar 0))) (.tp [1, 2]) (eYes) (eTup (eCons (eSel "L" "R" (.str "R") (.str "L") (eVar 1)) (eCons (eVar 2) (eNil))))) (eNil)))
def F__law_mirror : F := runF 3 m__law_mirror
abbrev s__law_first : Stmt := topS 46
abbrev N__law_first : List Str := ["line", "number", "found", "rest", "side", "many", "some"]
theorem sc__law_first : FnScope N__law_first ["line", "number"] (defScope s__law_first) := ⟨rfl, rfl, rfl, by decide +kernel, rfl, by decide +kernel, by decide +kernel⟩
def l1__law_first : S → R Fl :=
  sSeq (sAsg [3, 4, 5] 6 (eIf (eB (eOp2 fEq (eVar 4) (eC (.str "L")))) (eOpN (fMin) (eCons (eVar 3) (eCons (eVar 5) (eNil)))) (eC (.int 0))))
    (sSeq (sAsg [3, 6] 3 (eOp2 fSub (eVar 3) (eVar 6)))
    (sExpr (eMut [4, 5, 6] 2 gExt (eCons (eLst (eCons (eTup (eCons (eC (.str "R")) (eCons (eVar 6) (eNil)))) (eCons (eTup (eCons (eVar 4) (eCons (eOp2 fSub (eVar 5) (eVar 6)) (eNil)))) (eNil)))) (eNil)))))
def m__law_first : S → R Fl :=
  sSeq (sPar2 2 3 (eLst (eNil)) (eVar 1))
    (sSeq (sFor [0] (iAny (eVar 0)) (.tp [4, 5])
    (l1__law_first))
    (sRet (eCall 1 (F__law_joined) [] (eCons (eVar 2) (eNil)))))
def F__law_first : F := runF 7 m__law_first
abbrev s__law_last : Stmt := topS 47
abbrev N__law_last : List Str := ["line", "number"]
theorem sc__law_last : FnScope N__law_last ["line", "number"] (defScope s__law_last) := ⟨rfl, rfl, rfl, by decide +kernel, rfl, by decide +kernel, by decide +kernel⟩
def m__law_last : S → R Fl :=
  sRet (eCall 1 (F__law_mirror) [] (eCons (eCall 2 (F__law_first) [] (eCons (eCall 1 (F__law_mirror) [] (eCons (eVar 0) (eNil))) (eCons (eVar 1) (eNil)))) (eNil)))
def F__law_last : F := runF 2 m__law_last
abbrev s__law_block : Stmt := topS 50
abbrev N__law_block : List Str := ["line", "start", "many", "gone", "up", "down", "size", "rights", "low", "high"]
theorem sc__law_block : FnScope N__law_block ["line", "start", "many"] (defScope s__law_block) := ⟨rfl, rfl, rfl, by decide +kernel, rfl, by decide +kernel, by decide +kernel⟩
def m__law_block : S → R Fl :=
  sSeq (sPar2 6 7 (eCall 1 (F__law_size) [] (eCons (eVar 0) (eNil))) (eCall 1 (F__law_rights) [] (eCons (eVar 0) (eNil))))
    (sSeq (sAsg [1, 2, 6, 7] 3 (eOp2 fDiv (eOp2 fAdd (eVar 7) (eOp2 fMul (eVar 1) (eVar 2))) (eOp2 fAdd (eVar 6) (eC (.int 1)))))
    (sSeq (sAsg [1, 2, 3] 4 (eOp2 fMul (eVar 1) (eOp2 fSub (eVar 2) (eVar 3))))
    (sSeq (sAsg [1, 3, 6] 5 (eOp2 fMul (eOp2 fSub (eOp2 fAdd (eVar 6) (eC (.int 1))) (eVar 1)) (eVar 3)))
    (sSeq (sIf (eAnd (eB (eOp2 fLe (eVar 4) (eOp2 fSub (eVar 6) (eVar 7)))) (eB (eOp2 fLe (eVar 5) (eVar 7))))
    (sSeq (sAsg [0, 4] 8 (eCall 2 (F__law_nth_left) [] (eCons (eVar 0) (eCons (eVar 4) (eNil)))))
    (sSeq (sAsg [0, 5, 6] 9 (eOp2 fSub (eOp2 fAdd (eVar 6) (eC (.int 1))) (eCall 2 (F__law_nth_left) [] (eCons (eCall 1 (F__law_mirror) [] (eCons (eVar 0) (eNil))) (eCons (eVar 5) (eNil))))))
    (sIf (eB (eOp2 fLt (eVar 8) (eVar 9)))
    (sRet (eTup (eCons (eCall 2 (F__law_first) [] (eCons (eCall 2 (F__law_last) [] (eCons (eVar 0) (eCons (eVar 5) (eNil)))) (eCons (eVar 4) (eNil)))) (eCons (eOp2 fSub (eVar 2) (eVar 3)) (eCons (eVar 3) (eNil))))))
    (sNext))))
    (sNext))
    (sRet (eTup (eCons (eCall 2 (F__law_settled) [] (eCons (eVar 6) (eCons (eOp2 fMod (eOp2 fAdd (eVar 7) (eOp2 fMul (eVar 1) (eVar 2))) (eOp2 fAdd (eVar 6) (eC (.int 1)))) (eNil)))) (eCons (eOp2 fSub (eVar 2) (eVar 3)) (eCons (eVar 3) (eNil))))))))))
def F__law_block : F := runF 10 m__law_block
abbrev s_can_be_before : Stmt := topS 31
abbrev N_can_be_before : List Str := ["posts", "place", "low", "high"]
theorem sc_can_be_before : FnScope N_can_be_before ["posts", "place"] (defScope s_can_be_before) := ⟨rfl, rfl, rfl, by decide +kernel, rfl, by decide +kernel, by decide +kernel⟩
def m_can_be_before : S → R Fl :=
  sSeq (sExpr (eCall 1 (F_check_posts) [] (eCons (eVar 0) (eNil))))
    (sSeq (sExpr (eCall 2 (F_check_place) [] (eCons (eVar 0) (eCons (eVar 1) (eNil)))))
    (sSeq (sTgt [0] (.tp [2, 3]) (eCall 1 (F_borders) [] (eCons (eVar 0) (eNil))))
    (sRet (eOrV (eOp2 fLe (eVar 1) (eVar 2)) (eOp2 fLe (eOp2 fSub (eOp2 fAdd (eCall 1 (F_count_posts) [] (eCons (eVar 0) (eNil))) (eC (.int 1))) (eVar 1)) (eVar 3))))))
def F_can_be_before : F := runF 4 m_can_be_before
abbrev s__law_same : Stmt := topS 37
abbrev N__law_same : List Str := ["found", "due", "k"]
theorem sc__law_same : FnScope N__law_same ["found", "due"] (defScope s__law_same) := ⟨rfl, rfl, rfl, by decide +kernel, rfl, by decide +kernel, by decide +kernel⟩
def mr__law_same (fn : F) : S → R Fl := sSeq (sIf (eTru (eIsi [.lst, .tup] (eVar 1)))
    (sSeq (sIf (eOr (eB (eOp2 fNe (eIsi [.lst] (eVar 0)) (eIsi [.lst] (eVar 1)))) (eNot (eTru (eIsi [.lst, .tup] (eVar 0)))))
    (sRet (eC (.bl false)))
    (sNext))
    (sSeq (sIf (eB (eOp2 fNe (eOpN (f1 fLen) (eCons (eVar 0) (eNil))) (eOpN (f1 fLen) (eCons (eVar 1) (eNil)))))
    (sRet (eC (.bl false)))
    (sNext))
    (sRet (eOpN (f1 fAll) (eCons (eComp [0, 1, 2] [2] (iR1 (eCons (eOpN (f1 fLen) (eCons (eVar 1) (eNil))) (eNil))) (.nm 2) (eYes) (eCall 2 (fn) [] (eCons (eOp2 fIx (eVar 0) (eVar 2)) (eCons (eOp2 fIx (eVar 1) (eVar 2)) (eNil))))) (eNil))))))
    (sNext))
    (sSeq (sIf (eOr (eB (eOp2 fIs (eVar 1) (eC .non))) (eB (eOp2 fIs (eVar 0) (eC .non))))
    (sRet (eAndV (eOp2 fIs (eVar 1) (eC .non)) (eOp2 fIs (eVar 0) (eC .non))))
    (sNext))
    (sSeq (sIf (eOr (eTru (eIsi [.bl] (eVar 1))) (eTru (eIsi [.bl] (eVar 0))))
    (sRet (eAndV (eIsi [.bl] (eVar 1)) (eAndV (eIsi [.bl] (eVar 0)) (eOp2 fEq (eVar 0) (eVar 1)))))
    (sNext))
    (sRet (eOp2 fEq (eVar 0) (eVar 1)))))
def Fr__law_same : Nat → F
  | 0 => fun _ _ => .bad
  | n + 1 => runF 3 (mr__law_same (Fr__law_same n))
def F__law_same : F := Fr__law_same 6
abbrev s_law : Stmt := topS 53
abbrev N_law : List Str := ["script", "k", "bag", "turn", "edge", "line", "lap", "spots", "spot", "due", "start", "size", "low", "high", "wanted", "told", "door"]
theorem sc_law : FnScope N_law ["script"] (defScope s_law) := ⟨rfl, rfl, rfl, by decide +kernel, rfl, by decide +kernel, by decide +kernel⟩
def l1_law : S → R Fl :=
  sSeq (sAsg [8, 11, 12, 13] 14 (eOrV (eOp2 fLe (eVar 8) (eVar 12)) (eOp2 fLe (eOp2 fSub (eOp2 fAdd (eVar 11) (eC (.int 1))) (eVar 8)) (eVar 13))))
    (sSeq (sAsg [5, 8] 15 (eLst (eCons (eCall 2 (F_can_be_before) [] (eCons (eVar 5) (eCons (eVar 8) (eNil)))) (eCons (eCallK 2 0 2 (F_can_be_before) [1, 0] (eNil) (eCons (eVar 8) (eCons (eVar 5) (eNil)))) (eNil)))))
    (sIf (eNot (eTru (eCall 2 (F__law_same) [] (eCons (eVar 15) (eCons (eLst (eCons (eVar 14) (eCons (eVar 14) (eNil)))) (eNil))))))
    (sRet (eC (.bl false)))
    (sNext)))
def l2_law : S → R Fl :=
  sSeq (sTgt [2, 5] (.tp [10, 11]) (eTup (eCons (eCall 2 (F__law_start) [] (eCons (eVar 2) (eCons (eVar 5) (eNil)))) (eCons (eCall 1 (F__law_size) [] (eCons (eVar 5) (eNil))) (eNil)))))
    (sSeq (sTgt [5] (.tp [12, 13]) (eCall 1 (F__law_ends) [] (eCons (eVar 5) (eNil))))
    (sSeq (sAsg [10, 11, 12, 13] 7 (eLst (eCons (eVar 10) (eCons (eOpN (fMax) (eCons (eC (.int 1)) (eCons (eVar 12) (eNil)))) (eCons (eOpN (fMin) (eCons (eVar 11) (eCons (eOp2 fAdd (eVar 12) (eC (.int 1))) (eNil)))) (eCons (eOpN (fMin) (eCons (eVar 11) (eCons (eOp2 fSub (eOp2 fAdd (eVar 11) (eC (.int 1))) (eVar 13)) (eNil)))) (eCons (eOpN (fMax) (eCons (eC (.int 1)) (eCons (eOp2 fSub (eVar 11) (eVar 13)) (eNil)))) (eNil))))))))
    (sSeq (sFor [7] (iAny (eVar 7)) (.nm 8)
    (l1_law))
    (sSeq (sAsg [5, 10] 5 (eOp2 fIx (eCall 3 (F__law_block) [] (eCons (eVar 5) (eCons (eVar 10) (eCons (eC (.int 1)) (eNil))))) (eC (.int 0))))
    (sSeq (sIf (eB (eOp2 fIsNot (eCall 2 (F_can_be_before) [] (eCons (eVar 5) (eCons (eVar 10) (eNil)))) (eC (.bl true))))
    (sRet (eC (.bl false)))
    (sNext))
    (sSeq (sAsg [5] 9 (eIf (eB (eOp2 fGt (eCall 1 (F__law_size) [] (eCons (eVar 5) (eNil))) (eC (.int 200)))) (eC (.int 200)) (eC (.int 0))))
    (sIf (eB (eOp2 fNe (eComp [5, 9, 10, 16] [16] (iR1 (eCons (eC (.int 3)) (eNil))) (.nm 16) (eYes) (eCall 3 (F__law_limit) [] (eCons (eVar 16) (eCons (eVar 5) (eCons (eVar 10) (eNil)))))) (eOp2 fMul (eLst (eCons (eVar 9) (eNil))) (eC (.int 3)))))
    (sRet (eC (.bl false)))
    (sNext))))))))
def l3_law : S → R Fl :=
  sSeq (sAsg [2] 5 (eCall 2 (F__law_wide) [] (eCons (eVar 2) (eCons (eC (.int 20)) (eNil)))))
    (sFor [] (iR1 (eCons (eC (.int 2)) (eNil))) (.nm 6)
    (l2_law))
def l4_law : S → R Fl :=
  sSeq (sCell 2 (eCall 2 (F__law_bag) [] (eCons (eCall 2 (F__law_cell_at) [] (eCons (eVar 0) (eCons (eVar 1) (eNil)))) (eCons (eVar 1) (eNil)))))
    (sSeq (sFor [] (iR1 (eCons (eC (.int 6)) (eNil))) (.nm 3)
    (l3_law))
    (sSeq (sAsg [2] 4 (eOp2 fIx (eLst (eCons (eC (.int 199)) (eCons (eC (.int 200)) (eCons (eC (.int 201)) (eNil))))) (eCall 2 (F__law_take) [] (eCons (eVar 2) (eCons (eC (.int 3)) (eNil))))))
    (sSeq (sAsg [4] 5 (eTup (eCons (eTup (eCons (eC (.str "R")) (eCons (eC (.int 100)) (eNil)))) (eCons (eTup (eCons (eC (.str "L")) (eCons (eOp2 fSub (eVar 4) (eC (.int 100))) (eNil)))) (eNil)))))
    (sIf (eB (eOp2 fNe (eComp [4, 5, 16] [16] (iR1 (eCons (eC (.int 3)) (eNil))) (.nm 16) (eYes) (eCall 3 (F__law_limit) [] (eCons (eVar 16) (eCons (eVar 5) (eCons (eC (.int 1)) (eNil)))))) (eOp2 fMul (eLst (eCons (eOp2 fMul (eC (.int 200)) (eOpN (f1 fIntC) (eCons (eOp2 fGt (eVar 4) (eC (.int 200))) (eNil)))) (eNil))) (eC (.int 3)))))
    (sRet (eC (.bl false)))
    (sNext)))))
def m_law : S → R Fl :=
  sSeq (sFor [0] (iR1 (eCons (eOpN (fMax) (eCons (eC (.int 1)) (eCons (eOpN (fMin) (eCons (eC (.int 4)) (eCons (eOpN (f1 fLen) (eCons (eVar 0) (eNil))) (eNil)))) (eNil)))) (eNil))) (.nm 1)
    (l4_law))
    (sRet (eC (.bl true)))
def F_law : F := runF 17 m_law
/-! what the top has written -/
structure Fct (K : PySem.W.Frag) (mg : Str → Option Value) : Prop where
  b_max : mg "max" = none
  b_len : mg "len" = none
  b_range : mg "range" = none
  b_tuple : mg "tuple" = none
  b_int : mg "int" = none
  b_isinstance : mg "isinstance" = none
  b_str : mg "str" = none
  c_LEFT_posts : ∃ t, mg "LEFT_posts" = some (.str "L" t)
  c_RIGHT_posts : ∃ t, mg "RIGHT_posts" = some (.str "R" t)
  b_bool : mg "bool" = none
  b_all : mg "all" = none
  b_zip : mg "zip" = none
  b_sum : mg "sum" = none
  c_LIMIT : ∃ t, mg "LIMIT" = some (.int 200 t)
  c_RIGHT_walks : ∃ t, mg "RIGHT_walks" = some (.str "R" t)
  c_LEFT_walks : ∃ t, mg "LEFT_walks" = some (.str "L" t)
  b_list : mg "list" = none
  x__law_limit : ExT K mg "TooLarge" ["TooLarge"] []
  xf__law_limit : XfT K mg "TooLarge" "limit"
  b_min : mg "min" = none
section
variable {P : Program} {w : World} {K : PySem.W.Frag} {mg : Str → Option Value} {base : Heap}
theorem w__law_bag (T : Fct K mg) {f : Addr} {fd : FuncData} (hm : mg "_law_bag" = some (.ref f)) (hF : Fun K "_law_bag" "_law_bag" s__law_bag f fd) (hB : Binds K fd ["cell", "k"] [])   : Dfn P w K mg base "_law_bag" s__law_bag 1 ["cell", "k"] F__law_bag := by
  have e : s__law_bag = s__law_bag := rfl
  conv at e => rhs; whnf
  have hS := sc__law_bag
  show Dfn P w K mg base "_law_bag" s__law_bag (0 + 1) ["cell", "k"] (runF N__law_bag.length m__law_bag)
  refine dfn_mkE (k := 0) (m := m__law_bag) e hm hF hB hS ?_
  intro cdv A outer s H E hr
  exact mb_one (ms_ret (B := [0, 1]) (me_lst (ma_cons (me_bik (bk_max rfl) (.inl ⟨_, rfl⟩) (ma_cons (me_int) (ma_cons (me_sub (me_var 0 (by decide) (pv 0)) (me_pow (me_int) (me_int))) (ma_nil))) rfl T.b_max bo_max) (ma_cons (me_add (me_mod (me_var 0 (by decide) (pv 0)) (me_int)) (me_mulA (me_int) (me_add (me_var 1 (by decide) (pv 1)) (me_int)))) (ma_cons (me_int) (ma_nil))))))
theorem w__law_cell_at (T : Fct K mg) {f : Addr} {fd : FuncData} (hm : mg "_law_cell_at" = some (.ref f)) (hF : Fun K "_law_cell_at" "_law_cell_at" s__law_cell_at f fd) (hB : Binds K fd ["script", "k"] [])   : Dfn P w K mg base "_law_cell_at" s__law_cell_at 1 ["script", "k"] F__law_cell_at := by
  have e : s__law_cell_at = s__law_cell_at := rfl
  conv at e => rhs; whnf
  have hS := sc__law_cell_at
  show Dfn P w K mg base "_law_cell_at" s__law_cell_at (0 + 1) ["script", "k"] (runF N__law_cell_at.length m__law_cell_at)
  refine dfn_mkE (k := 0) (m := m__law_cell_at) e hm hF hB hS ?_
  intro cdv A outer s H E hr
  exact mb_cons (ms_if (B := [0, 1]) (mt_ck ck_lt (me_var 1 (by decide) (pv 1)) (me_bik (bk_len) (.inl ⟨_, rfl⟩) (ma_cons (me_var 0 (by decide) (pv 0)) (ma_nil)) rfl T.b_len bo_len))
    (mb_one (ms_ret (B := [0, 1]) (me_ix (me_var 0 (by decide) (pv 0)) (me_var 1 (by decide) (pv 1)))))
    (mb_nil))
    (mb_one (ms_ret (B := []) (me_int)))
theorem w__law_take (T : Fct K mg) {f : Addr} {fd : FuncData} (hm : mg "_law_take" = some (.ref f)) (hF : Fun K "_law_take" "_law_take" s__law_take f fd) (hB : Binds K fd ["bag", "limit"] [])   : Dfn P w K mg base "_law_take" s__law_take 1 ["bag", "limit"] F__law_take := by
  have e : s__law_take = s__law_take := rfl
  conv at e => rhs; whnf
  have hS := sc__law_take
  show Dfn P w K mg base "_law_take" s__law_take (0 + 1) ["bag", "limit"] (runF N__law_take.length m__law_take)
  refine dfn_mkE (k := 0) (m := m__law_take) e hm hF hB hS ?_
  intro cdv A outer s H E hr
  exact mb_cons (ms_if (B := [0]) (mt_ck ck_gt (me_ix (me_var 0 (by decide) (pv 0)) (me_int)) (me_int))
    (mb_cons (asg_of (set_run (B := [0, 1]) (i := 3) (me_mod (me_ix (me_var 0 (by decide) (pv 0)) (me_int)) (me_var 1 (by decide) (pv 1))) sc__law_take.nd rfl (.inl rfl)))
    (mb_cons (ms_setI (B := [1]) 0 (me_flat (B' := [0, 1]) (me_div (me_ix (me_var 0 (by decide) (pv 0)) (me_int)) (me_var 1 (by decide) (pv 1))) (by decide)) (pv 0) (me_int) (by decide))
    (mb_one (ms_ret (B := [3]) (me_var 3 (by decide) (pv 3))))))
    (mb_nil))
    (mb_cons (ms_setI (B := []) 0 (me_flat (B' := [0]) (me_add (me_ix (me_var 0 (by decide) (pv 0)) (me_int)) (me_int)) (by decide)) (pv 0) (me_int) (by decide))
    (mb_cons (asg_of (set_run (B := [0]) (i := 2) (me_mod (me_pow (me_add (me_ix (me_var 0 (by decide) (pv 0)) (me_int)) (me_mulA (me_int) (me_ix (me_var 0 (by decide) (pv 0)) (me_int)))) (me_int)) (me_int)) sc__law_take.nd rfl (.inl rfl)))
    (mb_cons (asg_of (set_run (B := [0, 2]) (i := 2) (me_mod (me_pow (me_add (me_var 2 (by decide) (pv 2)) (me_mulA (me_int) (me_ix (me_var 0 (by decide) (pv 0)) (me_int)))) (me_int)) (me_int)) sc__law_take.nd rfl (.inl rfl)))
    (mb_one (ms_ret (B := [1, 2]) (me_mod (me_div (me_var 2 (by decide) (pv 2)) (me_int)) (me_var 1 (by decide) (pv 1))))))))
theorem w__law_wide (T : Fct K mg) {f : Addr} {fd : FuncData} (hm : mg "_law_wide" = some (.ref f)) (hF : Fun K "_law_wide" "_law_wide" s__law_wide f fd) (hB : Binds K fd ["bag", "most"] []) (D__law_take : Dfn P w K mg base "_law_take" s__law_take 1 ["bag", "limit"] F__law_take)  : Dfn P w K mg base "_law_wide" s__law_wide 2 ["bag", "most"] F__law_wide := by
  have e : s__law_wide = s__law_wide := rfl
  conv at e => rhs; whnf
  have hS := sc__law_wide
  show Dfn P w K mg base "_law_wide" s__law_wide (1 + 1) ["bag", "most"] (runF N__law_wide.length m__law_wide)
  refine dfn_mkE (k := 1) (m := m__law_wide) e hm hF hB hS ?_
  intro cdv A outer s H E hr
  exact mb_cons (ms_par2 (B := [0]) (i := 3) (j := 4) (me_callN D__law_take (hr.mono (by decide : 1 ≤ 1)) (takes_of rfl rfl rfl rfl) (ma_cons (me_var 0 (by decide) (pv 0)) (ma_cons (me_int) (ma_nil)))) (me_lst (ma_nil)) rfl sc__law_wide.nd rfl rfl (by decide) rfl rfl (by rfl))
    (mb_cons (ms_for (B := [0, 1]) (passes_of rfl) rfl (mi_r1 (ma_cons (me_add (me_int) (me_callN D__law_take (hr.mono (by decide : 1 ≤ 1)) (takes_of rfl rfl rfl rfl) (ma_cons (me_var 0 (by decide) (pv 0)) (ma_cons (me_var 1 (by decide) (pv 1)) (ma_nil))))) (ma_nil)) rfl T.b_range) (mg_name sc__law_wide.nd rfl (.inl rfl))
    (mb_cons (asg_of (set_run (B := [0]) (i := 5) (me_add (me_int) (me_callN D__law_take (hr.mono (by decide : 1 ≤ 1)) (takes_of rfl rfl rfl rfl) (ma_cons (me_var 0 (by decide) (pv 0)) (ma_cons (me_ix (me_lst (ma_cons (me_int) (ma_cons (me_int) (ma_cons (me_pow (me_int) (me_int)) (ma_nil))))) (me_callN D__law_take (hr.mono (by decide : 1 ≤ 1)) (takes_of rfl rfl rfl rfl) (ma_cons (me_var 0 (by decide) (pv 0)) (ma_cons (me_int) (ma_nil))))) (ma_nil))))) sc__law_wide.nd rfl (.inl rfl)))
    (mb_one (ms_expr (B := [2, 3, 5]) (me_append 4 (pv 4) (ma_cons (me_tup (ma_cons (me_ix (me_str) (me_mod (me_add (me_var 3 (by decide) (pv 3)) (me_var 2 (by decide) (pv 2))) (me_int))) (ma_cons (me_var 5 (by decide) (pv 5)) (ma_nil)))) (ma_nil)) (by decide))))))
    (mb_one (ms_ret (B := [4]) (me_bik (bk_tuple) (.inr ⟨_, rfl⟩) (ma_cons (me_var 4 (by decide) (pv 4)) (ma_nil)) rfl T.b_tuple bo_tuple))))
theorem w__law_ends (T : Fct K mg) {f : Addr} {fd : FuncData} (hm : mg "_law_ends" = some (.ref f)) (hF : Fun K "_law_ends" "_law_ends" s__law_ends f fd) (hB : Binds K fd ["line"] [])   : Dfn P w K mg base "_law_ends" s__law_ends 1 ["line"] F__law_ends := by
  have e : s__law_ends = s__law_ends := rfl
  conv at e => rhs; whnf
  have hS := sc__law_ends
  show Dfn P w K mg base "_law_ends" s__law_ends (0 + 1) ["line"] (runF N__law_ends.length m__law_ends)
  refine dfn_mkE (k := 0) (m := m__law_ends) e hm hF hB hS ?_
  intro cdv A outer s H E hr
  exact mb_one (ms_ret (B := [0]) (me_tup (ma_cons (me_mulA (me_ix (me_ix (me_var 0 (by decide) (pv 0)) (me_int)) (me_int)) (me_bik (bk_int) (.inr ⟨_, rfl⟩) (ma_cons (me_ck (ck_eq (hu64 hr)) (me_ix (me_ix (me_var 0 (by decide) (pv 0)) (me_int)) (me_int)) (me_str)) (ma_nil)) rfl T.b_int bo_int)) (ma_cons (me_mulA (me_ix (me_ix (me_var 0 (by decide) (pv 0)) (me_neg (me_int))) (me_int)) (me_bik (bk_int) (.inr ⟨_, rfl⟩) (ma_cons (me_ck (ck_eq (hu64 hr)) (me_ix (me_ix (me_var 0 (by decide) (pv 0)) (me_neg (me_int))) (me_int)) (me_str)) (ma_nil)) rfl T.b_int bo_int)) (ma_nil)))))
theorem w_is_side (T : Fct K mg) {f : Addr} {fd : FuncData} (hm : mg "is_side" = some (.ref f)) (hF : Fun K "is_side" "is_side" s_is_side f fd) (hB : Binds K fd ["value"] [])   : Dfn P w K mg base "is_side" s_is_side 1 ["value"] F_is_side := by
  have e : s_is_side = s_is_side := rfl
  conv at e => rhs; whnf
  have hS := sc_is_side
  show Dfn P w K mg base "is_side" s_is_side (0 + 1) ["value"] (runF N_is_side.length m_is_side)
  refine dfn_mkE (k := 0) (m := m_is_side) e hm hF hB hS ?_
  intro cdv A outer s H E hr
  exact mb_one (ms_ret (B := [0]) (me_and (me_isi .str (me_var 0 (by decide) (pv 0)) rfl T.b_isinstance rfl T.b_str bo_str) (me_one (me_ck ck_in (me_var 0 (by decide) (pv 0)) (me_tup (ma_cons (me_gstr rfl T.c_LEFT_posts) (ma_cons (me_gstr rfl T.c_RIGHT_posts) (ma_nil))))))))
theorem w_is_integer (T : Fct K mg) {f : Addr} {fd : FuncData} (hm : mg "is_integer" = some (.ref f)) (hF : Fun K "is_integer" "is_integer" s_is_integer f fd) (hB : Binds K fd ["value", "low"] [])   : Dfn P w K mg base "is_integer" s_is_integer 1 ["value", "low"] F_is_integer := by
  have e : s_is_integer = s_is_integer := rfl
  conv at e => rhs; whnf
  have hS := sc_is_integer
  show Dfn P w K mg base "is_integer" s_is_integer (0 + 1) ["value", "low"] (runF N_is_integer.length m_is_integer)
  refine dfn_mkE (k := 0) (m := m_is_integer) e hm hF hB hS ?_
  intro cdv A outer s H E hr
  exact mb_one (ms_ret (B := [0, 1]) (me_and (me_isi .int (me_var 0 (by decide) (pv 0)) rfl T.b_isinstance rfl T.b_int bo_int) (me_and (me_not (me_isi .bl (me_var 0 (by decide) (pv 0)) rfl T.b_isinstance rfl T.b_bool bo_bool)) (me_one (me_ck ck_ge (me_var 0 (by decide) (pv 0)) (me_var 1 (by decide) (pv 1)))))))
theorem w_is_run (T : Fct K mg) {f : Addr} {fd : FuncData} (hm : mg "is_run" = some (.ref f)) (hF : Fun K "is_run" "is_run" s_is_run f fd) (hB : Binds K fd ["value"] []) (D_is_side : Dfn P w K mg base "is_side" s_is_side 1 ["value"] F_is_side) (D_is_integer : Dfn P w K mg base "is_integer" s_is_integer 1 ["value", "low"] F_is_integer)  : Dfn P w K mg base "is_run" s_is_run 2 ["value"] F_is_run := by
  have e : s_is_run = s_is_run := rfl
  conv at e => rhs; whnf
  have hS := sc_is_run
  show Dfn P w K mg base "is_run" s_is_run (1 + 1) ["value"] (runF N_is_run.length m_is_run)
  refine dfn_mkE (k := 1) (m := m_is_run) e hm hF hB hS ?_
  intro cdv A outer s H E hr
  exact mb_one (ms_ret (B := [0]) (me_and (me_isi .tup (me_var 0 (by decide) (pv 0)) rfl T.b_isinstance rfl T.b_tuple bo_tuple) (me_and (me_ck (ck_eq (hu64 hr)) (me_bik (bk_len) (.inl ⟨_, rfl⟩) (ma_cons (me_var 0 (by decide) (pv 0)) (ma_nil)) rfl T.b_len bo_len) (me_int)) (me_and (me_callN D_is_side (hr.mono (by decide : 1 ≤ 1)) (takes_of rfl rfl rfl rfl) (ma_cons (me_ix (me_var 0 (by decide) (pv 0)) (me_int)) (ma_nil))) (me_one (me_callN D_is_integer (hr.mono (by decide : 1 ≤ 1)) (takes_of rfl rfl rfl rfl) (ma_cons (me_ix (me_var 0 (by decide) (pv 0)) (me_int)) (ma_cons (me_int) (ma_nil)))))))))
theorem w_is_posts (T : Fct K mg) {f : Addr} {fd : FuncData} (hm : mg "is_posts" = some (.ref f)) (hF : Fun K "is_posts" "is_posts" s_is_posts f fd) (hB : Binds K fd ["value"] []) (D_is_run : Dfn P w K mg base "is_run" s_is_run 2 ["value"] F_is_run)  : Dfn P w K mg base "is_posts" s_is_posts 3 ["value"] F_is_posts := by
  have e : s_is_posts = s_is_posts := rfl
  conv at e => rhs; whnf
  have hS := sc_is_posts
  show Dfn P w K mg base "is_posts" s_is_posts (2 + 1) ["value"] (runF N_is_posts.length m_is_posts)
  refine dfn_mkE (k := 2) (m := m_is_posts) e hm hF hB hS ?_
  intro cdv A outer s H E hr
  exact mb_cons (ms_if (B := [0, 3]) (mt_w (mw_or (mt_not (mt_truth (me_isi .tup (me_var 0 (by decide) (pv 0)) rfl T.b_isinstance rfl T.b_tuple bo_tuple))) (mw_or (mt_ck (ck_eq (hu64 hr)) (me_bik (bk_len) (.inl ⟨_, rfl⟩) (ma_cons (me_var 0 (by decide) (pv 0)) (ma_nil)) rfl T.b_len bo_len) (me_int)) (mw_or1 (mt_not (mt_truth (me_bik (bk_all rfl) (.inl ⟨_, rfl⟩) (ma_cons (me_comp (own := [("run", 3)]) rfl sc_is_posts.nd (mi_any (me_var 0 (by decide) (pv 0))) (blkOk_by (own := [("run", 3)]) (by kernel_rfl)) (by decide) (fun _ _ _ _ _ => (mg_name sc_is_posts.nd rfl (.inl rfl))) (fun _ _ _ _ _ => mts_nil) (fun _ _ _ _ _ => me_callN D_is_run (hr.mono (by decide : 2 ≤ 2)) takes0 (ma_cons (me_var 3 (by decide) (pv 3)) (ma_nil)))) (ma_nil)) rfl T.b_all bo_all)))))))
    (mb_one (ms_ret (B := []) (me_bl)))
    (mb_nil))
    (mb_one (ms_ret (B := [0, 1, 2]) (me_bik (bk_all rfl) (.inl ⟨_, rfl⟩) (ma_cons (me_comp (own := [("one", 1), ("other", 2)]) rfl sc_is_posts.nd (mi_zip (ma_cons (me_var 0 (by decide) (pv 0)) (ma_cons (me_sl (me_var 0 (by decide) (pv 0)) (mo_some (me_int)) (mo_none)) (ma_nil))) rfl T.b_zip) (blkOk_by (own := [("one", 1), ("other", 2)]) (by kernel_rfl)) (by decide) (fun _ _ _ _ _ => (mg_tup rfl (pgn_cons sc_is_posts.nd rfl (.inl rfl) (pgn_cons sc_is_posts.nd rfl (.inl rfl) pgn_nil)))) (fun _ _ _ _ _ => mts_nil) (fun _ _ _ _ _ => me_ck (ck_ne (hu64 hr)) (me_ix (me_var 1 (by decide) (pv 1)) (me_int)) (me_ix (me_var 2 (by decide) (pv 2)) (me_int)))) (ma_nil)) rfl T.b_all bo_all)))
theorem w_check_posts (T : Fct K mg) {f : Addr} {fd : FuncData} (hm : mg "check_posts" = some (.ref f)) (hF : Fun K "check_posts" "check_posts" s_check_posts f fd) (hB : Binds K fd ["posts"] []) (D_is_posts : Dfn P w K mg base "is_posts" s_is_posts 3 ["value"] F_is_posts)  : Dfn P w K mg base "check_posts" s_check_posts 4 ["posts"] F_check_posts := by
  have e : s_check_posts = s_check_posts := rfl
  conv at e => rhs; whnf
  have hS := sc_check_posts
  show Dfn P w K mg base "check_posts" s_check_posts (3 + 1) ["posts"] (runF N_check_posts.length m_check_posts)
  refine dfn_mkE (k := 3) (m := m_check_posts) e hm hF hB hS ?_
  intro cdv A outer s H E hr
  exact mb_one (ms_if (B := [0]) (mt_not (mt_truth (me_callN D_is_posts (hr.mono (by decide : 3 ≤ 3)) (takes_of rfl rfl rfl rfl) (ma_cons (me_var 0 (by decide) (pv 0)) (ma_nil)))))
    (mb_one (ms_never))
    (mb_nil))
theorem w_count_posts (T : Fct K mg) {f : Addr} {fd : FuncData} (hm : mg "count_posts" = some (.ref f)) (hF : Fun K "count_posts" "count_posts" s_count_posts f fd) (hB : Binds K fd ["posts"] [])   : Dfn P w K mg base "count_posts" s_count_posts 1 ["posts"] F_count_posts := by
  have e : s_count_posts = s_count_posts := rfl
  conv at e => rhs; whnf
  have hS := sc_count_posts
  show Dfn P w K mg base "count_posts" s_count_posts (0 + 1) ["posts"] (runF N_count_posts.length m_count_posts)
  refine dfn_mkE (k := 0) (m := m_count_posts) e hm hF hB hS ?_
  intro cdv A outer s H E hr
  exact mb_one (ms_ret (B := [0, 2]) (me_bik (bk_sum rfl) (.inl ⟨_, rfl⟩) (ma_cons (me_comp (own := [("side", 1), ("count", 2)]) rfl sc_count_posts.nd (mi_any (me_var 0 (by decide) (pv 0))) (blkOk_by (own := [("side", 1), ("count", 2)]) (by kernel_rfl)) (by decide) (fun _ _ _ _ _ => (mg_tup rfl (pgn_cons sc_count_posts.nd rfl (.inl rfl) (pgn_cons sc_count_posts.nd rfl (.inl rfl) pgn_nil)))) (fun _ _ _ _ _ => mts_nil) (fun _ _ _ _ _ => me_var 2 (by decide) (pv 2))) (ma_nil)) rfl T.b_sum bo_sum))
theorem w_is_place (T : Fct K mg) {f : Addr} {fd : FuncData} (hm : mg "is_place" = some (.ref f)) (hF : Fun K "is_place" "is_place" s_is_place f fd) (hB : Binds K fd ["posts", "value"] []) (D_is_integer : Dfn P w K mg base "is_integer" s_is_integer 1 ["value", "low"] F_is_integer) (D_count_posts : Dfn P w K mg base "count_posts" s_count_posts 1 ["posts"] F_count_posts)  : Dfn P w K mg base "is_place" s_is_place 2 ["posts", "value"] F_is_place := by
  have e : s_is_place = s_is_place := rfl
  conv at e => rhs; whnf
  have hS := sc_is_place
  show Dfn P w K mg base "is_place" s_is_place (1 + 1) ["posts", "value"] (runF N_is_place.length m_is_place)
  refine dfn_mkE (k := 1) (m := m_is_place) e hm hF hB hS ?_
  intro cdv A outer s H E hr
  exact mb_one (ms_ret (B := [0, 1]) (me_and (me_callN D_is_integer (hr.mono (by decide : 1 ≤ 1)) (takes_of rfl rfl rfl rfl) (ma_cons (me_var 1 (by decide) (pv 1)) (ma_cons (me_int) (ma_nil)))) (me_one (me_ck ck_le (me_var 1 (by decide) (pv 1)) (me_callN D_count_posts (hr.mono (by decide : 1 ≤ 1)) (takes_of rfl rfl rfl rfl) (ma_cons (me_var 0 (by decide) (pv 0)) (ma_nil)))))))
theorem w_check_place (T : Fct K mg) {f : Addr} {fd : FuncData} (hm : mg "check_place" = some (.ref f)) (hF : Fun K "check_place" "check_place" s_check_place f fd) (hB : Binds K fd ["posts", "place"] []) (D_is_place : Dfn P w K mg base "is_place" s_is_place 2 ["posts", "value"] F_is_place)  : Dfn P w K mg base "check_place" s_check_place 3 ["posts", "place"] F_check_place := by
  have e : s_check_place = s_check_place := rfl
  conv at e => rhs; whnf
  have hS := sc_check_place
  show Dfn P w K mg base "check_place" s_check_place (2 + 1) ["posts", "place"] (runF N_check_place.length m_check_place)
  refine dfn_mkE (k := 2) (m := m_check_place) e hm hF hB hS ?_
  intro cdv A outer s H E hr
  exact mb_one (ms_if (B := [0, 1]) (mt_not (mt_truth (me_callN D_is_place (hr.mono (by decide : 2 ≤ 2)) (takes_of rfl rfl rfl rfl) (ma_cons (me_var 0 (by decide) (pv 0)) (ma_cons (me_var 1 (by decide) (pv 1)) (ma_nil))))))
    (mb_one (ms_never))
    (mb_nil))
theorem w_check_limit (T : Fct K mg) {f : Addr} {fd : FuncData} (hm : mg "check_limit" = some (.ref f)) (hF : Fun K "check_limit" "check_limit" s_check_limit f fd) (hB : Binds K fd ["posts"] []) (D_count_posts : Dfn P w K mg base "count_posts" s_count_posts 1 ["posts"] F_count_posts) (L_TooLarge : LimC P w K mg base "TooLarge" 1 "limit") : Dfn P w K mg base "check_limit" s_check_limit 3 ["posts"] F_check_limit := by
  have e : s_check_limit = s_check_limit := rfl
  conv at e => rhs; whnf
  have hS := sc_check_limit
  show Dfn P w K mg base "check_limit" s_check_limit (2 + 1) ["posts"] (runF N_check_limit.length m_check_limit)
  refine dfn_mkE (k := 2) (m := m_check_limit) e hm hF hB hS ?_
  intro cdv A outer s H E hr
  exact mb_one (ms_if (B := [0]) (mt_ck ck_gt (me_callN D_count_posts (hr.mono (by decide : 1 ≤ 2)) (takes_of rfl rfl rfl rfl) (ma_cons (me_var 0 (by decide) (pv 0)) (ma_nil))) (me_gint rfl T.c_LIMIT))
    (mb_one (ms_raiseL (B := []) rfl (takes_of rfl rfl rfl rfl) L_TooLarge (hr.mono (by decide : 2 ≤ 2)) (me_gint rfl T.c_LIMIT) rfl))
    (mb_nil))
theorem w_borders (T : Fct K mg) {f : Addr} {fd : FuncData} (hm : mg "borders" = some (.ref f)) (hF : Fun K "borders" "borders" s_borders f fd) (hB : Binds K fd ["goal"] [])   : Dfn P w K mg base "borders" s_borders 1 ["goal"] F_borders := by
  have e : s_borders = s_borders := rfl
  conv at e => rhs; whnf
  have hS := sc_borders
  show Dfn P w K mg base "borders" s_borders (0 + 1) ["goal"] (runF N_borders.length m_borders)
  refine dfn_mkE (k := 0) (m := m_borders) e hm hF hB hS ?_
  intro cdv A outer s H E hr
  exact mb_one (ms_ret (B := [0]) (me_tup (ma_cons (me_if (mt_ck (ck_eq (hu64 hr)) (me_ix (me_ix (me_var 0 (by decide) (pv 0)) (me_int)) (me_int)) (me_gstr rfl T.c_RIGHT_walks)) (me_ix (me_ix (me_var 0 (by decide) (pv 0)) (me_int)) (me_int)) (me_int)) (ma_cons (me_if (mt_ck (ck_eq (hu64 hr)) (me_ix (me_ix (me_var 0 (by decide) (pv 0)) (me_neg (me_int))) (me_int)) (me_gstr rfl T.c_LEFT_walks)) (me_ix (me_ix (me_var 0 (by decide) (pv 0)) (me_neg (me_int))) (me_int)) (me_int)) (ma_nil)))))
theorem w_ways (T : Fct K mg) {f : Addr} {fd : FuncData} (hm : mg "ways" = some (.ref f)) (hF : Fun K "ways" "ways" s_ways f fd) (hB : Binds K fd ["size", "chosen"] [])   : Dfn P w K mg base "ways" s_ways 1 ["size", "chosen"] F_ways := by
  have e : s_ways = s_ways := rfl
  conv at e => rhs; whnf
  have hS := sc_ways
  show Dfn P w K mg base "ways" s_ways (0 + 1) ["size", "chosen"] (runF N_ways.length m_ways)
  refine dfn_mkE (k := 0) (m := m_ways) e hm hF hB hS ?_
  intro cdv A outer s H E hr
  exact mb_cons (ms_if (B := [0, 1]) (mt_ck ck_gt (me_var 1 (by decide) (pv 1)) (me_var 0 (by decide) (pv 0)))
    (mb_one (ms_ret (B := []) (me_int)))
    (mb_nil))
    (mb_cons (asg_of (set_run (B := []) (i := 2) (me_int) sc_ways.nd rfl (.inl rfl)))
    (mb_cons (ms_for (B := [1]) (passes_of rfl) rfl (mi_r1 (ma_cons (me_var 1 (by decide) (pv 1)) (ma_nil)) rfl T.b_range) (mg_name sc_ways.nd rfl (.inl rfl))
    (mb_one (asg_of (set_run (B := [0, 2, 3]) (i := 2) (me_div (me_mulA (me_var 2 (by decide) (pv 2)) (me_sub (me_var 0 (by decide) (pv 0)) (me_var 3 (by decide) (pv 3)))) (me_add (me_var 3 (by decide) (pv 3)) (me_int))) sc_ways.nd rfl (.inl rfl)))))
    (mb_one (ms_ret (B := [2]) (me_var 2 (by decide) (pv 2))))))
theorem w_numbers_before (T : Fct K mg) {f : Addr} {fd : FuncData} (hm : mg "numbers_before" = some (.ref f)) (hF : Fun K "numbers_before" "numbers_before" s_numbers_before f fd) (hB : Binds K fd ["posts", "place"] []) (D_borders : Dfn P w K mg base "borders" s_borders 1 ["goal"] F_borders) (D_ways : Dfn P w K mg base "ways" s_ways 1 ["size", "chosen"] F_ways) (D_count_posts : Dfn P w K mg base "count_posts" s_count_posts 1 ["posts"] F_count_posts)  : Dfn P w K mg base "numbers_before" s_numbers_before 2 ["posts", "place"] F_numbers_before := by
  have e : s_numbers_before = s_numbers_before := rfl
  conv at e => rhs; whnf
  have hS := sc_numbers_before
  show Dfn P w K mg base "numbers_before" s_numbers_before (1 + 1) ["posts", "place"] (runF N_numbers_before.length m_numbers_before)
  refine dfn_mkE (k := 1) (m := m_numbers_before) e hm hF hB hS ?_
  intro cdv A outer s H E hr
  exact mb_cons (ms_tgt (B := [0]) (me_callN D_borders (hr.mono (by decide : 1 ≤ 1)) (takes_of rfl rfl rfl rfl) (ma_cons (me_var 0 (by decide) (pv 0)) (ma_nil))) (mg_tup rfl (pgn_cons sc_numbers_before.nd rfl (.inl rfl) (pgn_cons sc_numbers_before.nd rfl (.inl rfl) pgn_nil))))
    (mb_one (ms_ret (B := [0, 1, 2, 3]) (me_tup (ma_cons (me_callN D_ways (hr.mono (by decide : 1 ≤ 1)) (takes_of rfl rfl rfl rfl) (ma_cons (me_var 2 (by decide) (pv 2)) (ma_cons (me_var 1 (by decide) (pv 1)) (ma_nil)))) (ma_cons (me_callN D_ways (hr.mono (by decide : 1 ≤ 1)) (takes_of rfl rfl rfl rfl) (ma_cons (me_var 3 (by decide) (pv 3)) (ma_cons (me_sub (me_add (me_callN D_count_posts (hr.mono (by decide : 1 ≤ 1)) (takes_of rfl rfl rfl rfl) (ma_cons (me_var 0 (by decide) (pv 0)) (ma_nil))) (me_int)) (me_var 1 (by decide) (pv 1))) (ma_nil)))) (ma_nil))))))
theorem w_count_before (T : Fct K mg) {f : Addr} {fd : FuncData} (hm : mg "count_before" = some (.ref f)) (hF : Fun K "count_before" "count_before" s_count_before f fd) (hB : Binds K fd ["posts", "place"] []) (D_check_posts : Dfn P w K mg base "check_posts" s_check_posts 4 ["posts"] F_check_posts) (D_check_place : Dfn P w K mg base "check_place" s_check_place 3 ["posts", "place"] F_check_place) (D_check_limit : Dfn P w K mg base "check_limit" s_check_limit 3 ["posts"] F_check_limit) (D_numbers_before : Dfn P w K mg base "numbers_before" s_numbers_before 2 ["posts", "place"] F_numbers_before)  : Dfn P w K mg base "count_before" s_count_before 5 ["posts", "place"] F_count_before := by
  have e : s_count_before = s_count_before := rfl
  conv at e => rhs; whnf
  have hS := sc_count_before
  show Dfn P w K mg base "count_before" s_count_before (4 + 1) ["posts", "place"] (runF N_count_before.length m_count_before)
  refine dfn_mkE (k := 4) (m := m_count_before) e hm hF hB hS ?_
  intro cdv A outer s H E hr
  exact mb_cons (ms_expr (B := [0]) (me_callN D_check_posts (hr.mono (by decide : 4 ≤ 4)) (takes_of rfl rfl rfl rfl) (ma_cons (me_var 0 (by decide) (pv 0)) (ma_nil))))
    (mb_cons (ms_expr (B := [0, 1]) (me_callN D_check_place (hr.mono (by decide : 3 ≤ 4)) (takes_of rfl rfl rfl rfl) (ma_cons (me_var 0 (by decide) (pv 0)) (ma_cons (me_var 1 (by decide) (pv 1)) (ma_nil)))))
    (mb_cons (ms_expr (B := [0]) (me_callN D_check_limit (hr.mono (by decide : 3 ≤ 4)) (takes_of rfl rfl rfl rfl) (ma_cons (me_var 0 (by decide) (pv 0)) (ma_nil))))
    (mb_one (ms_ret (B := [0, 1]) (me_bik (bk_sum rfl) (.inl ⟨_, rfl⟩) (ma_cons (me_callN D_numbers_before (hr.mono (by decide : 2 ≤ 4)) (takes_of rfl rfl rfl rfl) (ma_cons (me_var 0 (by decide) (pv 0)) (ma_cons (me_var 1 (by decide) (pv 1)) (ma_nil)))) (ma_nil)) rfl T.b_sum bo_sum)))))
theorem w_doubled (T : Fct K mg) {f : Addr} {fd : FuncData} (hm : mg "doubled" = some (.ref f)) (hF : Fun K "doubled" "doubled" s_doubled f fd) (hB : Binds K fd ["times"] [])   : Dfn P w K mg base "doubled" s_doubled 1 ["times"] F_doubled := by
  have e : s_doubled = s_doubled := rfl
  conv at e => rhs; whnf
  have hS := sc_doubled
  show Dfn P w K mg base "doubled" s_doubled (0 + 1) ["times"] (runF N_doubled.length m_doubled)
  refine dfn_mkE (k := 0) (m := m_doubled) e hm hF hB hS ?_
  intro cdv A outer s H E hr
  exact mb_cons (asg_of (set_run (B := []) (i := 1) (me_int) sc_doubled.nd rfl (.inl rfl)))
    (mb_cons (ms_for (B := [0]) (passes_of rfl) rfl (mi_r1 (ma_cons (me_var 0 (by decide) (pv 0)) (ma_nil)) rfl T.b_range) (mg_name sc_doubled.nd rfl (.inl rfl))
    (mb_one (ms_augAddA (B := [1]) (me_var 1 (by decide) (pv 1)) sc_doubled.nd rfl (.inl rfl))))
    (mb_one (ms_ret (B := [1]) (me_var 1 (by decide) (pv 1)))))
theorem w_count_all_before (T : Fct K mg) {f : Addr} {fd : FuncData} (hm : mg "count_all_before" = some (.ref f)) (hF : Fun K "count_all_before" "count_all_before" s_count_all_before f fd) (hB : Binds K fd ["posts"] []) (D_check_posts : Dfn P w K mg base "check_posts" s_check_posts 4 ["posts"] F_check_posts) (D_check_limit : Dfn P w K mg base "check_limit" s_check_limit 3 ["posts"] F_check_limit) (D_borders : Dfn P w K mg base "borders" s_borders 1 ["goal"] F_borders) (D_doubled : Dfn P w K mg base "doubled" s_doubled 1 ["times"] F_doubled)  : Dfn P w K mg base "count_all_before" s_count_all_before 5 ["posts"] F_count_all_before := by
  have e : s_count_all_before = s_count_all_before := rfl
  conv at e => rhs; whnf
  have hS := sc_count_all_before
  show Dfn P w K mg base "count_all_before" s_count_all_before (4 + 1) ["posts"] (runF N_count_all_before.length m_count_all_before)
  refine dfn_mkE (k := 4) (m := m_count_all_before) e hm hF hB hS ?_
  intro cdv A outer s H E hr
  exact mb_cons (ms_expr (B := [0]) (me_callN D_check_posts (hr.mono (by decide : 4 ≤ 4)) (takes_of rfl rfl rfl rfl) (ma_cons (me_var 0 (by decide) (pv 0)) (ma_nil))))
    (mb_cons (ms_expr (B := [0]) (me_callN D_check_limit (hr.mono (by decide : 3 ≤ 4)) (takes_of rfl rfl rfl rfl) (ma_cons (me_var 0 (by decide) (pv 0)) (ma_nil))))
    (mb_cons (ms_tgt (B := [0]) (me_callN D_borders (hr.mono (by decide : 1 ≤ 4)) (takes_of rfl rfl rfl rfl) (ma_cons (me_var 0 (by decide) (pv 0)) (ma_nil))) (mg_tup rfl (pgn_cons sc_count_all_before.nd rfl (.inl rfl) (pgn_cons sc_count_all_before.nd rfl (.inl rfl) pgn_nil))))
    (mb_one (ms_ret (B := [1, 2]) (me_sub (me_add (me_callN D_doubled (hr.mono (by decide : 1 ≤ 4)) (takes_of rfl rfl rfl rfl) (ma_cons (me_var 1 (by decide) (pv 1)) (ma_nil))) (me_callN D_doubled (hr.mono (by decide : 1 ≤ 4)) (takes_of rfl rfl rfl rfl) (ma_cons (me_var 2 (by decide) (pv 2)) (ma_nil)))) (me_int))))))
theorem w_check_index (T : Fct K mg) {f : Addr} {fd : FuncData} (hm : mg "check_index" = some (.ref f)) (hF : Fun K "check_index" "check_index" s_check_index f fd) (hB : Binds K fd ["index"] []) (D_is_integer : Dfn P w K mg base "is_integer" s_is_integer 1 ["value", "low"] F_is_integer)  : Dfn P w K mg base "check_index" s_check_index 2 ["index"] F_check_index := by
  have e : s_check_index = s_check_index := rfl
  conv at e => rhs; whnf
  have hS := sc_check_index
  show Dfn P w K mg base "check_index" s_check_index (1 + 1) ["index"] (runF N_check_index.length m_check_index)
  refine dfn_mkE (k := 1) (m := m_check_index) e hm hF hB hS ?_
  intro cdv A outer s H E hr
  exact mb_one (ms_if (B := [0]) (mt_not (mt_truth (me_callN D_is_integer (hr.mono (by decide : 1 ≤ 1)) (takes_of rfl rfl rfl rfl) (ma_cons (me_var 0 (by decide) (pv 0)) (ma_cons (me_int) (ma_nil))))))
    (mb_one (ms_never))
    (mb_nil))
theorem w_joined (T : Fct K mg) {f : Addr} {fd : FuncData} (hm : mg "joined" = some (.ref f)) (hF : Fun K "joined" "joined" s_joined f fd) (hB : Binds K fd ["runs"] [])   : Dfn P w K mg base "joined" s_joined 1 ["runs"] F_joined := by
  have e : s_joined = s_joined := rfl
  conv at e => rhs; whnf
  have hS := sc_joined
  show Dfn P w K mg base "joined" s_joined (0 + 1) ["runs"] (runF N_joined.length m_joined)
  refine dfn_mkE (k := 0) (m := m_joined) e hm hF hB hS ?_
  intro cdv A outer s H E hr
  exact mb_cons (own_of (set_run (B := []) (i := 1) (me_lst (ma_nil)) sc_joined.nd rfl (.inl rfl)))
    (mb_cons (ms_for (B := [0]) (passes_of rfl) rfl (mi_any (me_var 0 (by decide) (pv 0))) (mg_tup rfl (pgn_cons sc_joined.nd rfl (.inl rfl) (pgn_cons sc_joined.nd rfl (.inl rfl) pgn_nil)))
    (mb_one (ms_if (B := [1, 2, 3]) (mt_w (mw_and (mt_ck ck_gt (me_var 3 (by decide) (pv 3)) (me_int)) (mw_and (mt_ck (ck_ne (hu64 hr)) (me_var 1 (by decide) (pv 1)) (me_lst (ma_nil))) (mw_and1 (mt_ck (ck_eq (hu64 hr)) (me_ix (me_ix (me_var 1 (by decide) (pv 1)) (me_neg (me_int))) (me_int)) (me_var 2 (by decide) (pv 2)))))))
    (mb_one (ms_setI (B := [2, 3]) 1 (me_flat (B' := [1, 2, 3]) (me_tup (ma_cons (me_var 2 (by decide) (pv 2)) (ma_cons (me_add (me_ix (me_ix (me_var 1 (by decide) (pv 1)) (me_neg (me_int))) (me_int)) (me_var 3 (by decide) (pv 3))) (ma_nil)))) (by decide)) (pv 1) (me_neg (me_int)) (by decide)))
    (mb_one (ms_if (B := [3]) (mt_ck ck_gt (me_var 3 (by decide) (pv 3)) (me_int))
    (mb_one (ms_expr (B := [2, 3]) (me_append 1 (pv 1) (ma_cons (me_tup (ma_cons (me_var 2 (by decide) (pv 2)) (ma_cons (me_var 3 (by decide) (pv 3)) (ma_nil)))) (ma_nil)) (by decide))))
    (mb_nil))))))
    (mb_one (ms_ret (B := [1]) (me_bik (bk_tuple) (.inr ⟨_, rfl⟩) (ma_cons (me_var 1 (by decide) (pv 1)) (ma_nil)) rfl T.b_tuple bo_tuple))))
theorem w_nth_sides (T : Fct K mg) {f : Addr} {fd : FuncData} (hm : mg "nth_sides" = some (.ref f)) (hF : Fun K "nth_sides" "nth_sides" s_nth_sides f fd) (hB : Binds K fd ["size", "lefts", "index"] []) (D_ways : Dfn P w K mg base "ways" s_ways 1 ["size", "chosen"] F_ways)  : Dfn P w K mg base "nth_sides" s_nth_sides 2 ["size", "lefts", "index"] F_nth_sides := by
  have e : s_nth_sides = s_nth_sides := rfl
  conv at e => rhs; whnf
  have hS := sc_nth_sides
  show Dfn P w K mg base "nth_sides" s_nth_sides (1 + 1) ["size", "lefts", "index"] (runF N_nth_sides.length m_nth_sides)
  refine dfn_mkE (k := 1) (m := m_nth_sides) e hm hF hB hS ?_
  intro cdv A outer s H E hr
  exact mb_cons (ms_par2 (B := [2]) (i := 4) (j := 5) (me_str) (me_var 2 (by decide) (pv 2)) rfl sc_nth_sides.nd rfl rfl (by decide) rfl rfl (by rfl))
    (mb_cons (ms_for (B := [0]) (passes_of rfl) rfl (mi_r1 (ma_cons (me_var 0 (by decide) (pv 0)) (ma_nil)) rfl T.b_range) (mg_name sc_nth_sides.nd rfl (.inl rfl))
    (mb_cons (asg_of (set_run (B := [0, 1, 3]) (i := 6) (me_if (mt_ck ck_gt (me_var 1 (by decide) (pv 1)) (me_int)) (me_callN D_ways (hr.mono (by decide : 1 ≤ 1)) (takes_of rfl rfl rfl rfl) (ma_cons (me_sub (me_sub (me_var 0 (by decide) (pv 0)) (me_var 3 (by decide) (pv 3))) (me_int)) (ma_cons (me_sub (me_var 1 (by decide) (pv 1)) (me_int)) (ma_nil)))) (me_int)) sc_nth_sides.nd rfl (.inl rfl)))
    (mb_one (ms_if (B := [5, 6]) (mt_ck ck_lt (me_var 5 (by decide) (pv 5)) (me_var 6 (by decide) (pv 6)))
    (mb_cons (ms_augAddA (B := []) (me_gstr rfl T.c_LEFT_walks) sc_nth_sides.nd rfl (.inl rfl))
    (mb_one (ms_augSub (B := []) (me_int) sc_nth_sides.nd rfl (.inl rfl))))
    (mb_cons (ms_augAddA (B := []) (me_gstr rfl T.c_RIGHT_walks) sc_nth_sides.nd rfl (.inl rfl))
    (mb_one (ms_augSub (B := [6]) (me_var 6 (by decide) (pv 6)) sc_nth_sides.nd rfl (.inl rfl))))))))
    (mb_one (ms_ret (B := [4]) (me_var 4 (by decide) (pv 4)))))
theorem w_nth_before (T : Fct K mg) {f : Addr} {fd : FuncData} (hm : mg "nth_before" = some (.ref f)) (hF : Fun K "nth_before" "nth_before" s_nth_before f fd) (hB : Binds K fd ["posts", "place", "index"] []) (D_check_posts : Dfn P w K mg base "check_posts" s_check_posts 4 ["posts"] F_check_posts) (D_check_place : Dfn P w K mg base "check_place" s_check_place 3 ["posts", "place"] F_check_place) (D_check_index : Dfn P w K mg base "check_index" s_check_index 2 ["index"] F_check_index) (D_check_limit : Dfn P w K mg base "check_limit" s_check_limit 3 ["posts"] F_check_limit) (D_numbers_before : Dfn P w K mg base "numbers_before" s_numbers_before 2 ["posts", "place"] F_numbers_before) (D_borders : Dfn P w K mg base "borders" s_borders 1 ["goal"] F_borders) (D_joined : Dfn P w K mg base "joined" s_joined 1 ["runs"] F_joined) (D_count_posts : Dfn P w K mg base "count_posts" s_count_posts 1 ["posts"] F_count_posts) (D_nth_sides : Dfn P w K mg base "nth_sides" s_nth_sides 2 ["size", "lefts", "index"] F_nth_sides)  : Dfn P w K mg base "nth_before" s_nth_before 5 ["posts", "place", "index"] F_nth_before := by
  have e : s_nth_before = s_nth_before := rfl
  conv at e => rhs; whnf
  have hS := sc_nth_before
  show Dfn P w K mg base "nth_before" s_nth_before (4 + 1) ["posts", "place", "index"] (runF N_nth_before.length m_nth_before)
  refine dfn_mkE (k := 4) (m := m_nth_before) e hm hF hB hS ?_
  intro cdv A outer s H E hr
  exact mb_cons (ms_expr (B := [0]) (me_callN D_check_posts (hr.mono (by decide : 4 ≤ 4)) (takes_of rfl rfl rfl rfl) (ma_cons (me_var 0 (by decide) (pv 0)) (ma_nil))))
    (mb_cons (ms_expr (B := [0, 1]) (me_callN D_check_place (hr.mono (by decide : 3 ≤ 4)) (takes_of rfl rfl rfl rfl) (ma_cons (me_var 0 (by decide) (pv 0)) (ma_cons (me_var 1 (by decide) (pv 1)) (ma_nil)))))
    (mb_cons (ms_expr (B := [2]) (me_callN D_check_index (hr.mono (by decide : 2 ≤ 4)) (takes_of rfl rfl rfl rfl) (ma_cons (me_var 2 (by decide) (pv 2)) (ma_nil))))
    (mb_cons (ms_expr (B := [0]) (me_callN D_check_limit (hr.mono (by decide : 3 ≤ 4)) (takes_of rfl rfl rfl rfl) (ma_cons (me_var 0 (by decide) (pv 0)) (ma_nil))))
    (mb_cons (ms_tgt (B := [0, 1]) (me_callN D_numbers_before (hr.mono (by decide : 2 ≤ 4)) (takes_of rfl rfl rfl rfl) (ma_cons (me_var 0 (by decide) (pv 0)) (ma_cons (me_var 1 (by decide) (pv 1)) (ma_nil)))) (mg_tup rfl (pgn_cons sc_nth_before.nd rfl (.inl rfl) (pgn_cons sc_nth_before.nd rfl (.inl rfl) pgn_nil))))
    (mb_cons (ms_if (B := [2, 4, 5]) (mt_ck ck_ge (me_var 2 (by decide) (pv 2)) (me_add (me_var 4 (by decide) (pv 4)) (me_var 5 (by decide) (pv 5))))
    (mb_one (ms_never))
    (mb_nil))
    (mb_cons (ms_tgt (B := [0]) (me_callN D_borders (hr.mono (by decide : 1 ≤ 4)) (takes_of rfl rfl rfl rfl) (ma_cons (me_var 0 (by decide) (pv 0)) (ma_nil))) (mg_tup rfl (pgn_cons sc_nth_before.nd rfl (.inl rfl) (pgn_cons sc_nth_before.nd rfl (.inl rfl) pgn_nil))))
    (mb_cons (ms_if (B := [2, 4]) (mt_ck ck_lt (me_var 2 (by decide) (pv 2)) (me_var 4 (by decide) (pv 4)))
    (mb_one (ms_ret (B := [0, 1, 2, 6, 8]) (me_callN D_joined (hr.mono (by decide : 1 ≤ 4)) (takes_of rfl rfl rfl rfl) (ma_cons (me_add (me_comp (own := [("side", 8)]) rfl sc_nth_before.nd (mi_any (me_callN D_nth_sides (hr.mono (by decide : 2 ≤ 4)) (takes_of rfl rfl rfl rfl) (ma_cons (me_var 6 (by decide) (pv 6)) (ma_cons (me_var 1 (by decide) (pv 1)) (ma_cons (me_var 2 (by decide) (pv 2)) (ma_nil)))))) (blkOk_by (own := [("side", 8)]) (by kernel_rfl)) (by decide) (fun _ _ _ _ _ => (mg_name sc_nth_before.nd rfl (.inl rfl))) (fun _ _ _ _ _ => mts_nil) (fun _ _ _ _ _ => me_tup (ma_cons (me_var 8 (by decide) (pv 8)) (ma_cons (me_int) (ma_nil))))) (me_bik (bk_list) (.inr ⟨_, rfl⟩) (ma_cons (me_sl (me_var 0 (by decide) (pv 0)) (mo_some (me_int)) (mo_none)) (ma_nil)) rfl T.b_list bo_list)) (ma_nil)))))
    (mb_nil))
    (mb_cons (asg_of (set_run (B := [0, 1, 7]) (i := 3) (me_sub (me_var 7 (by decide) (pv 7)) (me_sub (me_add (me_callN D_count_posts (hr.mono (by decide : 1 ≤ 4)) (takes_of rfl rfl rfl rfl) (ma_cons (me_var 0 (by decide) (pv 0)) (ma_nil))) (me_int)) (me_var 1 (by decide) (pv 1)))) sc_nth_before.nd rfl (.inl rfl)))
    (mb_one (ms_ret (B := [0, 2, 3, 4, 7, 8]) (me_callN D_joined (hr.mono (by decide : 1 ≤ 4)) (takes_of rfl rfl rfl rfl) (ma_cons (me_add (me_bik (bk_list) (.inr ⟨_, rfl⟩) (ma_cons (me_sl (me_var 0 (by decide) (pv 0)) (mo_none) (mo_some (me_neg (me_int)))) (ma_nil)) rfl T.b_list bo_list) (me_comp (own := [("side", 8)]) rfl sc_nth_before.nd (mi_any (me_callN D_nth_sides (hr.mono (by decide : 2 ≤ 4)) (takes_of rfl rfl rfl rfl) (ma_cons (me_var 7 (by decide) (pv 7)) (ma_cons (me_var 3 (by decide) (pv 3)) (ma_cons (me_sub (me_var 2 (by decide) (pv 2)) (me_var 4 (by decide) (pv 4))) (ma_nil)))))) (blkOk_by (own := [("side", 8)]) (by kernel_rfl)) (by decide) (fun _ _ _ _ _ => (mg_name sc_nth_before.nd rfl (.inl rfl))) (fun _ _ _ _ _ => mts_nil) (fun _ _ _ _ _ => me_tup (ma_cons (me_var 8 (by decide) (pv 8)) (ma_cons (me_int) (ma_nil)))))) (ma_nil)))))))))))))
theorem w__law_limit (T : Fct K mg) {f : Addr} {fd : FuncData} (hm : mg "_law_limit" = some (.ref f)) (hF : Fun K "_law_limit" "_law_limit" s__law_limit f fd) (hB : Binds K fd ["door", "line", "start"] []) (D_count_before : Dfn P w K mg base "count_before" s_count_before 5 ["posts", "place"] F_count_before) (D_count_all_before : Dfn P w K mg base "count_all_before" s_count_all_before 5 ["posts"] F_count_all_before) (D_nth_before : Dfn P w K mg base "nth_before" s_nth_before 5 ["posts", "place", "index"] F_nth_before)  : Dfn P w K mg base "_law_limit" s__law_limit 6 ["door", "line", "start"] F__law_limit := by
  have e : s__law_limit = s__law_limit := rfl
  conv at e => rhs; whnf
  have hS := sc__law_limit
  show Dfn P w K mg base "_law_limit" s__law_limit (5 + 1) ["door", "line", "start"] (runF N__law_limit.length m__law_limit)
  refine dfn_mkE (k := 5) (m := m__law_limit) e hm hF hB hS ?_
  intro cdv A outer s H E hr
  exact mb_cons (ms_tryF (i := 3) T.x__law_limit T.xf__law_limit rfl (by decide) sc__law_limit.nd rfl rfl (takes_of rfl rfl rfl rfl) (fun W pn xe tk pp => mb_one (ms_if (B := [0]) (mt_ck (ck_eq (hu64 hr)) (me_var 0 (by decide) (pv 0)) (me_int))
    (mb_one (ms_expr (B := [1, 2]) (me_callN D_count_before (hr.mono (by decide : 5 ≤ 5)) tk (ma_cons (me_var 1 (by decide) (pv 1)) (ma_cons (me_var 2 (by decide) (pv 2)) (ma_nil))))))
    (mb_one (ms_if (B := [0]) (mt_ck (ck_eq (hu64 hr)) (me_var 0 (by decide) (pv 0)) (me_int))
    (mb_one (ms_expr (B := [1]) (me_callN D_count_all_before (hr.mono (by decide : 5 ≤ 5)) tk (ma_cons (me_var 1 (by decide) (pv 1)) (ma_nil)))))
    (mb_one (ms_expr (B := [1, 2]) (me_callN D_nth_before (hr.mono (by decide : 5 ≤ 5)) tk (ma_cons (me_var 1 (by decide) (pv 1)) (ma_cons (me_var 2 (by decide) (pv 2)) (ma_cons (me_int) (ma_nil))))))))))))
    (mb_one (ms_ret (B := []) (me_int)))
theorem w__law_size (T : Fct K mg) {f : Addr} {fd : FuncData} (hm : mg "_law_size" = some (.ref f)) (hF : Fun K "_law_size" "_law_size" s__law_size f fd) (hB : Binds K fd ["line"] [])   : Dfn P w K mg base "_law_size" s__law_size 1 ["line"] F__law_size := by
  have e : s__law_size = s__law_size := rfl
  conv at e => rhs; whnf
  have hS := sc__law_size
  show Dfn P w K mg base "_law_size" s__law_size (0 + 1) ["line"] (runF N__law_size.length m__law_size)
  refine dfn_mkE (k := 0) (m := m__law_size) e hm hF hB hS ?_
  intro cdv A outer s H E hr
  exact mb_one (ms_ret (B := [0, 2]) (me_bik (bk_sum rfl) (.inl ⟨_, rfl⟩) (ma_cons (me_comp (own := [("side", 1), ("many", 2)]) rfl sc__law_size.nd (mi_any (me_var 0 (by decide) (pv 0))) (blkOk_by (own := [("side", 1), ("many", 2)]) (by kernel_rfl)) (by decide) (fun _ _ _ _ _ => (mg_tup rfl (pgn_cons sc__law_size.nd rfl (.inl rfl) (pgn_cons sc__law_size.nd rfl (.inl rfl) pgn_nil)))) (fun _ _ _ _ _ => mts_nil) (fun _ _ _ _ _ => me_var 2 (by decide) (pv 2))) (ma_nil)) rfl T.b_sum bo_sum))
theorem w__law_start (T : Fct K mg) {f : Addr} {fd : FuncData} (hm : mg "_law_start" = some (.ref f)) (hF : Fun K "_law_start" "_law_start" s__law_start f fd) (hB : Binds K fd ["bag", "line"] []) (D__law_size : Dfn P w K mg base "_law_size" s__law_size 1 ["line"] F__law_size) (D__law_take : Dfn P w K mg base "_law_take" s__law_take 1 ["bag", "limit"] F__law_take)  : Dfn P w K mg base "_law_start" s__law_start 2 ["bag", "line"] F__law_start := by
  have e : s__law_start = s__law_start := rfl
  conv at e => rhs; whnf
  have hS := sc__law_start
  show Dfn P w K mg base "_law_start" s__law_start (1 + 1) ["bag", "line"] (runF N__law_start.length m__law_start)
  refine dfn_mkE (k := 1) (m := m__law_start) e hm hF hB hS ?_
  intro cdv A outer s H E hr
  exact mb_cons (ms_par2 (B := [1]) (i := 3) (j := 4) (me_callN D__law_size (hr.mono (by decide : 1 ≤ 1)) (takes_of rfl rfl rfl rfl) (ma_cons (me_var 1 (by decide) (pv 1)) (ma_nil))) (me_int) rfl sc__law_start.nd rfl rfl (by decide) rfl rfl (by rfl))
    (mb_cons (ms_for (B := [0, 1]) (passes_of rfl) rfl (mi_any (me_sl (me_var 1 (by decide) (pv 1)) (mo_none) (mo_some (me_callN D__law_take (hr.mono (by decide : 1 ≤ 1)) (takes_of rfl rfl rfl rfl) (ma_cons (me_var 0 (by decide) (pv 0)) (ma_cons (me_add (me_bik (bk_len) (.inl ⟨_, rfl⟩) (ma_cons (me_var 1 (by decide) (pv 1)) (ma_nil)) rfl T.b_len bo_len) (me_int)) (ma_nil))))))) (mg_tup rfl (pgn_cons sc__law_start.nd rfl (.inl rfl) (pgn_cons sc__law_start.nd rfl (.inl rfl) pgn_nil)))
    (mb_one (asg_of (set_run (B := [4, 6]) (i := 4) (me_add (me_var 4 (by decide) (pv 4)) (me_var 6 (by decide) (pv 6))) sc__law_start.nd rfl (.inl rfl)))))
    (mb_cons (asg_of (set_run (B := [0, 3, 4]) (i := 2) (me_lst (ma_cons (me_var 4 (by decide) (pv 4)) (ma_cons (me_add (me_var 4 (by decide) (pv 4)) (me_int)) (ma_cons (me_sub (me_var 4 (by decide) (pv 4)) (me_int)) (ma_cons (me_var 3 (by decide) (pv 3)) (ma_cons (me_int) (ma_cons (me_add (me_int) (me_callN D__law_take (hr.mono (by decide : 1 ≤ 1)) (takes_of rfl rfl rfl rfl) (ma_cons (me_var 0 (by decide) (pv 0)) (ma_cons (me_var 3 (by decide) (pv 3)) (ma_nil))))) (ma_nil)))))))) sc__law_start.nd rfl (.inl rfl)))
    (mb_one (ms_ret (B := [0, 2, 3]) (me_bik (bk_max rfl) (.inl ⟨_, rfl⟩) (ma_cons (me_int) (ma_cons (me_bik (bk_min rfl) (.inl ⟨_, rfl⟩) (ma_cons (me_var 3 (by decide) (pv 3)) (ma_cons (me_ix (me_var 2 (by decide) (pv 2)) (me_callN D__law_take (hr.mono (by decide : 1 ≤ 1)) (takes_of rfl rfl rfl rfl) (ma_cons (me_var 0 (by decide) (pv 0)) (ma_cons (me_int) (ma_nil))))) (ma_nil))) rfl T.b_min bo_min) (ma_nil))) rfl T.b_max bo_max)))))
theorem w__law_rights (T : Fct K mg) {f : Addr} {fd : FuncData} (hm : mg "_law_rights" = some (.ref f)) (hF : Fun K "_law_rights" "_law_rights" s__law_rights f fd) (hB : Binds K fd ["line"] [])   : Dfn P w K mg base "_law_rights" s__law_rights 1 ["line"] F__law_rights := by
  have e : s__law_rights = s__law_rights := rfl
  conv at e => rhs; whnf
  have hS := sc__law_rights
  show Dfn P w K mg base "_law_rights" s__law_rights (0 + 1) ["line"] (runF N__law_rights.length m__law_rights)
  refine dfn_mkE (k := 0) (m := m__law_rights) e hm hF hB hS ?_
  intro cdv A outer s H E hr
  exact mb_one (ms_ret (B := [0, 1, 2]) (me_bik (bk_sum rfl) (.inl ⟨_, rfl⟩) (ma_cons (me_comp (own := [("side", 1), ("many", 2)]) rfl sc__law_rights.nd (mi_any (me_var 0 (by decide) (pv 0))) (blkOk_by (own := [("side", 1), ("many", 2)]) (by kernel_rfl)) (by decide) (fun _ _ _ _ _ => (mg_tup rfl (pgn_cons sc__law_rights.nd rfl (.inl rfl) (pgn_cons sc__law_rights.nd rfl (.inl rfl) pgn_nil)))) (fun _ _ _ _ _ => mts_one (mt_ck (ck_eq (hu64 hr)) (me_var 1 (by decide) (pv 1)) (me_str))) (fun _ _ _ _ _ => me_var 2 (by decide) (pv 2))) (ma_nil)) rfl T.b_sum bo_sum))
theorem w__law_nth_left (T : Fct K mg) {f : Addr} {fd : FuncData} (hm : mg "_law_nth_left" = some (.ref f)) (hF : Fun K "_law_nth_left" "_law_nth_left" s__law_nth_left f fd) (hB : Binds K fd ["line", "number"] [])   : Dfn P w K mg base "_law_nth_left" s__law_nth_left 1 ["line", "number"] F__law_nth_left := by
  have e : s__law_nth_left = s__law_nth_left := rfl
  conv at e => rhs; whnf
  have hS := sc__law_nth_left
  show Dfn P w K mg base "_law_nth_left" s__law_nth_left (0 + 1) ["line", "number"] (runF N__law_nth_left.length m__law_nth_left)
  refine dfn_mkE (k := 0) (m := m__law_nth_left) e hm hF hB hS ?_
  intro cdv A outer s H E hr
  exact mb_cons (ms_par2 (B := [1]) (i := 2) (j := 3) (me_int) (me_var 1 (by decide) (pv 1)) rfl sc__law_nth_left.nd rfl rfl (by decide) rfl rfl (by rfl))
    (mb_cons (ms_for (B := [0]) (passes_of rfl) rfl (mi_any (me_var 0 (by decide) (pv 0))) (mg_tup rfl (pgn_cons sc__law_nth_left.nd rfl (.inl rfl) (pgn_cons sc__law_nth_left.nd rfl (.inl rfl) pgn_nil)))
    (mb_cons (ms_if (B := [3, 4, 5]) (mt_w (mw_and (mt_ck (ck_eq (hu64 hr)) (me_var 4 (by decide) (pv 4)) (me_str)) (mw_and1 (mt_chain ck_lt ck_le (me_int) (me_var 3 (by decide) (pv 3)) (me_var 5 (by decide) (pv 5))))))
    (mb_one (ms_ret (B := [2, 3]) (me_add (me_var 2 (by decide) (pv 2)) (me_var 3 (by decide) (pv 3)))))
    (mb_nil))
    (mb_cons (asg_of (set_run (B := [3, 4, 5]) (i := 3) (me_sub (me_var 3 (by decide) (pv 3)) (me_mulA (me_var 5 (by decide) (pv 5)) (me_bik (bk_int) (.inr ⟨_, rfl⟩) (ma_cons (me_ck (ck_eq (hu64 hr)) (me_var 4 (by decide) (pv 4)) (me_str)) (ma_nil)) rfl T.b_int bo_int))) sc__law_nth_left.nd rfl (.inl rfl)))
    (mb_one (asg_of (set_run (B := [2, 5]) (i := 2) (me_add (me_var 2 (by decide) (pv 2)) (me_var 5 (by decide) (pv 5))) sc__law_nth_left.nd rfl (.inl rfl)))))))
    (mb_one (ms_ret (B := []) (me_int))))
theorem w__law_joined (T : Fct K mg) {f : Addr} {fd : FuncData} (hm : mg "_law_joined" = some (.ref f)) (hF : Fun K "_law_joined" "_law_joined" s__law_joined f fd) (hB : Binds K fd ["runs"] [])   : Dfn P w K mg base "_law_joined" s__law_joined 1 ["runs"] F__law_joined := by
  have e : s__law_joined = s__law_joined := rfl
  conv at e => rhs; whnf
  have hS := sc__law_joined
  show Dfn P w K mg base "_law_joined" s__law_joined (0 + 1) ["runs"] (runF N__law_joined.length m__law_joined)
  refine dfn_mkE (k := 0) (m := m__law_joined) e hm hF hB hS ?_
  intro cdv A outer s H E hr
  exact mb_cons (own_of (set_run (B := []) (i := 1) (me_lst (ma_nil)) sc__law_joined.nd rfl (.inl rfl)))
    (mb_cons (ms_for (B := [0]) (passes_of rfl) rfl (mi_any (me_var 0 (by decide) (pv 0))) (mg_tup rfl (pgn_cons sc__law_joined.nd rfl (.inl rfl) (pgn_cons sc__law_joined.nd rfl (.inl rfl) pgn_nil)))
    (mb_one (ms_if (B := [1, 2, 3]) (mt_w (mw_and (mt_ck ck_gt (me_var 3 (by decide) (pv 3)) (me_int)) (mw_and (mt_ck (ck_ne (hu64 hr)) (me_var 1 (by decide) (pv 1)) (me_lst (ma_nil))) (mw_and1 (mt_ck (ck_eq (hu64 hr)) (me_ix (me_ix (me_var 1 (by decide) (pv 1)) (me_neg (me_int))) (me_int)) (me_var 2 (by decide) (pv 2)))))))
    (mb_one (ms_setI (B := [2, 3]) 1 (me_flat (B' := [1, 2, 3]) (me_tup (ma_cons (me_var 2 (by decide) (pv 2)) (ma_cons (me_add (me_ix (me_ix (me_var 1 (by decide) (pv 1)) (me_neg (me_int))) (me_int)) (me_var 3 (by decide) (pv 3))) (ma_nil)))) (by decide)) (pv 1) (me_neg (me_int)) (by decide)))
    (mb_one (ms_if (B := [3]) (mt_ck ck_gt (me_var 3 (by decide) (pv 3)) (me_int))
    (mb_one (ms_expr (B := [2, 3]) (me_append 1 (pv 1) (ma_cons (me_tup (ma_cons (me_var 2 (by decide) (pv 2)) (ma_cons (me_var 3 (by decide) (pv 3)) (ma_nil)))) (ma_nil)) (by decide))))
    (mb_nil))))))
    (mb_one (ms_ret (B := [1]) (me_bik (bk_tuple) (.inr ⟨_, rfl⟩) (ma_cons (me_var 1 (by decide) (pv 1)) (ma_nil)) rfl T.b_tuple bo_tuple))))
theorem w__law_settled (T : Fct K mg) {f : Addr} {fd : FuncData} (hm : mg "_law_settled" = some (.ref f)) (hF : Fun K "_law_settled" "_law_settled" s__law_settled f fd) (hB : Binds K fd ["size", "rights"] []) (D__law_joined : Dfn P w K mg base "_law_joined" s__law_joined 1 ["runs"] F__law_joined)  : Dfn P w K mg base "_law_settled" s__law_settled 2 ["size", "rights"] F__law_settled := by
  have e : s__law_settled = s__law_settled := rfl
  conv at e => rhs; whnf
  have hS := sc__law_settled
  show Dfn P w K mg base "_law_settled" s__law_settled (1 + 1) ["size", "rights"] (runF N__law_settled.length m__law_settled)
  refine dfn_mkE (k := 1) (m := m__law_settled) e hm hF hB hS ?_
  intro cdv A outer s H E hr
  exact mb_one (ms_ret (B := [0, 1]) (me_callN D__law_joined (hr.mono (by decide : 1 ≤ 1)) (takes_of rfl rfl rfl rfl) (ma_cons (me_lst (ma_cons (me_tup (ma_cons (me_str) (ma_cons (me_var 1 (by decide) (pv 1)) (ma_nil)))) (ma_cons (me_tup (ma_cons (me_str) (ma_cons (me_sub (me_var 0 (by decide) (pv 0)) (me_var 1 (by decide) (pv 1))) (ma_nil)))) (ma_nil)))) (ma_nil))))
theorem w__law_mirror (T : Fct K mg) {f : Addr} {fd : FuncData} (hm : mg "_law_mirror" = some (.ref f)) (hF : Fun K "_law_mirror" "_law_mirror" s__law_mirror f fd) (hB : Binds K fd ["line"] [])   : Dfn P w K mg base "_law_mirror" s__law_mirror 1 ["line"] F__law_mirror := by
  have e : s__law_mirror = s__law_mirror := rfl
  conv at e => rhs; whnf
  have hS := sc__law_mirror
  show Dfn P w K mg base "_law_mirror" s__law_mirror (0 + 1) ["line"] (runF N__law_mirror.length m__law_mirror)
  refine dfn_mkE (k := 0) (m := m__law_mirror) e hm hF hB hS ?_
  intro cdv A outer s H E hr
  exact mb_one (ms_ret (B := [0, 1, 2]) (me_bik (bk_tuple) (.inr ⟨_, rfl⟩) (ma_cons (me_comp (own := [("side", 1), ("many", 2)]) rfl sc__law_mirror.nd (mi_any (me_rev (me_var 0 (by decide) (pv 0)))) (blkOk_by (own := [("side", 1), ("many", 2)]) (by kernel_rfl)) (by decide) (fun _ _ _ _ _ => (mg_tup rfl (pgn_cons sc__law_mirror.nd rfl (.inl rfl) (pgn_cons sc__law_mirror.nd rfl (.inl rfl) pgn_nil)))) (fun _ _ _ _ _ => mts_nil) (fun _ _ _ _ _ => me_tup (ma_cons (me_sel (d1 := (.str "R")) (d2 := (.str "L")) (by decide) (hu1 hr) pe_str pe_str (fun _ _ => rfl) (fun _ _ => rfl) (me_var 1 (by decide) (pv 1))) (ma_cons (me_var 2 (by decide) (pv 2)) (ma_nil))))) (ma_nil)) rfl T.b_tuple bo_tuple))
theorem w__law_first (T : Fct K mg) {f : Addr} {fd : FuncData} (hm : mg "_law_first" = some (.ref f)) (hF : Fun K "_law_first" "_law_first" s__law_first f fd) (hB : Binds K fd ["line", "number"] []) (D__law_joined : Dfn P w K mg base "_law_joined" s__law_joined 1 ["runs"] F__law_joined)  : Dfn P w K mg base "_law_first" s__law_first 2 ["line", "number"] F__law_first := by
  have e : s__law_first = s__law_first := rfl
  conv at e => rhs; whnf
  have hS := sc__law_first
  show Dfn P w K mg base "_law_first" s__law_first (1 + 1) ["line", "number"] (runF N__law_first.length m__law_first)
  refine dfn_mkE (k := 1) (m := m__law_first) e hm hF hB hS ?_
  intro cdv A outer s H E hr
  exact mb_cons (ms_par2 (B := [1]) (i := 2) (j := 3) (me_lst (ma_nil)) (me_var 1 (by decide) (pv 1)) rfl sc__law_first.nd rfl rfl (by decide) rfl rfl (by rfl))
    (mb_cons (ms_for (B := [0]) (passes_of rfl) rfl (mi_any (me_var 0 (by decide) (pv 0))) (mg_tup rfl (pgn_cons sc__law_first.nd rfl (.inl rfl) (pgn_cons sc__law_first.nd rfl (.inl rfl) pgn_nil)))
    (mb_cons (asg_of (set_run (B := [3, 4, 5]) (i := 6) (me_if (mt_ck (ck_eq (hu64 hr)) (me_var 4 (by decide) (pv 4)) (me_str)) (me_bik (bk_min rfl) (.inl ⟨_, rfl⟩) (ma_cons (me_var 3 (by decide) (pv 3)) (ma_cons (me_var 5 (by decide) (pv 5)) (ma_nil))) rfl T.b_min bo_min) (me_int)) sc__law_first.nd rfl (.inl rfl)))
    (mb_cons (asg_of (set_run (B := [3, 6]) (i := 3) (me_sub (me_var 3 (by decide) (pv 3)) (me_var 6 (by decide) (pv 6))) sc__law_first.nd rfl (.inl rfl)))
    (mb_one (ms_expr (B := [4, 5, 6]) (me_extend 2 (pv 2) (ma_cons (me_lst (ma_cons (me_tup (ma_cons (me_str) (ma_cons (me_var 6 (by decide) (pv 6)) (ma_nil)))) (ma_cons (me_tup (ma_cons (me_var 4 (by decide) (pv 4)) (ma_cons (me_sub (me_var 5 (by decide) (pv 5)) (me_var 6 (by decide) (pv 6))) (ma_nil)))) (ma_nil)))) (ma_nil)) (by decide)))))))
    (mb_one (ms_ret (B := [2]) (me_callN D__law_joined (hr.mono (by decide : 1 ≤ 1)) (takes_of rfl rfl rfl rfl) (ma_cons (me_var 2 (by decide) (pv 2)) (ma_nil))))))
theorem w__law_last (T : Fct K mg) {f : Addr} {fd : FuncData} (hm : mg "_law_last" = some (.ref f)) (hF : Fun K "_law_last" "_law_last" s__law_last f fd) (hB : Binds K fd ["line", "number"] []) (D__law_mirror : Dfn P w K mg base "_law_mirror" s__law_mirror 1 ["line"] F__law_mirror) (D__law_first : Dfn P w K mg base "_law_first" s__law_first 2 ["line", "number"] F__law_first)  : Dfn P w K mg base "_law_last" s__law_last 3 ["line", "number"] F__law_last := by
  have e : s__law_last = s__law_last := rfl
  conv at e => rhs; whnf
  have hS := sc__law_last
  show Dfn P w K mg base "_law_last" s__law_last (2 + 1) ["line", "number"] (runF N__law_last.length m__law_last)
  refine dfn_mkE (k := 2) (m := m__law_last) e hm hF hB hS ?_
  intro cdv A outer s H E hr
  exact mb_one (ms_ret (B := [0, 1]) (me_callN D__law_mirror (hr.mono (by decide : 1 ≤ 2)) (takes_of rfl rfl rfl rfl) (ma_cons (me_callN D__law_first (hr.mono (by decide : 2 ≤ 2)) (takes_of rfl rfl rfl rfl) (ma_cons (me_callN D__law_mirror (hr.mono (by decide : 1 ≤ 2)) (takes_of rfl rfl rfl rfl) (ma_cons (me_var 0 (by decide) (pv 0)) (ma_nil))) (ma_cons (me_var 1 (by decide) (pv 1)) (ma_nil)))) (ma_nil))))
theorem w__law_block (T : Fct K mg) {f : Addr} {fd : FuncData} (hm : mg "_law_block" = some (.ref f)) (hF : Fun K "_law_block" "_law_block" s__law_block f fd) (hB : Binds K fd ["line", "start", "many"] []) (D__law_size : Dfn P w K mg base "_law_size" s__law_size 1 ["line"] F__law_size) (D__law_rights : Dfn P w K mg base "_law_rights" s__law_rights 1 ["line"] F__law_rights) (D__law_nth_left : Dfn P w K mg base "_law_nth_left" s__law_nth_left 1 ["line", "number"] F__law_nth_left) (D__law_settled : Dfn P w K mg base "_law_settled" s__law_settled 2 ["size", "rights"] F__law_settled) (D__law_mirror : Dfn P w K mg base "_law_mirror" s__law_mirror 1 ["line"] F__law_mirror) (D__law_first : Dfn P w K mg base "_law_first" s__law_first 2 ["line", "number"] F__law_first) (D__law_last : Dfn P w K mg base "_law_last" s__law_last 3 ["line", "number"] F__law_last)  : Dfn P w K mg base "_law_block" s__law_block 4 ["line", "start", "many"] F__law_block := by
  have e : s__law_block = s__law_block := rfl
  conv at e => rhs; whnf
  have hS := sc__law_block
  show Dfn P w K mg base "_law_block" s__law_block (3 + 1) ["line", "start", "many"] (runF N__law_block.length m__law_block)
  refine dfn_mkE (k := 3) (m := m__law_block) e hm hF hB hS ?_
  intro cdv A outer s H E hr
  exact mb_cons (ms_par2 (B := [0]) (i := 6) (j := 7) (me_callN D__law_size (hr.mono (by decide : 1 ≤ 3)) (takes_of rfl rfl rfl rfl) (ma_cons (me_var 0 (by decide) (pv 0)) (ma_nil))) (me_callN D__law_rights (hr.mono (by decide : 1 ≤ 3)) (takes_of rfl rfl rfl rfl) (ma_cons (me_var 0 (by decide) (pv 0)) (ma_nil))) rfl sc__law_block.nd rfl rfl (by decide) rfl rfl (by rfl))
    (mb_cons (asg_of (set_run (B := [1, 2, 6, 7]) (i := 3) (me_div (me_add (me_var 7 (by decide) (pv 7)) (me_mulA (me_var 1 (by decide) (pv 1)) (me_var 2 (by decide) (pv 2)))) (me_add (me_var 6 (by decide) (pv 6)) (me_int))) sc__law_block.nd rfl (.inl rfl)))
    (mb_cons (asg_of (set_run (B := [1, 2, 3]) (i := 4) (me_mulA (me_var 1 (by decide) (pv 1)) (me_sub (me_var 2 (by decide) (pv 2)) (me_var 3 (by decide) (pv 3)))) sc__law_block.nd rfl (.inl rfl)))
    (mb_cons (asg_of (set_run (B := [1, 3, 6]) (i := 5) (me_mulA (me_sub (me_add (me_var 6 (by decide) (pv 6)) (me_int)) (me_var 1 (by decide) (pv 1))) (me_var 3 (by decide) (pv 3))) sc__law_block.nd rfl (.inl rfl)))
    (mb_cons (ms_if (B := [4, 5, 6, 7]) (mt_w (mw_and (mt_ck ck_le (me_var 4 (by decide) (pv 4)) (me_sub (me_var 6 (by decide) (pv 6)) (me_var 7 (by decide) (pv 7)))) (mw_and1 (mt_ck ck_le (me_var 5 (by decide) (pv 5)) (me_var 7 (by decide) (pv 7))))))
    (mb_cons (asg_of (set_run (B := [0, 4]) (i := 8) (me_callN D__law_nth_left (hr.mono (by decide : 1 ≤ 3)) (takes_of rfl rfl rfl rfl) (ma_cons (me_var 0 (by decide) (pv 0)) (ma_cons (me_var 4 (by decide) (pv 4)) (ma_nil)))) sc__law_block.nd rfl (.inl rfl)))
    (mb_cons (asg_of (set_run (B := [0, 5, 6]) (i := 9) (me_sub (me_add (me_var 6 (by decide) (pv 6)) (me_int)) (me_callN D__law_nth_left (hr.mono (by decide : 1 ≤ 3)) (takes_of rfl rfl rfl rfl) (ma_cons (me_callN D__law_mirror (hr.mono (by decide : 1 ≤ 3)) (takes_of rfl rfl rfl rfl) (ma_cons (me_var 0 (by decide) (pv 0)) (ma_nil))) (ma_cons (me_var 5 (by decide) (pv 5)) (ma_nil))))) sc__law_block.nd rfl (.inl rfl)))
    (mb_one (ms_if (B := [8, 9]) (mt_ck ck_lt (me_var 8 (by decide) (pv 8)) (me_var 9 (by decide) (pv 9)))
    (mb_one (ms_ret (B := [0, 2, 3, 4, 5]) (me_tup (ma_cons (me_callN D__law_first (hr.mono (by decide : 2 ≤ 3)) (takes_of rfl rfl rfl rfl) (ma_cons (me_callN D__law_last (hr.mono (by decide : 3 ≤ 3)) (takes_of rfl rfl rfl rfl) (ma_cons (me_var 0 (by decide) (pv 0)) (ma_cons (me_var 5 (by decide) (pv 5)) (ma_nil)))) (ma_cons (me_var 4 (by decide) (pv 4)) (ma_nil)))) (ma_cons (me_sub (me_var 2 (by decide) (pv 2)) (me_var 3 (by decide) (pv 3))) (ma_cons (me_var 3 (by decide) (pv 3)) (ma_nil)))))))
    (mb_nil)))))
    (mb_nil))
    (mb_one (ms_ret (B := [1, 2, 3, 6, 7]) (me_tup (ma_cons (me_callN D__law_settled (hr.mono (by decide : 2 ≤ 3)) (takes_of rfl rfl rfl rfl) (ma_cons (me_var 6 (by decide) (pv 6)) (ma_cons (me_mod (me_add (me_var 7 (by decide) (pv 7)) (me_mulA (me_var 1 (by decide) (pv 1)) (me_var 2 (by decide) (pv 2)))) (me_add (me_var 6 (by decide) (pv 6)) (me_int))) (ma_nil)))) (ma_cons (me_sub (me_var 2 (by decide) (pv 2)) (me_var 3 (by decide) (pv 3))) (ma_cons (me_var 3 (by decide) (pv 3)) (ma_nil)))))))))))
theorem w_can_be_before (T : Fct K mg) {f : Addr} {fd : FuncData} (hm : mg "can_be_before" = some (.ref f)) (hF : Fun K "can_be_before" "can_be_before" s_can_be_before f fd) (hB : Binds K fd ["posts", "place"] []) (D_check_posts : Dfn P w K mg base "check_posts" s_check_posts 4 ["posts"] F_check_posts) (D_check_place : Dfn P w K mg base "check_place" s_check_place 3 ["posts", "place"] F_check_place) (D_borders : Dfn P w K mg base "borders" s_borders 1 ["goal"] F_borders) (D_count_posts : Dfn P w K mg base "count_posts" s_count_posts 1 ["posts"] F_count_posts)  : Dfn P w K mg base "can_be_before" s_can_be_before 5 ["posts", "place"] F_can_be_before := by
  have e : s_can_be_before = s_can_be_before := rfl
  conv at e => rhs; whnf
  have hS := sc_can_be_before
  show Dfn P w K mg base "can_be_before" s_can_be_before (4 + 1) ["posts", "place"] (runF N_can_be_before.length m_can_be_before)
  refine dfn_mkE (k := 4) (m := m_can_be_before) e hm hF hB hS ?_
  intro cdv A outer s H E hr
  exact mb_cons (ms_expr (B := [0]) (me_callN D_check_posts (hr.mono (by decide : 4 ≤ 4)) (takes_of rfl rfl rfl rfl) (ma_cons (me_var 0 (by decide) (pv 0)) (ma_nil))))
    (mb_cons (ms_expr (B := [0, 1]) (me_callN D_check_place (hr.mono (by decide : 3 ≤ 4)) (takes_of rfl rfl rfl rfl) (ma_cons (me_var 0 (by decide) (pv 0)) (ma_cons (me_var 1 (by decide) (pv 1)) (ma_nil)))))
    (mb_cons (ms_tgt (B := [0]) (me_callN D_borders (hr.mono (by decide : 1 ≤ 4)) (takes_of rfl rfl rfl rfl) (ma_cons (me_var 0 (by decide) (pv 0)) (ma_nil))) (mg_tup rfl (pgn_cons sc_can_be_before.nd rfl (.inl rfl) (pgn_cons sc_can_be_before.nd rfl (.inl rfl) pgn_nil))))
    (mb_one (ms_ret (B := [0, 1, 2, 3]) (me_or (me_ck ck_le (me_var 1 (by decide) (pv 1)) (me_var 2 (by decide) (pv 2))) (me_one (me_ck ck_le (me_sub (me_add (me_callN D_count_posts (hr.mono (by decide : 1 ≤ 4)) (takes_of rfl rfl rfl rfl) (ma_cons (me_var 0 (by decide) (pv 0)) (ma_nil))) (me_int)) (me_var 1 (by decide) (pv 1))) (me_var 3 (by decide) (pv 3)))))))))
theorem w__law_same (T : Fct K mg) {f : Addr} {fd : FuncData} (hm : mg "_law_same" = some (.ref f)) (hF : Fun K "_law_same" "_law_same" s__law_same f fd) (hB : Binds K fd ["found", "due"] [])   : ∀ n, Dfn P w K mg base "_law_same" s__law_same (1 + n) ["found", "due"] (Fr__law_same n)
  | 0 => dfn_bad hm hF hB
  | n + 1 => by
    have e : s__law_same = s__law_same := rfl
    conv at e => rhs; whnf
    have hS := sc__law_same
    have D__law_same := w__law_same T hm hF hB  n
    show Dfn P w K mg base "_law_same" s__law_same (1 + n + 1) ["found", "due"] (runF N__law_same.length (mr__law_same (Fr__law_same n)))
    refine dfn_mkE (k := 1 + n) (m := mr__law_same (Fr__law_same n)) e hm hF hB hS ?_
    intro cdv A outer s H E hr
    exact mb_cons (ms_if (B := [1]) (mt_truth (me_isi2 .lst .tup (me_var 1 (by decide) (pv 1)) rfl T.b_isinstance rfl T.b_list bo_list rfl T.b_tuple bo_tuple))
      (mb_cons (ms_if (B := [0, 1]) (mt_w (mw_or (mt_ck (ck_ne (hu64 hr)) (me_isi .lst (me_var 0 (by decide) (pv 0)) rfl T.b_isinstance rfl T.b_list bo_list) (me_isi .lst (me_var 1 (by decide) (pv 1)) rfl T.b_isinstance rfl T.b_list bo_list)) (mw_or1 (mt_not (mt_truth (me_isi2 .lst .tup (me_var 0 (by decide) (pv 0)) rfl T.b_isinstance rfl T.b_list bo_list rfl T.b_tuple bo_tuple))))))
      (mb_one (ms_ret (B := []) (me_bl)))
      (mb_nil))
      (mb_cons (ms_if (B := [0, 1]) (mt_ck (ck_ne (hu64 hr)) (me_bik (bk_len) (.inl ⟨_, rfl⟩) (ma_cons (me_var 0 (by decide) (pv 0)) (ma_nil)) rfl T.b_len bo_len) (me_bik (bk_len) (.inl ⟨_, rfl⟩) (ma_cons (me_var 1 (by decide) (pv 1)) (ma_nil)) rfl T.b_len bo_len))
      (mb_one (ms_ret (B := []) (me_bl)))
      (mb_nil))
      (mb_one (ms_ret (B := [0, 1, 2]) (me_bik (bk_all rfl) (.inl ⟨_, rfl⟩) (ma_cons (me_comp (own := [("k", 2)]) rfl sc__law_same.nd (mi_r1 (ma_cons (me_bik (bk_len) (.inl ⟨_, rfl⟩) (ma_cons (me_var 1 (by decide) (pv 1)) (ma_nil)) rfl T.b_len bo_len) (ma_nil)) rfl T.b_range) (blkOk_by (own := [("k", 2)]) (by kernel_rfl)) (by decide) (fun _ _ _ _ _ => (mg_name sc__law_same.nd rfl (.inl rfl))) (fun _ _ _ _ _ => mts_nil) (fun _ _ _ _ _ => me_callN D__law_same (hr.mono (Nat.le_refl _)) takes0 (ma_cons (me_ix (me_var 0 (by decide) (pv 0)) (me_var 2 (by decide) (pv 2))) (ma_cons (me_ix (me_var 1 (by decide) (pv 1)) (me_var 2 (by decide) (pv 2))) (ma_nil))))) (ma_nil)) rfl T.b_all bo_all)))))
      (mb_nil))
      (mb_cons (ms_if (B := [0, 1]) (mt_w (mw_or (mt_ck ck_is (me_var 1 (by decide) (pv 1)) (me_non)) (mw_or1 (mt_ck ck_is (me_var 0 (by decide) (pv 0)) (me_non)))))
      (mb_one (ms_ret (B := [0, 1]) (me_and (me_ck ck_is (me_var 1 (by decide) (pv 1)) (me_non)) (me_one (me_ck ck_is (me_var 0 (by decide) (pv 0)) (me_non))))))
      (mb_nil))
      (mb_cons (ms_if (B := [0, 1]) (mt_w (mw_or (mt_truth (me_isi .bl (me_var 1 (by decide) (pv 1)) rfl T.b_isinstance rfl T.b_bool bo_bool)) (mw_or1 (mt_truth (me_isi .bl (me_var 0 (by decide) (pv 0)) rfl T.b_isinstance rfl T.b_bool bo_bool)))))
      (mb_one (ms_ret (B := [0, 1]) (me_and (me_isi .bl (me_var 1 (by decide) (pv 1)) rfl T.b_isinstance rfl T.b_bool bo_bool) (me_and (me_isi .bl (me_var 0 (by decide) (pv 0)) rfl T.b_isinstance rfl T.b_bool bo_bool) (me_one (me_ck (ck_eq (hu64 hr)) (me_var 0 (by decide) (pv 0)) (me_var 1 (by decide) (pv 1))))))))
      (mb_nil))
      (mb_one (ms_ret (B := [0, 1]) (me_ck (ck_eq (hu64 hr)) (me_var 0 (by decide) (pv 0)) (me_var 1 (by decide) (pv 1)))))))
theorem w_law (T : Fct K mg) {f : Addr} {fd : FuncData} (hF : Fun K "law" "law" s_law f fd) (D__law_bag : Dfn P w K mg base "_law_bag" s__law_bag 1 ["cell", "k"] F__law_bag) (D__law_cell_at : Dfn P w K mg base "_law_cell_at" s__law_cell_at 1 ["script", "k"] F__law_cell_at) (D__law_wide : Dfn P w K mg base "_law_wide" s__law_wide 2 ["bag", "most"] F__law_wide) (D__law_take : Dfn P w K mg base "_law_take" s__law_take 1 ["bag", "limit"] F__law_take) (D__law_ends : Dfn P w K mg base "_law_ends" s__law_ends 1 ["line"] F__law_ends) (D__law_limit : Dfn P w K mg base "_law_limit" s__law_limit 6 ["door", "line", "start"] F__law_limit) (D__law_start : Dfn P w K mg base "_law_start" s__law_start 2 ["bag", "line"] F__law_start) (D__law_size : Dfn P w K mg base "_law_size" s__law_size 1 ["line"] F__law_size) (D__law_block : Dfn P w K mg base "_law_block" s__law_block 4 ["line", "start", "many"] F__law_block) (D_can_be_before : Dfn P w K mg base "can_be_before" s_can_be_before 5 ["posts", "place"] F_can_be_before) (D__law_same : Dfn P w K mg base "_law_same" s__law_same 7 ["found", "due"] F__law_same)  : FnOk P w K mg base (L2.CX P w) 8 f fd ["script"] (spM K mg 1 F_law) := by
  have e : s_law = s_law := rfl
  conv at e => rhs; whnf
  have hS := sc_law
  show FnOk P w K mg base (L2.CX P w) (7 + 1) f fd ["script"] (spM K mg ["script"].length (runF N_law.length m_law))
  refine fn_mkE (k := 7) (m := m_law) e hF hS ?_
  intro cdv A outer s H E hr
  exact mb_cons (ms_for (B := [0]) (passes_of rfl) rfl (mi_r1 (ma_cons (me_bik (bk_max rfl) (.inl ⟨_, rfl⟩) (ma_cons (me_int) (ma_cons (me_bik (bk_min rfl) (.inl ⟨_, rfl⟩) (ma_cons (me_int) (ma_cons (me_bik (bk_len) (.inl ⟨_, rfl⟩) (ma_cons (me_var 0 (by decide) (pv 0)) (ma_nil)) rfl T.b_len bo_len) (ma_nil))) rfl T.b_min bo_min) (ma_nil))) rfl T.b_max bo_max) (ma_nil)) rfl T.b_range) (mg_name sc_law.nd rfl (.inl rfl))
    (mb_cons (cell_of (set_run (B := [0, 1]) (i := 2) (me_callN D__law_bag (hr.mono (by decide : 1 ≤ 7)) (takes_of rfl rfl rfl rfl) (ma_cons (me_callN D__law_cell_at (hr.mono (by decide : 1 ≤ 7)) (takes_of rfl rfl rfl rfl) (ma_cons (me_var 0 (by decide) (pv 0)) (ma_cons (me_var 1 (by decide) (pv 1)) (ma_nil)))) (ma_cons (me_var 1 (by decide) (pv 1)) (ma_nil)))) sc_law.nd rfl (.inl rfl)))
    (mb_cons (ms_for (B := []) (passes_of rfl) rfl (mi_r1 (ma_cons (me_int) (ma_nil)) rfl T.b_range) (mg_name sc_law.nd rfl (.inl rfl))
    (mb_cons (asg_of (set_run (B := [2]) (i := 5) (me_callN D__law_wide (hr.mono (by decide : 2 ≤ 7)) (takes_of rfl rfl rfl rfl) (ma_cons (me_var 2 (by decide) (pv 2)) (ma_cons (me_int) (ma_nil)))) sc_law.nd rfl (.inr rfl)))
    (mb_one (ms_for (B := []) (passes_of rfl) rfl (mi_r1 (ma_cons (me_int) (ma_nil)) rfl T.b_range) (mg_name sc_law.nd rfl (.inl rfl))
    (mb_cons (ms_tgt (B := [2, 5]) (me_tup (ma_cons (me_callN D__law_start (hr.mono (by decide : 2 ≤ 7)) (takes_of rfl rfl rfl rfl) (ma_cons (me_var 2 (by decide) (pv 2)) (ma_cons (me_var 5 (by decide) (pv 5)) (ma_nil)))) (ma_cons (me_callN D__law_size (hr.mono (by decide : 1 ≤ 7)) (takes_of rfl rfl rfl rfl) (ma_cons (me_var 5 (by decide) (pv 5)) (ma_nil))) (ma_nil)))) (mg_tup rfl (pgn_cons sc_law.nd rfl (.inr rfl) (pgn_cons sc_law.nd rfl (.inl rfl) pgn_nil))))
    (mb_cons (ms_tgt (B := [5]) (me_callN D__law_ends (hr.mono (by decide : 1 ≤ 7)) (takes_of rfl rfl rfl rfl) (ma_cons (me_var 5 (by decide) (pv 5)) (ma_nil))) (mg_tup rfl (pgn_cons sc_law.nd rfl (.inl rfl) (pgn_cons sc_law.nd rfl (.inl rfl) pgn_nil))))
    (mb_cons (asg_of (set_run (B := [10, 11, 12, 13]) (i := 7) (me_lst (ma_cons (me_var 10 (by decide) (pv 10)) (ma_cons (me_bik (bk_max rfl) (.inl ⟨_, rfl⟩) (ma_cons (me_int) (ma_cons (me_var 12 (by decide) (pv 12)) (ma_nil))) rfl T.b_max bo_max) (ma_cons (me_bik (bk_min rfl) (.inl ⟨_, rfl⟩) (ma_cons (me_var 11 (by decide) (pv 11)) (ma_cons (me_add (me_var 12 (by decide) (pv 12)) (me_int)) (ma_nil))) rfl T.b_min bo_min) (ma_cons (me_bik (bk_min rfl) (.inl ⟨_, rfl⟩) (ma_cons (me_var 11 (by decide) (pv 11)) (ma_cons (me_sub (me_add (me_var 11 (by decide) (pv 11)) (me_int)) (me_var 13 (by decide) (pv 13))) (ma_nil))) rfl T.b_min bo_min) (ma_cons (me_bik (bk_max rfl) (.inl ⟨_, rfl⟩) (ma_cons (me_int) (ma_cons (me_sub (me_var 11 (by decide) (pv 11)) (me_var 13 (by decide) (pv 13))) (ma_nil))) rfl T.b_max bo_max) (ma_nil))))))) sc_law.nd rfl (.inl rfl)))
    (mb_cons (ms_for (B := [7]) (passes_of rfl) rfl (mi_any (me_var 7 (by decide) (pv 7))) (mg_name sc_law.nd rfl (.inl rfl))
    (mb_cons (asg_of (set_run (B := [8, 11, 12, 13]) (i := 14) (me_or (me_ck ck_le (me_var 8 (by decide) (pv 8)) (me_var 12 (by decide) (pv 12))) (me_one (me_ck ck_le (me_sub (me_add (me_var 11 (by decide) (pv 11)) (me_int)) (me_var 8 (by decide) (pv 8))) (me_var 13 (by decide) (pv 13))))) sc_law.nd rfl (.inl rfl)))
    (mb_cons (asg_of (set_run (B := [5, 8]) (i := 15) (me_lst (ma_cons (me_callN D_can_be_before (hr.mono (by decide : 5 ≤ 7)) (takes_of rfl rfl rfl rfl) (ma_cons (me_var 5 (by decide) (pv 5)) (ma_cons (me_var 8 (by decide) (pv 8)) (ma_nil)))) (ma_cons (me_callK0N (ks := ["place", "posts"]) (ix := [1, 0]) D_can_be_before (hr.mono (by decide : 5 ≤ 7)) (takes_of rfl rfl rfl rfl) (fun _ _ _ _ _ _ us ws h1 h2 => match us, h1, ws, h2 with | [], _, [_, _], _ => rfl) (mk_cons (me_var 8 (by decide) (pv 8)) (mk_cons (me_var 5 (by decide) (pv 5)) (mk_nil)))) (ma_nil)))) sc_law.nd rfl (.inl rfl)))
    (mb_one (ms_if (B := [14, 15]) (mt_not (mt_truth (me_callN D__law_same (hr.mono (by decide : 7 ≤ 7)) (takes_of rfl rfl rfl rfl) (ma_cons (me_var 15 (by decide) (pv 15)) (ma_cons (me_lst (ma_cons (me_var 14 (by decide) (pv 14)) (ma_cons (me_var 14 (by decide) (pv 14)) (ma_nil)))) (ma_nil))))))
    (mb_one (ms_ret (B := []) (me_bl)))
    (mb_nil))))))
    (mb_cons (asg_of (set_run (B := [5, 10]) (i := 5) (me_ix (me_callN D__law_block (hr.mono (by decide : 4 ≤ 7)) (takes_of rfl rfl rfl rfl) (ma_cons (me_var 5 (by decide) (pv 5)) (ma_cons (me_var 10 (by decide) (pv 10)) (ma_cons (me_int) (ma_nil))))) (me_int)) sc_law.nd rfl (.inr rfl)))
    (mb_cons (ms_if (B := [5, 10]) (mt_ck ck_isnot (me_callN D_can_be_before (hr.mono (by decide : 5 ≤ 7)) (takes_of rfl rfl rfl rfl) (ma_cons (me_var 5 (by decide) (pv 5)) (ma_cons (me_var 10 (by decide) (pv 10)) (ma_nil)))) (me_bl))
    (mb_one (ms_ret (B := []) (me_bl)))
    (mb_nil))
    (mb_cons (asg_of (set_run (B := [5]) (i := 9) (me_if (mt_ck ck_gt (me_callN D__law_size (hr.mono (by decide : 1 ≤ 7)) (takes_of rfl rfl rfl rfl) (ma_cons (me_var 5 (by decide) (pv 5)) (ma_nil))) (me_int)) (me_int) (me_int)) sc_law.nd rfl (.inl rfl)))
    (mb_one (ms_if (B := [5, 9, 10, 16]) (mt_ck (ck_ne (hu64 hr)) (me_comp (own := [("door", 16)]) rfl sc_law.nd (mi_r1 (ma_cons (me_int) (ma_nil)) rfl T.b_range) (blkOk_by (own := [("door", 16)]) (by kernel_rfl)) (by decide) (fun _ _ _ _ _ => (mg_name sc_law.nd rfl (.inl rfl))) (fun _ _ _ _ _ => mts_nil) (fun _ _ _ _ _ => me_callN D__law_limit (hr.mono (by decide : 6 ≤ 7)) takes0 (ma_cons (me_var 16 (by decide) (pv 16)) (ma_cons (me_var 5 (by decide) (pv 5)) (ma_cons (me_var 10 (by decide) (pv 10)) (ma_nil)))))) (me_mulA (me_lst (ma_cons (me_var 9 (by decide) (pv 9)) (ma_nil))) (me_int)))
    (mb_one (ms_ret (B := []) (me_bl)))
    (mb_nil))))))))))))))
    (mb_cons (asg_of (set_run (B := [2]) (i := 4) (me_ix (me_lst (ma_cons (me_int) (ma_cons (me_int) (ma_cons (me_int) (ma_nil))))) (me_callN D__law_take (hr.mono (by decide : 1 ≤ 7)) (takes_of rfl rfl rfl rfl) (ma_cons (me_var 2 (by decide) (pv 2)) (ma_cons (me_int) (ma_nil))))) sc_law.nd rfl (.inl rfl)))
    (mb_cons (asg_of (set_run (B := [4]) (i := 5) (me_tup (ma_cons (me_tup (ma_cons (me_str) (ma_cons (me_int) (ma_nil)))) (ma_cons (me_tup (ma_cons (me_str) (ma_cons (me_sub (me_var 4 (by decide) (pv 4)) (me_int)) (ma_nil)))) (ma_nil)))) sc_law.nd rfl (.inr rfl)))
    (mb_one (ms_if (B := [4, 5, 16]) (mt_ck (ck_ne (hu64 hr)) (me_comp (own := [("door", 16)]) rfl sc_law.nd (mi_r1 (ma_cons (me_int) (ma_nil)) rfl T.b_range) (blkOk_by (own := [("door", 16)]) (by kernel_rfl)) (by decide) (fun _ _ _ _ _ => (mg_name sc_law.nd rfl (.inl rfl))) (fun _ _ _ _ _ => mts_nil) (fun _ _ _ _ _ => me_callN D__law_limit (hr.mono (by decide : 6 ≤ 7)) takes0 (ma_cons (me_var 16 (by decide) (pv 16)) (ma_cons (me_var 5 (by decide) (pv 5)) (ma_cons (me_int) (ma_nil)))))) (me_mulA (me_lst (ma_cons (me_mulA (me_int) (me_bik (bk_int) (.inr ⟨_, rfl⟩) (ma_cons (me_ck ck_gt (me_var 4 (by decide) (pv 4)) (me_int)) (ma_nil)) rfl T.b_int bo_int)) (ma_nil))) (me_int)))
    (mb_one (ms_ret (B := []) (me_bl)))
    (mb_nil))))))))
    (mb_one (ms_ret (B := []) (me_bl)))
end
/-! the end -/
def initS_TooLarge : Stmt := match topS 5 with
  | .ClassDef (body := b) .. => b.getD 0 (.Pass ⟨0, 0, 0, 0⟩)
  | _ => .Pass ⟨0, 0, 0, 0⟩
theorem sci_TooLarge : FnScope ["self", "limit"] ["self", "limit"] (defScope initS_TooLarge) := ⟨rfl, rfl, rfl, by decide +kernel, rfl, by decide +kernel, by decide +kernel⟩
theorem g__law_bag {K : PySem.W.Frag} {h : Heap} {mg : Str → Option Value} (d : DefAt K "_law_bag" s__law_bag) (X : K.In h) (G : h.Ns mainGlobals mg) : ∃ (f : Addr) (fd : FuncData), mg "_law_bag" = some (.ref f) ∧ Fun K "_law_bag" "_law_bag" s__law_bag f fd ∧ Binds K fd ["cell", "k"] [] := by
  obtain ⟨f, fd, m, h⟩ := d.get X G
  exact ⟨f, fd, m, h, h.binds fun _ _ _ _ _ _ us hl => match us, hl with | [_, _], _ => rfl⟩
theorem g__law_cell_at {K : PySem.W.Frag} {h : Heap} {mg : Str → Option Value} (d : DefAt K "_law_cell_at" s__law_cell_at) (X : K.In h) (G : h.Ns mainGlobals mg) : ∃ (f : Addr) (fd : FuncData), mg "_law_cell_at" = some (.ref f) ∧ Fun K "_law_cell_at" "_law_cell_at" s__law_cell_at f fd ∧ Binds K fd ["script", "k"] [] := by
  obtain ⟨f, fd, m, h⟩ := d.get X G
  exact ⟨f, fd, m, h, h.binds fun _ _ _ _ _ _ us hl => match us, hl with | [_, _], _ => rfl⟩
theorem g__law_take {K : PySem.W.Frag} {h : Heap} {mg : Str → Option Value} (d : DefAt K "_law_take" s__law_take) (X : K.In h) (G : h.Ns mainGlobals mg) : ∃ (f : Addr) (fd : FuncData), mg "_law_take" = some (.ref f) ∧ Fun K "_law_take" "_law_take" s__law_take f fd ∧ Binds K fd ["bag", "limit"] [] := by
  obtain ⟨f, fd, m, h⟩ := d.get X G
  exact ⟨f, fd, m, h, h.binds fun _ _ _ _ _ _ us hl => match us, hl with | [_, _], _ => rfl⟩
theorem g__law_wide {K : PySem.W.Frag} {h : Heap} {mg : Str → Option Value} (d : DefAt K "_law_wide" s__law_wide) (X : K.In h) (G : h.Ns mainGlobals mg) : ∃ (f : Addr) (fd : FuncData), mg "_law_wide" = some (.ref f) ∧ Fun K "_law_wide" "_law_wide" s__law_wide f fd ∧ Binds K fd ["bag", "most"] [] := by
  obtain ⟨f, fd, m, h⟩ := d.get X G
  exact ⟨f, fd, m, h, h.binds fun _ _ _ _ _ _ us hl => match us, hl with | [_, _], _ => rfl⟩
theorem g__law_ends {K : PySem.W.Frag} {h : Heap} {mg : Str → Option Value} (d : DefAt K "_law_ends" s__law_ends) (X : K.In h) (G : h.Ns mainGlobals mg) : ∃ (f : Addr) (fd : FuncData), mg "_law_ends" = some (.ref f) ∧ Fun K "_law_ends" "_law_ends" s__law_ends f fd ∧ Binds K fd ["line"] [] := by
  obtain ⟨f, fd, m, h⟩ := d.get X G
  exact ⟨f, fd, m, h, h.binds fun _ _ _ _ _ _ us hl => match us, hl with | [_], _ => rfl⟩
theorem g_is_side {K : PySem.W.Frag} {h : Heap} {mg : Str → Option Value} (d : DefAt K "is_side" s_is_side) (X : K.In h) (G : h.Ns mainGlobals mg) : ∃ (f : Addr) (fd : FuncData), mg "is_side" = some (.ref f) ∧ Fun K "is_side" "is_side" s_is_side f fd ∧ Binds K fd ["value"] [] := by
  obtain ⟨f, fd, m, h⟩ := d.get X G
  exact ⟨f, fd, m, h, h.binds fun _ _ _ _ _ _ us hl => match us, hl with | [_], _ => rfl⟩
theorem g_is_integer {K : PySem.W.Frag} {h : Heap} {mg : Str → Option Value} (d : DefAt K "is_integer" s_is_integer) (X : K.In h) (G : h.Ns mainGlobals mg) : ∃ (f : Addr) (fd : FuncData), mg "is_integer" = some (.ref f) ∧ Fun K "is_integer" "is_integer" s_is_integer f fd ∧ Binds K fd ["value", "low"] [] := by
  obtain ⟨f, fd, m, h⟩ := d.get X G
  exact ⟨f, fd, m, h, h.binds fun _ _ _ _ _ _ us hl => match us, hl with | [_, _], _ => rfl⟩
theorem g_is_run {K : PySem.W.Frag} {h : Heap} {mg : Str → Option Value} (d : DefAt K "is_run" s_is_run) (X : K.In h) (G : h.Ns mainGlobals mg) : ∃ (f : Addr) (fd : FuncData), mg "is_run" = some (.ref f) ∧ Fun K "is_run" "is_run" s_is_run f fd ∧ Binds K fd ["value"] [] := by
  obtain ⟨f, fd, m, h⟩ := d.get X G
  exact ⟨f, fd, m, h, h.binds fun _ _ _ _ _ _ us hl => match us, hl with | [_], _ => rfl⟩
theorem g_is_posts {K : PySem.W.Frag} {h : Heap} {mg : Str → Option Value} (d : DefAt K "is_posts" s_is_posts) (X : K.In h) (G : h.Ns mainGlobals mg) : ∃ (f : Addr) (fd : FuncData), mg "is_posts" = some (.ref f) ∧ Fun K "is_posts" "is_posts" s_is_posts f fd ∧ Binds K fd ["value"] [] := by
  obtain ⟨f, fd, m, h⟩ := d.get X G
  exact ⟨f, fd, m, h, h.binds fun _ _ _ _ _ _ us hl => match us, hl with | [_], _ => rfl⟩
theorem g_check_posts {K : PySem.W.Frag} {h : Heap} {mg : Str → Option Value} (d : DefAt K "check_posts" s_check_posts) (X : K.In h) (G : h.Ns mainGlobals mg) : ∃ (f : Addr) (fd : FuncData), mg "check_posts" = some (.ref f) ∧ Fun K "check_posts" "check_posts" s_check_posts f fd ∧ Binds K fd ["posts"] [] := by
  obtain ⟨f, fd, m, h⟩ := d.get X G
  exact ⟨f, fd, m, h, h.binds fun _ _ _ _ _ _ us hl => match us, hl with | [_], _ => rfl⟩
theorem g_count_posts {K : PySem.W.Frag} {h : Heap} {mg : Str → Option Value} (d : DefAt K "count_posts" s_count_posts) (X : K.In h) (G : h.Ns mainGlobals mg) : ∃ (f : Addr) (fd : FuncData), mg "count_posts" = some (.ref f) ∧ Fun K "count_posts" "count_posts" s_count_posts f fd ∧ Binds K fd ["posts"] [] := by
  obtain ⟨f, fd, m, h⟩ := d.get X G
  exact ⟨f, fd, m, h, h.binds fun _ _ _ _ _ _ us hl => match us, hl with | [_], _ => rfl⟩
theorem g_is_place {K : PySem.W.Frag} {h : Heap} {mg : Str → Option Value} (d : DefAt K "is_place" s_is_place) (X : K.In h) (G : h.Ns mainGlobals mg) : ∃ (f : Addr) (fd : FuncData), mg "is_place" = some (.ref f) ∧ Fun K "is_place" "is_place" s_is_place f fd ∧ Binds K fd ["posts", "value"] [] := by
  obtain ⟨f, fd, m, h⟩ := d.get X G
  exact ⟨f, fd, m, h, h.binds fun _ _ _ _ _ _ us hl => match us, hl with | [_, _], _ => rfl⟩
theorem g_check_place {K : PySem.W.Frag} {h : Heap} {mg : Str → Option Value} (d : DefAt K "check_place" s_check_place) (X : K.In h) (G : h.Ns mainGlobals mg) : ∃ (f : Addr) (fd : FuncData), mg "check_place" = some (.ref f) ∧ Fun K "check_place" "check_place" s_check_place f fd ∧ Binds K fd ["posts", "place"] [] := by
  obtain ⟨f, fd, m, h⟩ := d.get X G
  exact ⟨f, fd, m, h, h.binds fun _ _ _ _ _ _ us hl => match us, hl with | [_, _], _ => rfl⟩
theorem g_check_limit {K : PySem.W.Frag} {h : Heap} {mg : Str → Option Value} (d : DefAt K "check_limit" s_check_limit) (X : K.In h) (G : h.Ns mainGlobals mg) : ∃ (f : Addr) (fd : FuncData), mg "check_limit" = some (.ref f) ∧ Fun K "check_limit" "check_limit" s_check_limit f fd ∧ Binds K fd ["posts"] [] := by
  obtain ⟨f, fd, m, h⟩ := d.get X G
  exact ⟨f, fd, m, h, h.binds fun _ _ _ _ _ _ us hl => match us, hl with | [_], _ => rfl⟩
theorem g_borders {K : PySem.W.Frag} {h : Heap} {mg : Str → Option Value} (d : DefAt K "borders" s_borders) (X : K.In h) (G : h.Ns mainGlobals mg) : ∃ (f : Addr) (fd : FuncData), mg "borders" = some (.ref f) ∧ Fun K "borders" "borders" s_borders f fd ∧ Binds K fd ["goal"] [] := by
  obtain ⟨f, fd, m, h⟩ := d.get X G
  exact ⟨f, fd, m, h, h.binds fun _ _ _ _ _ _ us hl => match us, hl with | [_], _ => rfl⟩
theorem g_ways {K : PySem.W.Frag} {h : Heap} {mg : Str → Option Value} (d : DefAt K "ways" s_ways) (X : K.In h) (G : h.Ns mainGlobals mg) : ∃ (f : Addr) (fd : FuncData), mg "ways" = some (.ref f) ∧ Fun K "ways" "ways" s_ways f fd ∧ Binds K fd ["size", "chosen"] [] := by
  obtain ⟨f, fd, m, h⟩ := d.get X G
  exact ⟨f, fd, m, h, h.binds fun _ _ _ _ _ _ us hl => match us, hl with | [_, _], _ => rfl⟩
theorem g_numbers_before {K : PySem.W.Frag} {h : Heap} {mg : Str → Option Value} (d : DefAt K "numbers_before" s_numbers_before) (X : K.In h) (G : h.Ns mainGlobals mg) : ∃ (f : Addr) (fd : FuncData), mg "numbers_before" = some (.ref f) ∧ Fun K "numbers_before" "numbers_before" s_numbers_before f fd ∧ Binds K fd ["posts", "place"] [] := by
  obtain ⟨f, fd, m, h⟩ := d.get X G
  exact ⟨f, fd, m, h, h.binds fun _ _ _ _ _ _ us hl => match us, hl with | [_, _], _ => rfl⟩
theorem g_count_before {K : PySem.W.Frag} {h : Heap} {mg : Str → Option Value} (d : DefAt K "count_before" s_count_before) (X : K.In h) (G : h.Ns mainGlobals mg) : ∃ (f : Addr) (fd : FuncData), mg "count_before" = some (.ref f) ∧ Fun K "count_before" "count_before" s_count_before f fd ∧ Binds K fd ["posts", "place"] [] := by
  obtain ⟨f, fd, m, h⟩ := d.get X G
  exact ⟨f, fd, m, h, h.binds fun _ _ _ _ _ _ us hl => match us, hl with | [_, _], _ => rfl⟩
theorem g_doubled {K : PySem.W.Frag} {h : Heap} {mg : Str → Option Value} (d : DefAt K "doubled" s_doubled) (X : K.In h) (G : h.Ns mainGlobals mg) : ∃ (f : Addr) (fd : FuncData), mg "doubled" = some (.ref f) ∧ Fun K "doubled" "doubled" s_doubled f fd ∧ Binds K fd ["times"] [] := by
  obtain ⟨f, fd, m, h⟩ := d.get X G
  exact ⟨f, fd, m, h, h.binds fun _ _ _ _ _ _ us hl => match us, hl with | [_], _ => rfl⟩
theorem g_count_all_before {K : PySem.W.Frag} {h : Heap} {mg : Str → Option Value} (d : DefAt K "count_all_before" s_count_all_before) (X : K.In h) (G : h.Ns mainGlobals mg) : ∃ (f : Addr) (fd : FuncData), mg "count_all_before" = some (.ref f) ∧ Fun K "count_all_before" "count_all_before" s_count_all_before f fd ∧ Binds K fd ["posts"] [] := by
  obtain ⟨f, fd, m, h⟩ := d.get X G
  exact ⟨f, fd, m, h, h.binds fun _ _ _ _ _ _ us hl => match us, hl with | [_], _ => rfl⟩
theorem g_check_index {K : PySem.W.Frag} {h : Heap} {mg : Str → Option Value} (d : DefAt K "check_index" s_check_index) (X : K.In h) (G : h.Ns mainGlobals mg) : ∃ (f : Addr) (fd : FuncData), mg "check_index" = some (.ref f) ∧ Fun K "check_index" "check_index" s_check_index f fd ∧ Binds K fd ["index"] [] := by
  obtain ⟨f, fd, m, h⟩ := d.get X G
  exact ⟨f, fd, m, h, h.binds fun _ _ _ _ _ _ us hl => match us, hl with | [_], _ => rfl⟩
theorem g_joined {K : PySem.W.Frag} {h : Heap} {mg : Str → Option Value} (d : DefAt K "joined" s_joined) (X : K.In h) (G : h.Ns mainGlobals mg) : ∃ (f : Addr) (fd : FuncData), mg "joined" = some (.ref f) ∧ Fun K "joined" "joined" s_joined f fd ∧ Binds K fd ["runs"] [] := by
  obtain ⟨f, fd, m, h⟩ := d.get X G
  exact ⟨f, fd, m, h, h.binds fun _ _ _ _ _ _ us hl => match us, hl with | [_], _ => rfl⟩
theorem g_nth_sides {K : PySem.W.Frag} {h : Heap} {mg : Str → Option Value} (d : DefAt K "nth_sides" s_nth_sides) (X : K.In h) (G : h.Ns mainGlobals mg) : ∃ (f : Addr) (fd : FuncData), mg "nth_sides" = some (.ref f) ∧ Fun K "nth_sides" "nth_sides" s_nth_sides f fd ∧ Binds K fd ["size", "lefts", "index"] [] := by
  obtain ⟨f, fd, m, h⟩ := d.get X G
  exact ⟨f, fd, m, h, h.binds fun _ _ _ _ _ _ us hl => match us, hl with | [_, _, _], _ => rfl⟩
theorem g_nth_before {K : PySem.W.Frag} {h : Heap} {mg : Str → Option Value} (d : DefAt K "nth_before" s_nth_before) (X : K.In h) (G : h.Ns mainGlobals mg) : ∃ (f : Addr) (fd : FuncData), mg "nth_before" = some (.ref f) ∧ Fun K "nth_before" "nth_before" s_nth_before f fd ∧ Binds K fd ["posts", "place", "index"] [] := by
  obtain ⟨f, fd, m, h⟩ := d.get X G
  exact ⟨f, fd, m, h, h.binds fun _ _ _ _ _ _ us hl => match us, hl with | [_, _, _], _ => rfl⟩
theorem g__law_limit {K : PySem.W.Frag} {h : Heap} {mg : Str → Option Value} (d : DefAt K "_law_limit" s__law_limit) (X : K.In h) (G : h.Ns mainGlobals mg) : ∃ (f : Addr) (fd : FuncData), mg "_law_limit" = some (.ref f) ∧ Fun K "_law_limit" "_law_limit" s__law_limit f fd ∧ Binds K fd ["door", "line", "start"] [] := by
  obtain ⟨f, fd, m, h⟩ := d.get X G
  exact ⟨f, fd, m, h, h.binds fun _ _ _ _ _ _ us hl => match us, hl with | [_, _, _], _ => rfl⟩
theorem g__law_size {K : PySem.W.Frag} {h : Heap} {mg : Str → Option Value} (d : DefAt K "_law_size" s__law_size) (X : K.In h) (G : h.Ns mainGlobals mg) : ∃ (f : Addr) (fd : FuncData), mg "_law_size" = some (.ref f) ∧ Fun K "_law_size" "_law_size" s__law_size f fd ∧ Binds K fd ["line"] [] := by
  obtain ⟨f, fd, m, h⟩ := d.get X G
  exact ⟨f, fd, m, h, h.binds fun _ _ _ _ _ _ us hl => match us, hl with | [_], _ => rfl⟩
theorem g__law_start {K : PySem.W.Frag} {h : Heap} {mg : Str → Option Value} (d : DefAt K "_law_start" s__law_start) (X : K.In h) (G : h.Ns mainGlobals mg) : ∃ (f : Addr) (fd : FuncData), mg "_law_start" = some (.ref f) ∧ Fun K "_law_start" "_law_start" s__law_start f fd ∧ Binds K fd ["bag", "line"] [] := by
  obtain ⟨f, fd, m, h⟩ := d.get X G
  exact ⟨f, fd, m, h, h.binds fun _ _ _ _ _ _ us hl => match us, hl with | [_, _], _ => rfl⟩
theorem g__law_rights {K : PySem.W.Frag} {h : Heap} {mg : Str → Option Value} (d : DefAt K "_law_rights" s__law_rights) (X : K.In h) (G : h.Ns mainGlobals mg) : ∃ (f : Addr) (fd : FuncData), mg "_law_rights" = some (.ref f) ∧ Fun K "_law_rights" "_law_rights" s__law_rights f fd ∧ Binds K fd ["line"] [] := by
  obtain ⟨f, fd, m, h⟩ := d.get X G
  exact ⟨f, fd, m, h, h.binds fun _ _ _ _ _ _ us hl => match us, hl with | [_], _ => rfl⟩
theorem g__law_nth_left {K : PySem.W.Frag} {h : Heap} {mg : Str → Option Value} (d : DefAt K "_law_nth_left" s__law_nth_left) (X : K.In h) (G : h.Ns mainGlobals mg) : ∃ (f : Addr) (fd : FuncData), mg "_law_nth_left" = some (.ref f) ∧ Fun K "_law_nth_left" "_law_nth_left" s__law_nth_left f fd ∧ Binds K fd ["line", "number"] [] := by
  obtain ⟨f, fd, m, h⟩ := d.get X G
  exact ⟨f, fd, m, h, h.binds fun _ _ _ _ _ _ us hl => match us, hl with | [_, _], _ => rfl⟩
theorem g__law_joined {K : PySem.W.Frag} {h : Heap} {mg : Str → Option Value} (d : DefAt K "_law_joined" s__law_joined) (X : K.In h) (G : h.Ns mainGlobals mg) : ∃ (f : Addr) (fd : FuncData), mg "_law_joined" = some (.ref f) ∧ Fun K "_law_joined" "_law_joined" s__law_joined f fd ∧ Binds K fd ["runs"] [] := by
  obtain ⟨f, fd, m, h⟩ := d.get X G
  exact ⟨f, fd, m, h, h.binds fun _ _ _ _ _ _ us hl => match us, hl with | [_], _ => rfl⟩
theorem g__law_settled {K : PySem.W.Frag} {h : Heap} {mg : Str → Option Value} (d : DefAt K "_law_settled" s__law_settled) (X : K.In h) (G : h.Ns mainGlobals mg) : ∃ (f : Addr) (fd : FuncData), mg "_law_settled" = some (.ref f) ∧ Fun K "_law_settled" "_law_settled" s__law_settled f fd ∧ Binds K fd ["size", "rights"] [] := by
  obtain ⟨f, fd, m, h⟩ := d.get X G
  exact ⟨f, fd, m, h, h.binds fun _ _ _ _ _ _ us hl => match us, hl with | [_, _], _ => rfl⟩
theorem g__law_mirror {K : PySem.W.Frag} {h : Heap} {mg : Str → Option Value} (d : DefAt K "_law_mirror" s__law_mirror) (X : K.In h) (G : h.Ns mainGlobals mg) : ∃ (f : Addr) (fd : FuncData), mg "_law_mirror" = some (.ref f) ∧ Fun K "_law_mirror" "_law_mirror" s__law_mirror f fd ∧ Binds K fd ["line"] [] := by
  obtain ⟨f, fd, m, h⟩ := d.get X G
  exact ⟨f, fd, m, h, h.binds fun _ _ _ _ _ _ us hl => match us, hl with | [_], _ => rfl⟩
theorem g__law_first {K : PySem.W.Frag} {h : Heap} {mg : Str → Option Value} (d : DefAt K "_law_first" s__law_first) (X : K.In h) (G : h.Ns mainGlobals mg) : ∃ (f : Addr) (fd : FuncData), mg "_law_first" = some (.ref f) ∧ Fun K "_law_first" "_law_first" s__law_first f fd ∧ Binds K fd ["line", "number"] [] := by
  obtain ⟨f, fd, m, h⟩ := d.get X G
  exact ⟨f, fd, m, h, h.binds fun _ _ _ _ _ _ us hl => match us, hl with | [_, _], _ => rfl⟩
theorem g__law_last {K : PySem.W.Frag} {h : Heap} {mg : Str → Option Value} (d : DefAt K "_law_last" s__law_last) (X : K.In h) (G : h.Ns mainGlobals mg) : ∃ (f : Addr) (fd : FuncData), mg "_law_last" = some (.ref f) ∧ Fun K "_law_last" "_law_last" s__law_last f fd ∧ Binds K fd ["line", "number"] [] := by
  obtain ⟨f, fd, m, h⟩ := d.get X G
  exact ⟨f, fd, m, h, h.binds fun _ _ _ _ _ _ us hl => match us, hl with | [_, _], _ => rfl⟩
theorem g__law_block {K : PySem.W.Frag} {h : Heap} {mg : Str → Option Value} (d : DefAt K "_law_block" s__law_block) (X : K.In h) (G : h.Ns mainGlobals mg) : ∃ (f : Addr) (fd : FuncData), mg "_law_block" = some (.ref f) ∧ Fun K "_law_block" "_law_block" s__law_block f fd ∧ Binds K fd ["line", "start", "many"] [] := by
  obtain ⟨f, fd, m, h⟩ := d.get X G
  exact ⟨f, fd, m, h, h.binds fun _ _ _ _ _ _ us hl => match us, hl with | [_, _, _], _ => rfl⟩
theorem g_can_be_before {K : PySem.W.Frag} {h : Heap} {mg : Str → Option Value} (d : DefAt K "can_be_before" s_can_be_before) (X : K.In h) (G : h.Ns mainGlobals mg) : ∃ (f : Addr) (fd : FuncData), mg "can_be_before" = some (.ref f) ∧ Fun K "can_be_before" "can_be_before" s_can_be_before f fd ∧ Binds K fd ["posts", "place"] [] := by
  obtain ⟨f, fd, m, h⟩ := d.get X G
  exact ⟨f, fd, m, h, h.binds fun _ _ _ _ _ _ us hl => match us, hl with | [_, _], _ => rfl⟩
theorem g__law_same {K : PySem.W.Frag} {h : Heap} {mg : Str → Option Value} (d : DefAt K "_law_same" s__law_same) (X : K.In h) (G : h.Ns mainGlobals mg) : ∃ (f : Addr) (fd : FuncData), mg "_law_same" = some (.ref f) ∧ Fun K "_law_same" "_law_same" s__law_same f fd ∧ Binds K fd ["found", "due"] [] := by
  obtain ⟨f, fd, m, h⟩ := d.get X G
  exact ⟨f, fd, m, h, h.binds fun _ _ _ _ _ _ us hl => match us, hl with | [_, _], _ => rfl⟩
theorem g_law {K : PySem.W.Frag} {h : Heap} {mg : Str → Option Value} (d : DefAt K "law" s_law) (X : K.In h) (G : h.Ns mainGlobals mg) : ∃ (f : Addr) (fd : FuncData), mg "law" = some (.ref f) ∧ Fun K "law" "law" s_law f fd ∧ Binds K fd ["script"] [] := by
  obtain ⟨f, fd, m, h⟩ := d.get X G
  exact ⟨f, fd, m, h, h.binds fun _ _ _ _ _ _ us hl => match us, hl with | [_], _ => rfl⟩
set_option maxHeartbeats 4000000 in
theorem all_mk {l : PySem.W.OpenLaw} {w : World} {K : PySem.W.Frag} {h : Heap} {mg : Str → Option Value} {fa : Addr} (X : K.In h) (G : h.Ns mainGlobals mg) (hfa : mg "law" = some (.ref fa)) (ok : ∀ ns : List Int, ns.length ≤ 63 → ∃ h', F_law [.fz ns] [] = .ok (.val (.bl true)) h')
    (z_b_max : PySem.W.nsIn K mainGlobals "max" = some none)
    (z_b_len : PySem.W.nsIn K mainGlobals "len" = some none)
    (z_b_range : PySem.W.nsIn K mainGlobals "range" = some none)
    (z_b_tuple : PySem.W.nsIn K mainGlobals "tuple" = some none)
    (z_b_int : PySem.W.nsIn K mainGlobals "int" = some none)
    (z_b_isinstance : PySem.W.nsIn K mainGlobals "isinstance" = some none)
    (z_b_str : PySem.W.nsIn K mainGlobals "str" = some none)
    {t_c_LEFT_posts : _} (z_c_LEFT_posts : PySem.W.nsIn K mainGlobals "LEFT_posts" = some (some (.str "L" t_c_LEFT_posts)))
    {t_c_RIGHT_posts : _} (z_c_RIGHT_posts : PySem.W.nsIn K mainGlobals "RIGHT_posts" = some (some (.str "R" t_c_RIGHT_posts)))
    (z_b_bool : PySem.W.nsIn K mainGlobals "bool" = some none)
    (z_b_all : PySem.W.nsIn K mainGlobals "all" = some none)
    (z_b_zip : PySem.W.nsIn K mainGlobals "zip" = some none)
    (z_b_sum : PySem.W.nsIn K mainGlobals "sum" = some none)
    {t_c_LIMIT : _} (z_c_LIMIT : PySem.W.nsIn K mainGlobals "LIMIT" = some (some (.int 200 t_c_LIMIT)))
    {t_c_RIGHT_walks : _} (z_c_RIGHT_walks : PySem.W.nsIn K mainGlobals "RIGHT_walks" = some (some (.str "R" t_c_RIGHT_walks)))
    {t_c_LEFT_walks : _} (z_c_LEFT_walks : PySem.W.nsIn K mainGlobals "LEFT_walks" = some (some (.str "L" t_c_LEFT_walks)))
    (z_b_list : PySem.W.nsIn K mainGlobals "list" = some none)
    {u_x__law_limit : Addr} (z_x__law_limit : PySem.W.nsIn K mainGlobals "TooLarge" = some (some (.ref u_x__law_limit))) (h1_x__law_limit : PySem.W.subIn K (.ref u_x__law_limit) (.type "BaseException") = some true) (h2_x__law_limit : PySem.W.isClsIn K u_x__law_limit = true) (h3_x__law_limit : PySem.W.typeIn K (.ref u_x__law_limit) = some (.type "type")) (h4_x__law_limit : PySem.W.subIn K (.ref u_x__law_limit) (.ref u_x__law_limit) = some true)
    {u_xf__law_limit : Addr} (z_xf__law_limit : PySem.W.nsIn K mainGlobals "TooLarge" = some (some (.ref u_xf__law_limit))) (h1_xf__law_limit : PySem.W.findIn K (.ref u_xf__law_limit) "__getattribute__" = some (some (.builtin "BaseException.__getattribute__"))) (h2_xf__law_limit : PySem.W.findIn K (.ref u_xf__law_limit) "__getattr__" = some none) (h3_xf__law_limit : PySem.W.subIn K (.ref u_xf__law_limit) (.type "BaseException") = some true) (h4_xf__law_limit : PySem.W.hasDictIn K u_xf__law_limit = true) (h5_xf__law_limit : PySem.W.findIn K (.ref u_xf__law_limit) "limit" = some none)
    (z_b_min : PySem.W.nsIn K mainGlobals "min" = some none)
    (d__law_bag : DefAt K "_law_bag" s__law_bag)
    (d__law_cell_at : DefAt K "_law_cell_at" s__law_cell_at)
    (d__law_take : DefAt K "_law_take" s__law_take)
    (d__law_wide : DefAt K "_law_wide" s__law_wide)
    (d__law_ends : DefAt K "_law_ends" s__law_ends)
    (d_is_side : DefAt K "is_side" s_is_side)
    (d_is_integer : DefAt K "is_integer" s_is_integer)
    (d_is_run : DefAt K "is_run" s_is_run)
    (d_is_posts : DefAt K "is_posts" s_is_posts)
    (d_check_posts : DefAt K "check_posts" s_check_posts)
    (d_count_posts : DefAt K "count_posts" s_count_posts)
    (d_is_place : DefAt K "is_place" s_is_place)
    (d_check_place : DefAt K "check_place" s_check_place)
    (d_check_limit : DefAt K "check_limit" s_check_limit)
    (d_borders : DefAt K "borders" s_borders)
    (d_ways : DefAt K "ways" s_ways)
    (d_numbers_before : DefAt K "numbers_before" s_numbers_before)
    (d_count_before : DefAt K "count_before" s_count_before)
    (d_doubled : DefAt K "doubled" s_doubled)
    (d_count_all_before : DefAt K "count_all_before" s_count_all_before)
    (d_check_index : DefAt K "check_index" s_check_index)
    (d_joined : DefAt K "joined" s_joined)
    (d_nth_sides : DefAt K "nth_sides" s_nth_sides)
    (d_nth_before : DefAt K "nth_before" s_nth_before)
    (d__law_limit : DefAt K "_law_limit" s__law_limit)
    (d__law_size : DefAt K "_law_size" s__law_size)
    (d__law_start : DefAt K "_law_start" s__law_start)
    (d__law_rights : DefAt K "_law_rights" s__law_rights)
    (d__law_nth_left : DefAt K "_law_nth_left" s__law_nth_left)
    (d__law_joined : DefAt K "_law_joined" s__law_joined)
    (d__law_settled : DefAt K "_law_settled" s__law_settled)
    (d__law_mirror : DefAt K "_law_mirror" s__law_mirror)
    (d__law_first : DefAt K "_law_first" s__law_first)
    (d__law_last : DefAt K "_law_last" s__law_last)
    (d__law_block : DefAt K "_law_block" s__law_block)
    (d_can_be_before : DefAt K "can_be_before" s_can_be_before)
    (d__law_same : DefAt K "_law_same" s__law_same)
    (d_law : DefAt K "law" s_law)
    (e_TooLarge : LimAt K "TooLarge" "TooLarge.__init__" "limit" initS_TooLarge) :
    ∃ fd : FuncData, (∀ (s : Shared) (v : Value), BindsTo s fd ⟨[v], []⟩ [("script", v)]) ∧ ∀ base : Heap, K.In base → base.Ns mainGlobals mg → FnOk l.prog w K mg base (L2.CX l.prog w) 8 fa fd ["script"] (spL K) := by
  have T : Fct K mg := ⟨PySem.W.mg_none_of X G z_b_max, PySem.W.mg_none_of X G z_b_len, PySem.W.mg_none_of X G z_b_range, PySem.W.mg_none_of X G z_b_tuple, PySem.W.mg_none_of X G z_b_int, PySem.W.mg_none_of X G z_b_isinstance, PySem.W.mg_none_of X G z_b_str, ⟨_, PySem.W.mg_of X G z_c_LEFT_posts⟩, ⟨_, PySem.W.mg_of X G z_c_RIGHT_posts⟩, PySem.W.mg_none_of X G z_b_bool, PySem.W.mg_none_of X G z_b_all, PySem.W.mg_none_of X G z_b_zip, PySem.W.mg_none_of X G z_b_sum, ⟨_, PySem.W.mg_of X G z_c_LIMIT⟩, ⟨_, PySem.W.mg_of X G z_c_RIGHT_walks⟩, ⟨_, PySem.W.mg_of X G z_c_LEFT_walks⟩, PySem.W.mg_none_of X G z_b_list, exT_own X G z_x__law_limit h1_x__law_limit h2_x__law_limit h3_x__law_limit h4_x__law_limit, xfT_own X G z_xf__law_limit h1_xf__law_limit h2_xf__law_limit h3_xf__law_limit h4_xf__law_limit h5_xf__law_limit, PySem.W.mg_none_of X G z_b_min⟩
  obtain ⟨f__law_bag, fd__law_bag, m__law_bag, h__law_bag, b__law_bag⟩ := g__law_bag d__law_bag X G
  obtain ⟨f__law_cell_at, fd__law_cell_at, m__law_cell_at, h__law_cell_at, b__law_cell_at⟩ := g__law_cell_at d__law_cell_at X G
  obtain ⟨f__law_take, fd__law_take, m__law_take, h__law_take, b__law_take⟩ := g__law_take d__law_take X G
  obtain ⟨f__law_wide, fd__law_wide, m__law_wide, h__law_wide, b__law_wide⟩ := g__law_wide d__law_wide X G
  obtain ⟨f__law_ends, fd__law_ends, m__law_ends, h__law_ends, b__law_ends⟩ := g__law_ends d__law_ends X G
  obtain ⟨f_is_side, fd_is_side, m_is_side, h_is_side, b_is_side⟩ := g_is_side d_is_side X G
  obtain ⟨f_is_integer, fd_is_integer, m_is_integer, h_is_integer, b_is_integer⟩ := g_is_integer d_is_integer X G
  obtain ⟨f_is_run, fd_is_run, m_is_run, h_is_run, b_is_run⟩ := g_is_run d_is_run X G
  obtain ⟨f_is_posts, fd_is_posts, m_is_posts, h_is_posts, b_is_posts⟩ := g_is_posts d_is_posts X G
  obtain ⟨f_check_posts, fd_check_posts, m_check_posts, h_check_posts, b_check_posts⟩ := g_check_posts d_check_posts X G
  obtain ⟨f_count_posts, fd_count_posts, m_count_posts, h_count_posts, b_count_posts⟩ := g_count_posts d_count_posts X G
  obtain ⟨f_is_place, fd_is_place, m_is_place, h_is_place, b_is_place⟩ := g_is_place d_is_place X G
  obtain ⟨f_check_place, fd_check_place, m_check_place, h_check_place, b_check_place⟩ := g_check_place d_check_place X G
  obtain ⟨f_check_limit, fd_check_limit, m_check_limit, h_check_limit, b_check_limit⟩ := g_check_limit d_check_limit X G
  obtain ⟨f_borders, fd_borders, m_borders, h_borders, b_borders⟩ := g_borders d_borders X G
  obtain ⟨f_ways, fd_ways, m_ways, h_ways, b_ways⟩ := g_ways d_ways X G
  obtain ⟨f_numbers_before, fd_numbers_before, m_numbers_before, h_numbers_before, b_numbers_before⟩ := g_numbers_before d_numbers_before X G
  obtain ⟨f_count_before, fd_count_before, m_count_before, h_count_before, b_count_before⟩ := g_count_before d_count_before X G
  obtain ⟨f_doubled, fd_doubled, m_doubled, h_doubled, b_doubled⟩ := g_doubled d_doubled X G
  obtain ⟨f_count_all_before, fd_count_all_before, m_count_all_before, h_count_all_before, b_count_all_before⟩ := g_count_all_before d_count_all_before X G
  obtain ⟨f_check_index, fd_check_index, m_check_index, h_check_index, b_check_index⟩ := g_check_index d_check_index X G
  obtain ⟨f_joined, fd_joined, m_joined, h_joined, b_joined⟩ := g_joined d_joined X G
  obtain ⟨f_nth_sides, fd_nth_sides, m_nth_sides, h_nth_sides, b_nth_sides⟩ := g_nth_sides d_nth_sides X G
  obtain ⟨f_nth_before, fd_nth_before, m_nth_before, h_nth_before, b_nth_before⟩ := g_nth_before d_nth_before X G
  obtain ⟨f__law_limit, fd__law_limit, m__law_limit, h__law_limit, b__law_limit⟩ := g__law_limit d__law_limit X G
  obtain ⟨f__law_size, fd__law_size, m__law_size, h__law_size, b__law_size⟩ := g__law_size d__law_size X G
  obtain ⟨f__law_start, fd__law_start, m__law_start, h__law_start, b__law_start⟩ := g__law_start d__law_start X G
  obtain ⟨f__law_rights, fd__law_rights, m__law_rights, h__law_rights, b__law_rights⟩ := g__law_rights d__law_rights X G
  obtain ⟨f__law_nth_left, fd__law_nth_left, m__law_nth_left, h__law_nth_left, b__law_nth_left⟩ := g__law_nth_left d__law_nth_left X G
  obtain ⟨f__law_joined, fd__law_joined, m__law_joined, h__law_joined, b__law_joined⟩ := g__law_joined d__law_joined X G
  obtain ⟨f__law_settled, fd__law_settled, m__law_settled, h__law_settled, b__law_settled⟩ := g__law_settled d__law_settled X G
  obtain ⟨f__law_mirror, fd__law_mirror, m__law_mirror, h__law_mirror, b__law_mirror⟩ := g__law_mirror d__law_mirror X G
  obtain ⟨f__law_first, fd__law_first, m__law_first, h__law_first, b__law_first⟩ := g__law_first d__law_first X G
  obtain ⟨f__law_last, fd__law_last, m__law_last, h__law_last, b__law_last⟩ := g__law_last d__law_last X G
  obtain ⟨f__law_block, fd__law_block, m__law_block, h__law_block, b__law_block⟩ := g__law_block d__law_block X G
  obtain ⟨f_can_be_before, fd_can_be_before, m_can_be_before, h_can_be_before, b_can_be_before⟩ := g_can_be_before d_can_be_before X G
  obtain ⟨f__law_same, fd__law_same, m__law_same, h__law_same, b__law_same⟩ := g__law_same d__law_same X G
  obtain ⟨f_law, fd_law, m_law, h_law, b_law⟩ := g_law d_law X G
  have hfe : fa = f_law := by rw [hfa] at m_law; cases m_law; rfl
  subst hfe
  refine ⟨fd_law, fun s v => ?_, fun base _ _ => ?_⟩
  · obtain ⟨oc, od, kV, doc, pm, an, cdv, ct, osl, rfl, _, _⟩ := h_law.ex
    exact .of_eq rfl
  · have L_TooLarge : LimC l.prog w K mg base "TooLarge" 1 "limit" := e_TooLarge.get X G sci_TooLarge rfl (fun _ _ _ _ _ _ _ => pss_one (ps_ost (pv 0) (pv 1) (by rfl))) fun _ _ _ _ _ _ us hl => match us, hl with | [_, _], _ => rfl
    have D__law_bag : Dfn l.prog w K mg base "_law_bag" s__law_bag 1 ["cell", "k"] F__law_bag := w__law_bag T m__law_bag h__law_bag b__law_bag  
    have D__law_cell_at : Dfn l.prog w K mg base "_law_cell_at" s__law_cell_at 1 ["script", "k"] F__law_cell_at := w__law_cell_at T m__law_cell_at h__law_cell_at b__law_cell_at  
    have D__law_take : Dfn l.prog w K mg base "_law_take" s__law_take 1 ["bag", "limit"] F__law_take := w__law_take T m__law_take h__law_take b__law_take  
    have D__law_wide : Dfn l.prog w K mg base "_law_wide" s__law_wide 2 ["bag", "most"] F__law_wide := w__law_wide T m__law_wide h__law_wide b__law_wide D__law_take 
    have D__law_ends : Dfn l.prog w K mg base "_law_ends" s__law_ends 1 ["line"] F__law_ends := w__law_ends T m__law_ends h__law_ends b__law_ends  
    have D_is_side : Dfn l.prog w K mg base "is_side" s_is_side 1 ["value"] F_is_side := w_is_side T m_is_side h_is_side b_is_side  
    have D_is_integer : Dfn l.prog w K mg base "is_integer" s_is_integer 1 ["value", "low"] F_is_integer := w_is_integer T m_is_integer h_is_integer b_is_integer  
    have D_is_run : Dfn l.prog w K mg base "is_run" s_is_run 2 ["value"] F_is_run := w_is_run T m_is_run h_is_run b_is_run D_is_side D_is_integer 
    have D_is_posts : Dfn l.prog w K mg base "is_posts" s_is_posts 3 ["value"] F_is_posts := w_is_posts T m_is_posts h_is_posts b_is_posts D_is_run 
    have D_check_posts : Dfn l.prog w K mg base "check_posts" s_check_posts 4 ["posts"] F_check_posts := w_check_posts T m_check_posts h_check_posts b_check_posts D_is_posts 
    have D_count_posts : Dfn l.prog w K mg base "count_posts" s_count_posts 1 ["posts"] F_count_posts := w_count_posts T m_count_posts h_count_posts b_count_posts  
    have D_is_place : Dfn l.prog w K mg base "is_place" s_is_place 2 ["posts", "value"] F_is_place := w_is_place T m_is_place h_is_place b_is_place D_is_integer D_count_posts 
    have D_check_place : Dfn l.prog w K mg base "check_place" s_check_place 3 ["posts", "place"] F_check_place := w_check_place T m_check_place h_check_place b_check_place D_is_place 
    have D_check_limit : Dfn l.prog w K mg base "check_limit" s_check_limit 3 ["posts"] F_check_limit := w_check_limit T m_check_limit h_check_limit b_check_limit D_count_posts L_TooLarge
    have D_borders : Dfn l.prog w K mg base "borders" s_borders 1 ["goal"] F_borders := w_borders T m_borders h_borders b_borders  
    have D_ways : Dfn l.prog w K mg base "ways" s_ways 1 ["size", "chosen"] F_ways := w_ways T m_ways h_ways b_ways  
    have D_numbers_before : Dfn l.prog w K mg base "numbers_before" s_numbers_before 2 ["posts", "place"] F_numbers_before := w_numbers_before T m_numbers_before h_numbers_before b_numbers_before D_borders D_ways D_count_posts 
    have D_count_before : Dfn l.prog w K mg base "count_before" s_count_before 5 ["posts", "place"] F_count_before := w_count_before T m_count_before h_count_before b_count_before D_check_posts D_check_place D_check_limit D_numbers_before 
    have D_doubled : Dfn l.prog w K mg base "doubled" s_doubled 1 ["times"] F_doubled := w_doubled T m_doubled h_doubled b_doubled  
    have D_count_all_before : Dfn l.prog w K mg base "count_all_before" s_count_all_before 5 ["posts"] F_count_all_before := w_count_all_before T m_count_all_before h_count_all_before b_count_all_before D_check_posts D_check_limit D_borders D_doubled 
    have D_check_index : Dfn l.prog w K mg base "check_index" s_check_index 2 ["index"] F_check_index := w_check_index T m_check_index h_check_index b_check_index D_is_integer 
    have D_joined : Dfn l.prog w K mg base "joined" s_joined 1 ["runs"] F_joined := w_joined T m_joined h_joined b_joined  
    have D_nth_sides : Dfn l.prog w K mg base "nth_sides" s_nth_sides 2 ["size", "lefts", "index"] F_nth_sides := w_nth_sides T m_nth_sides h_nth_sides b_nth_sides D_ways 
    have D_nth_before : Dfn l.prog w K mg base "nth_before" s_nth_before 5 ["posts", "place", "index"] F_nth_before := w_nth_before T m_nth_before h_nth_before b_nth_before D_check_posts D_check_place D_check_index D_check_limit D_numbers_before D_borders D_joined D_count_posts D_nth_sides 
    have D__law_limit : Dfn l.prog w K mg base "_law_limit" s__law_limit 6 ["door", "line", "start"] F__law_limit := w__law_limit T m__law_limit h__law_limit b__law_limit D_count_before D_count_all_before D_nth_before 
    have D__law_size : Dfn l.prog w K mg base "_law_size" s__law_size 1 ["line"] F__law_size := w__law_size T m__law_size h__law_size b__law_size  
    have D__law_start : Dfn l.prog w K mg base "_law_start" s__law_start 2 ["bag", "line"] F__law_start := w__law_start T m__law_start h__law_start b__law_start D__law_size D__law_take 
    have D__law_rights : Dfn l.prog w K mg base "_law_rights" s__law_rights 1 ["line"] F__law_rights := w__law_rights T m__law_rights h__law_rights b__law_rights  
    have D__law_nth_left : Dfn l.prog w K mg base "_law_nth_left" s__law_nth_left 1 ["line", "number"] F__law_nth_left := w__law_nth_left T m__law_nth_left h__law_nth_left b__law_nth_left  
    have D__law_joined : Dfn l.prog w K mg base "_law_joined" s__law_joined 1 ["runs"] F__law_joined := w__law_joined T m__law_joined h__law_joined b__law_joined  
    have D__law_settled : Dfn l.prog w K mg base "_law_settled" s__law_settled 2 ["size", "rights"] F__law_settled := w__law_settled T m__law_settled h__law_settled b__law_settled D__law_joined 
    have D__law_mirror : Dfn l.prog w K mg base "_law_mirror" s__law_mirror 1 ["line"] F__law_mirror := w__law_mirror T m__law_mirror h__law_mirror b__law_mirror  
    have D__law_first : Dfn l.prog w K mg base "_law_first" s__law_first 2 ["line", "number"] F__law_first := w__law_first T m__law_first h__law_first b__law_first D__law_joined 
    have D__law_last : Dfn l.prog w K mg base "_law_last" s__law_last 3 ["line", "number"] F__law_last := w__law_last T m__law_last h__law_last b__law_last D__law_mirror D__law_first 
    have D__law_block : Dfn l.prog w K mg base "_law_block" s__law_block 4 ["line", "start", "many"] F__law_block := w__law_block T m__law_block h__law_block b__law_block D__law_size D__law_rights D__law_nth_left D__law_settled D__law_mirror D__law_first D__law_last 
    have D_can_be_before : Dfn l.prog w K mg base "can_be_before" s_can_be_before 5 ["posts", "place"] F_can_be_before := w_can_be_before T m_can_be_before h_can_be_before b_can_be_before D_check_posts D_check_place D_borders D_count_posts 
    have D__law_same : Dfn l.prog w K mg base "_law_same" s__law_same 7 ["found", "due"] F__law_same := w__law_same T m__law_same h__law_same b__law_same   6
    exact law_end (w_law T h_law D__law_bag D__law_cell_at D__law_wide D__law_take D__law_ends D__law_limit D__law_start D__law_size D__law_block D_can_be_before D__law_same) ok
end MPLAW

namespace MPLAW
open PySem PySem.Spec PyProof.Rows L2 MP
/-! lines -/
def sd (b : Bool) : Str := if b then "R" else "L"
abbrev Ln := List (Bool × Int)
def rD (r : Bool × Int) : D := .tup [.str (sd r.1), .int r.2]
def lD (l : Ln) : D := .tup (l.map rD)
def tot (l : Ln) : Int := (l.map (·.2)).sum
theorem rD_flat (r : Bool × Int) : (rD r).flat = true := rfl
theorem lD_flat (l : Ln) : (lD l).flat = true := by
  show D.flatL (l.map rD) = true
  induction l with
  | nil => rfl
  | cons a l ih => simp [D.flatL, rD_flat, ih]
theorem sh_sd (b : Bool) : SeqAt.shaped (.str (sd b)) = true := by cases b <;> decide +kernel
theorem sd_ne : (sd true == sd false) = false := by decide +kernel
theorem sd_beq (a b : Bool) : (sd a == sd b) = (a == b) := by cases a <;> cases b <;> decide +kernel
theorem snd_map (l : Ln) : ((l.map rD).filter fun _ => true).map (fun d => match d with | .tup [_, x] => x | _ => .non) = (l.map (·.2)).map D.int := by
  induction l with
  | nil => rfl
  | cons a l ih => simp [rD] at ih ⊢; exact ih
theorem F_count_ok (l : Ln) (h : List Con) (hl : l.length ≤ maxL) : F_count_posts [lD l] h = .ok (.val (.int (tot l))) h := by
  unfold F_count_posts
  rw [x_run]
  unfold m_count_posts
  simp [lD, itemsD, noOwn]
  rw [compL_map (fun _ => true) (fun d => match d with | .tup [_, x] => x | _ => .non) (l.map rD) [] (by simpa using hl)]
  · rw [snd_map]
    simp [-List.map_map, tot]
  · intro d hd
    obtain ⟨r, _, rfl⟩ := List.mem_map.mp hd
    simp [storeT, rD, wipeV, putL, D.flatL, D.flat, restV, restS]
theorem F_size_ok (l : Ln) (h : List Con) (hl : l.length ≤ maxL) : F__law_size [lD l] h = .ok (.val (.int (tot l))) h := F_count_ok l h hl
def rts (l : Ln) : Int := ((l.filter (·.1)).map (·.2)).sum
theorem sndR_map (l : Ln) : ((l.map rD).filter fun d => match d with | .tup [.str x, _] => x == "R" | _ => false).map (fun d => match d with | .tup [_, x] => x | _ => .non) = ((l.filter (·.1)).map (·.2)).map D.int := by
  induction l with
  | nil => rfl
  | cons a l ih =>
    obtain ⟨b, n⟩ := a
    cases b
    · have e : (sd false == ("R" : Str)) = false := by decide +kernel
      rw [List.map_cons, List.filter_cons]
      simp only [rD, e]
      simpa [rD] using ih
    · have e : (sd true == ("R" : Str)) = true := by decide +kernel
      rw [List.map_cons, List.filter_cons]
      simp only [rD, e]
      simpa [rD] using ih
theorem F_rights_ok (l : Ln) (h : List Con) (hl : l.length ≤ maxL) : F__law_rights [lD l] h = .ok (.val (.int (rts l))) h := by
  unfold F__law_rights
  rw [x_run]
  unfold m__law_rights
  simp [lD, itemsD, noOwn]
  rw [compL_map (fun d => match d with | .tup [.str x, _] => x == "R" | _ => false) (fun d => match d with | .tup [_, x] => x | _ => .non) (l.map rD) [] (by simpa using hl)]
  · rw [sndR_map]
    simp [-List.map_map, rts]
  · intro d hd
    obtain ⟨r, _, rfl⟩ := List.mem_map.mp hd
    have e := f_eqS (h := h) (x := sd r.1) (y := "R") (sh_sd r.1) (by decide +kernel)
    simp [storeT, rD, wipeV, putL, D.flatL, D.flat, restV, restS, e]
/-! the checks -/
theorem is_side_ok (b : Bool) (h : List Con) : F_is_side [.str (sd b)] h = .ok (.val (.bl true)) h := by
  unfold F_is_side
  rw [x_run]
  unfold m_is_side
  have e : fInW false h (.str (sd b)) (.tup [.str "L", .str "R"]) = some (.val (.bl true)) := by cases b <;> kernel_rfl
  simp [tyD, Ty.is, e]
theorem is_integer_ok (n m : Int) (h : List Con) : F_is_integer [.int n, .int m] h = .ok (.val (.bl (decide (m ≤ n)))) h := by
  unfold F_is_integer
  rw [x_run]
  unfold m_is_integer
  simp [tyD, Ty.is]
theorem is_run_ok (r : Bool × Int) (h1 : 1 ≤ r.2) (h : List Con) : F_is_run [rD r] h = .ok (.val (.bl true)) h := by
  unfold F_is_run
  rw [x_run]
  unfold m_is_run
  simp [tyD, Ty.is, rD, atI, ixN, is_side_ok, is_integer_ok, h1]
def adj : Ln → Prop
  | a :: b :: r => a.1 ≠ b.1 ∧ adj (b :: r)
  | _ => True
structure WF (l : Ln) : Prop where
  ne : l ≠ []
  pos : ∀ r ∈ l, 1 ≤ r.2
  adj : adj l
  len : l.length ≤ 1000
theorem adj_all : ∀ {l : Ln}, adj l → ∀ p ∈ l.zip l.tail, p.1.1 ≠ p.2.1
  | [], _, p, hp => by cases hp
  | [a], _, p, hp => by cases hp
  | a :: b :: r, h, p, hp => by
    rcases List.mem_cons.mp (show p ∈ (a, b) :: (b :: r).zip r from hp) with rfl | hp
    · exact h.1
    · exact adj_all (l := b :: r) h.2 p hp
theorem is_posts_ok (l : Ln) (w : WF l) (h : List Con) : F_is_posts [lD l] h = .ok (.val (.bl true)) h := by
  have hl : l.length ≤ 100000 := Nat.le_trans w.len (by decide)
  unfold F_is_posts
  rw [x_run]
  unfold m_is_posts
  have hne : ¬ (l.length : Int) = 0 := by
    intro z
    have : l.length = 0 := by omega
    exact w.ne (List.length_eq_zero_iff.mp this)
  simp [lD, itemsD, noOwn, tyD, Ty.is, truD, hne]
  rw [compL_all rD (fun _ => D.bl true) l (by simpa using hl)]
  · have e1 : (l.map fun _ => D.bl true) = (l.map fun _ => true).map D.bl := by rw [List.map_map]; rfl
    simp [-List.map_map, e1, truD, cutD_1, noOwn, w.ne]
    rw [← List.map_tail, zipD_map]
    rw [compL_all (fun p : (Bool × Int) × (Bool × Int) => D.tup [rD p.1, rD p.2]) (fun _ => D.bl true) (l.zip l.tail) (by simp; omega)]
    · have e2 : ((l.zip l.tail).map fun _ => D.bl true) = ((l.zip l.tail).map fun _ => true).map D.bl := by rw [List.map_map]; rfl
      simp [-List.map_map, e2]
    · intro p hp
      have hne := adj_all w.adj p hp
      have e := f_neS (h := h) (x := sd p.1.1) (y := sd p.2.1) (sh_sd _) (sh_sd _)
      rw [sd_beq] at e
      simp [storeT, rD, wipeV, putL, D.flatL, D.flat, restV, restS, atI, ixN, e, hne]
  · intro r hr
    have e := is_run_ok r (w.pos r hr) h
    simp [storeT, putV, rD_flat, wipeV, restV, restS, e]
theorem check_posts_ok (l : Ln) (w : WF l) (h : List Con) : F_check_posts [lD l] h = .ok (.val .non) h := by
  unfold F_check_posts
  rw [x_run]
  unfold m_check_posts
  simp [is_posts_ok l w, truD]
theorem check_place_ok (l : Ln) (w : WF l) (p : Int) (h1 : 1 ≤ p) (h2 : p ≤ tot l) (h : List Con) : F_check_place [lD l, .int p] h = .ok (.val .non) h := by
  have hl : l.length ≤ maxL := Nat.le_trans w.len (by decide)
  unfold F_check_place
  rw [x_run]
  unfold m_check_place
  have e : F_is_place [lD l, .int p] h = .ok (.val (.bl true)) h := by
    unfold F_is_place
    rw [x_run]
    unfold m_is_place
    simp [is_integer_ok, h1, F_count_ok l h hl, h2]
  simp [e, truD]
def lo : Ln → Int
  | (true, n) :: _ => n
  | _ => 0
def hiL (l : Ln) : Int := match l.getLast? with
  | some (false, n) => n
  | _ => 0
theorem atI_0 {α : Type} (a : α) (r : List α) : atI (a :: r) 0 = some a := by simp [atI, ixN]
theorem atI_m1 {α : Type} (xs : List α) (a : α) (h : xs.getLast? = some a) : atI xs (-1) = some a := by
  have hne : xs ≠ [] := by rintro rfl; cases h
  have hl : 0 < xs.length := List.length_pos_iff.mpr hne
  unfold atI ixN
  rw [if_neg (by decide), if_pos (by omega)]
  show xs[(-1 + (xs.length : Int)).toNat]? = _
  rw [show (-1 + (xs.length : Int)).toNat = xs.length - 1 by omega, ← List.getLast?_eq_getElem?]
  exact h
theorem last_ne {l : Ln} (h : l ≠ []) : ∃ a, l.getLast? = some a := ⟨l.getLast h, List.getLast?_eq_getLast h⟩
theorem sd_eqR (b : Bool) (h : List Con) : fEq h (.str (sd b)) (.str "R") = some (.val (.bl b)) := by
  rw [f_eqS (sh_sd b) (by decide +kernel)]
  cases b <;> kernel_rfl
theorem sd_eqL (b : Bool) (h : List Con) : fEq h (.str (sd b)) (.str "L") = some (.val (.bl (!b))) := by
  rw [f_eqS (sh_sd b) (by decide +kernel)]
  cases b <;> kernel_rfl
@[simp] theorem rD_0 (r : Bool × Int) (h : List Con) : fIx h (rD r) (.int 0) = some (.val (.str (sd r.1))) := rfl
@[simp] theorem rD_1 (r : Bool × Int) (h : List Con) : fIx h (rD r) (.int 1) = some (.val (.int r.2)) := rfl
theorem lD_0 {l : Ln} {a : Bool × Int} (e : l.head? = some a) (h : List Con) : fIx h (lD l) (.int 0) = some (.val (rD a)) := by
  cases l with
  | nil => cases e
  | cons b r =>
    cases e
    show (atI (rD a :: r.map rD) 0).map Er.val = _
    rw [atI_0]; rfl
theorem lD_m1 {l : Ln} {a : Bool × Int} (e : l.getLast? = some a) (h : List Con) : fIx h (lD l) (.int (-1)) = some (.val (rD a)) := by
  show (atI (l.map rD) (-1)).map Er.val = _
  rw [atI_m1 _ (rD a) (by rw [List.getLast?_map, e]; rfl)]; rfl
theorem head_ne {l : Ln} (h : l ≠ []) : ∃ a, l.head? = some a := by
  cases l with
  | nil => exact absurd rfl h
  | cons a r => exact ⟨a, rfl⟩
theorem lo_eq {l : Ln} {a : Bool × Int} (e : l.head? = some a) : lo l = if a.1 = true then a.2 else 0 := by
  cases l with
  | nil => cases e
  | cons b r =>
    cases e
    obtain ⟨b, n⟩ := a
    cases b <;> rfl
theorem hi_eq {l : Ln} {a : Bool × Int} (e : l.getLast? = some a) : hiL l = if a.1 = true then 0 else a.2 := by
  unfold hiL; rw [e]
  obtain ⟨b, n⟩ := a
  cases b <;> rfl
theorem borders_ok (l : Ln) (w : WF l) (h : List Con) : F_borders [lD l] h = .ok (.val (.tup [.int (lo l), .int (hiL l)])) h := by
  obtain ⟨a, ha⟩ := last_ne w.ne
  obtain ⟨c, hc⟩ := head_ne w.ne
  unfold F_borders
  rw [x_run]
  unfold m_borders
  obtain ⟨b, n⟩ := c
  obtain ⟨b', n'⟩ := a
  cases b <;> cases b' <;> simp [lD_0 hc, lD_m1 ha, sd_eqR, sd_eqL, lo_eq hc, hi_eq ha]
theorem f_intB (b : Bool) (h : List Con) : f1 fIntC h [.bl b] = some (.val (.int (if b then 1 else 0))) := by cases b <;> rfl
/-- no count is too long -/
def Sm1 (l : Ln) : Prop := ∀ r ∈ l, sz r.2 = true
theorem ends_ok (l : Ln) (w : WF l) (z : Sm1 l) (h : List Con) : F__law_ends [lD l] h = .ok (.val (.tup [.int (lo l), .int (hiL l)])) h := by
  obtain ⟨a, ha⟩ := last_ne w.ne
  obtain ⟨c, hc⟩ := head_ne w.ne
  have za := z a (List.mem_of_getLast? ha)
  have zc := z c (List.mem_of_head? hc)
  unfold F__law_ends
  rw [x_run]
  unfold m__law_ends
  obtain ⟨b, n⟩ := c
  obtain ⟨b', n'⟩ := a
  simp only at za zc
  cases b <;> cases b' <;> simp [lD_0 hc, lD_m1 ha, sd_eqR, sd_eqL, lo_eq hc, hi_eq ha, f_intB, za, zc, sz_le]
theorem can_ok (l : Ln) (w : WF l) (p : Int) (h1 : 1 ≤ p) (h2 : p ≤ tot l) (h : List Con) : F_can_be_before [lD l, .int p] h = .ok (.val (.bl (decide (p ≤ lo l ∨ tot l + 1 - p ≤ hiL l)))) h := by
  have hl : l.length ≤ maxL := Nat.le_trans w.len (by decide)
  unfold F_can_be_before
  rw [x_run]
  unfold m_can_be_before
  by_cases hp : p ≤ lo l <;> simp [check_posts_ok l w, check_place_ok l w p h1 h2, borders_ok l w, F_count_ok l _ hl, storeT, D.flatL, D.flat, putL, hp]
/-! ways -/
def ch : Nat → Nat → Nat
  | _, 0 => 1
  | 0, _ + 1 => 0
  | n + 1, k + 1 => ch n k + ch n (k + 1)
theorem ch_mul : ∀ n k, (k + 1) * ch n (k + 1) + k * ch n k = n * ch n k
  | 0, 0 => by simp [ch]
  | 0, k + 1 => by simp [ch]
  | n + 1, 0 => by
    have := ch_mul n 0
    simp [ch] at this ⊢
    omega
  | n + 1, k + 1 => by
    have h1 := ch_mul n k
    have h2 := ch_mul n (k + 1)
    simp only [ch]
    have e1 : (k + 1 + 1) * (ch n (k + 1) + ch n (k + 1 + 1)) = (k + 1 + 1) * ch n (k + 1) + (k + 1 + 1) * ch n (k + 1 + 1) := Nat.mul_add _ _ _
    have e2 : (k + 1) * (ch n k + ch n (k + 1)) = (k + 1) * ch n k + (k + 1) * ch n (k + 1) := Nat.mul_add _ _ _
    have e3 : (n + 1) * (ch n k + ch n (k + 1)) = n * ch n k + n * ch n (k + 1) + ch n k + ch n (k + 1) := by rw [Nat.mul_add, Nat.add_mul, Nat.add_mul]; omega
    have e4 : (k + 1 + 1) * ch n (k + 1) = (k + 1) * ch n (k + 1) + ch n (k + 1) := Nat.succ_mul _ _
    have e5 : (k + 1) * ch n k = k * ch n k + ch n k := Nat.succ_mul _ _
    omega
theorem ch_pos : ∀ n k, k ≤ n → 1 ≤ ch n k
  | _, 0, _ => by simp [ch]
  | 0, k + 1, h => by omega
  | n + 1, k + 1, h => by
    have := ch_pos n k (by omega)
    simp only [ch]; omega
theorem ch_le : ∀ n k, ch n k ≤ 2 ^ n
  | n, 0 => by simp [ch]; exact Nat.one_le_two_pow
  | 0, k + 1 => by simp [ch]
  | n + 1, k + 1 => by
    have h1 := ch_le n k
    have h2 := ch_le n (k + 1)
    simp only [ch, Nat.pow_succ]
    omega
theorem ch_step (n k : Nat) (h : k < n) : ((ch n k : Int) * ((n : Int) - (k : Int))) / ((k : Int) + 1) = (ch n (k + 1) : Int) := by
  have e := ch_mul n k
  have e' : (ch n k : Int) * ((n : Int) - (k : Int)) = (ch n (k + 1) : Int) * ((k : Int) + 1) := by
    have : ((k : Int) + 1) * (ch n (k + 1) : Int) + (k : Int) * (ch n k : Int) = (n : Int) * (ch n k : Int) := by exact_mod_cast e
    rw [Int.mul_sub, Int.mul_comm (ch n k : Int) (n : Int), ← this, Int.mul_comm (ch n k : Int) (k : Int), Int.mul_comm (ch n (k+1) : Int)]
    omega
  rw [e', Int.mul_ediv_cancel _ (by omega)]
theorem ways_ok (n k : Nat) (hn : n ≤ 300) (h : List Con) : F_ways [.int n, .int k] h = .ok (.val (.int (if k ≤ n then (ch n k : Int) else 0))) h := by
  unfold F_ways
  rw [x_run]
  unfold m_ways
  by_cases hk : k ≤ n
  · have hk' : ¬ (n : Int) < (k : Int) := by omega
    have hsm : smR (k : Int) = true := smR_of (by omega) (by omega)
    obtain ⟨s', e, x, rfl⟩ := forR_inv (j := 3) (body := l1_ways) (fun i s => ∃ x, s = ⟨[.val (.int n), .val (.int k), .val (.int (ch n i)), x], h⟩) k ⟨[.val (.int n), .val (.int k), .val (.int 1), .no], h⟩ ⟨.no, by simp [ch]⟩ fun i s hlt hi => by
        obtain ⟨x, rfl⟩ := hi
        have b1 : sz (ch n i : Int) = true := sz_300 (by rw [Int.natAbs_natCast]; exact Nat.le_trans (ch_le n i) (Nat.pow_le_pow_right (by decide) hn))
        have b2 : sz ((n : Int) - (i : Int)) = true := sz_le (by omega)
        have b3 : sz ((i : Int) + 1) = true := sz_le (by omega)
        have b4 : (0 : Int) < (i : Int) + 1 := by omega
        refine ⟨⟨[.val (.int n), .val (.int k), .val (.int (ch n (i + 1))), .val (.int i)], h⟩, ?_, _, rfl⟩
        unfold l1_ways
        simp [b1, b2, b3, b4, putV, D.flat, ch_step n i (by omega)]
    simp [hk', hk, putV, D.flat, frzB, hsm, e]
  · have hk' : (n : Int) < (k : Int) := by omega
    simp [hk', hk]
theorem ways_int (n k : Int) (h0 : 0 ≤ n) (h1 : n ≤ 300) (hk : 0 ≤ k) : ∃ w : Int, (∀ h, F_ways [.int n, .int k] h = .ok (.val (.int w)) h) ∧ 0 ≤ w ∧ (k ≤ n → 1 ≤ w) := by
  obtain ⟨a, rfl⟩ := Int.eq_ofNat_of_zero_le h0
  obtain ⟨b, rfl⟩ := Int.eq_ofNat_of_zero_le hk
  refine ⟨_, fun h => ways_ok a b (by omega) h, ?_, fun z => ?_⟩
  · split <;> omega
  · rw [if_pos (by omega)]
    have := ch_pos a b (by omega)
    omega
theorem tot_cons (a : Bool × Int) (r : Ln) : tot (a :: r) = a.2 + tot r := by simp [tot]
theorem tot_nn : ∀ {l : Ln}, (∀ r ∈ l, 1 ≤ r.2) → 0 ≤ tot l
  | [], _ => by simp [tot]
  | a :: r, h => by
    have h1 := h a List.mem_cons_self
    have h2 := tot_nn fun x hx => h x (List.mem_cons_of_mem _ hx)
    rw [tot_cons]; omega
theorem tot_mem : ∀ {l : Ln} {a : Bool × Int}, (∀ r ∈ l, 1 ≤ r.2) → a ∈ l → a.2 ≤ tot l
  | b :: r, a, h, hm => by
    have h1 := h b List.mem_cons_self
    have hr := fun x hx => h x (List.mem_cons_of_mem b hx)
    have h2 := tot_nn hr
    rw [tot_cons]
    rcases List.mem_cons.mp hm with rfl | hm
    · omega
    · have := tot_mem hr hm; omega
theorem lo_le {l : Ln} (w : WF l) : 0 ≤ lo l ∧ lo l ≤ tot l := by
  obtain ⟨c, hc⟩ := head_ne w.ne
  have hm := List.mem_of_head? hc
  have h1 := w.pos c hm
  have h2 := tot_mem w.pos hm
  rw [lo_eq hc]
  split <;> omega
theorem hi_le {l : Ln} (w : WF l) : 0 ≤ hiL l ∧ hiL l ≤ tot l := by
  obtain ⟨c, hc⟩ := last_ne w.ne
  have hm := List.mem_of_getLast? hc
  have h1 := w.pos c hm
  have h2 := tot_mem w.pos hm
  rw [hi_eq hc]
  split <;> omega
theorem numbers_ok (l : Ln) (w : WF l) (p : Int) (h1 : 1 ≤ p) (h2 : p ≤ tot l) (h3 : tot l ≤ 200) : ∃ a b : Int, (∀ h, F_numbers_before [lD l, .int p] h = .ok (.val (.tup [.int a, .int b])) h) ∧ 0 ≤ a ∧ 0 ≤ b ∧ (p ≤ lo l ∨ tot l + 1 - p ≤ hiL l → 1 ≤ a + b) := by
  have hl : l.length ≤ maxL := Nat.le_trans w.len (by decide)
  have b1 := lo_le w
  have b2 := hi_le w
  obtain ⟨a, ea, na, pa⟩ := ways_int (lo l) p b1.1 (by omega) (by omega)
  obtain ⟨b, eb, nb, pb⟩ := ways_int (hiL l) (tot l + 1 - p) b2.1 (by omega) (by omega)
  refine ⟨a, b, fun h => ?_, na, nb, fun z => ?_⟩
  · unfold F_numbers_before
    rw [x_run]
    unfold m_numbers_before
    simp [borders_ok l w, storeT, D.flatL, D.flat, putL, ea, eb, F_count_ok l _ hl]
  · rcases z with z | z
    · have := pa z; omega
    · have := pb z; omega
theorem limit_le (l : Ln) (w : WF l) (h3 : tot l ≤ 200) (h : List Con) : F_check_limit [lD l] h = .ok (.val .non) h := by
  have hl : l.length ≤ maxL := Nat.le_trans w.len (by decide)
  unfold F_check_limit
  rw [x_run]
  unfold m_check_limit
  have h4 : ¬ 200 < tot l := by omega
  simp [F_count_ok l _ hl, h4]
theorem limit_gt (l : Ln) (w : WF l) (h3 : 200 < tot l) (h : List Con) : F_check_limit [lD l] h = .ex (.lim "TooLarge" "limit" (.int 200)) h := by
  have hl : l.length ≤ maxL := Nat.le_trans w.len (by decide)
  unfold F_check_limit
  rw [x_run]
  unfold m_check_limit
  simp [F_count_ok l _ hl, h3, D.flat]
theorem before_le (l : Ln) (w : WF l) (p : Int) (h1 : 1 ≤ p) (h2 : p ≤ tot l) (h3 : tot l ≤ 200) (h : List Con) : ∃ n : Int, F_count_before [lD l, .int p] h = .ok (.val (.int n)) h := by
  obtain ⟨a, b, e, _⟩ := numbers_ok l w p h1 h2 h3
  have es : f1 fSum h [.tup [.int a, .int b]] = some (.val (.int (a + b))) := by
    show ((D.intsOf [D.int a, D.int b]).bind fun ns => vI ns.sum) = _
    simp [D.intsOf, vI]
  refine ⟨a + b, ?_⟩
  unfold F_count_before
  rw [x_run]
  unfold m_count_before
  simp [check_posts_ok l w, check_place_ok l w p h1 h2, limit_le l w h3, e, es]
theorem before_gt (l : Ln) (w : WF l) (p : Int) (h1 : 1 ≤ p) (h2 : p ≤ tot l) (h3 : 200 < tot l) (h : List Con) : F_count_before [lD l, .int p] h = .ex (.lim "TooLarge" "limit" (.int 200)) h := by
  unfold F_count_before
  rw [x_run]
  unfold m_count_before
  simp [check_posts_ok l w, check_place_ok l w p h1 h2, limit_gt l w h3]
theorem doubled_ok (n : Nat) (hn : n ≤ 1000) (h : List Con) : ∃ r : Int, F_doubled [.int n] h = .ok (.val (.int r)) h := by
  have hsm : smR (n : Int) = true := smR_of (by omega) (by omega)
  obtain ⟨s', e, x, y, rfl⟩ := forR_inv (j := 2) (body := l1_doubled) (fun i s => ∃ (x : Int) (y : SD), s = ⟨[.val (.int n), .val (.int x), y], h⟩) n ⟨[.val (.int n), .val (.int 1), .no], h⟩ ⟨1, .no, rfl⟩ fun i s hlt hi => by
    obtain ⟨x, y, rfl⟩ := hi
    refine ⟨⟨[.val (.int n), .val (.int (x + x)), .val (.int i)], h⟩, ?_, x + x, _, rfl⟩
    unfold l1_doubled
    simp [D.flat]
  refine ⟨x, ?_⟩
  unfold F_doubled
  rw [x_run]
  unfold m_doubled
  simp [putV, D.flat, frzB, hsm, e]
theorem doubled_int (n : Int) (h0 : 0 ≤ n) (hn : n ≤ 1000) (h : List Con) : ∃ r : Int, F_doubled [.int n] h = .ok (.val (.int r)) h := by
  obtain ⟨a, rfl⟩ := Int.eq_ofNat_of_zero_le h0
  exact doubled_ok a (by omega) h
theorem all_le (l : Ln) (w : WF l) (h3 : tot l ≤ 200) (h : List Con) : ∃ n : Int, F_count_all_before [lD l] h = .ok (.val (.int n)) h := by
  have b1 := lo_le w
  have b2 := hi_le w
  obtain ⟨a, ea⟩ := doubled_int (lo l) b1.1 (by omega) h
  obtain ⟨b, eb⟩ := doubled_int (hiL l) b2.1 (by omega) h
  refine ⟨a + b - 2, ?_⟩
  unfold F_count_all_before
  rw [x_run]
  unfold m_count_all_before
  simp [check_posts_ok l w, limit_le l w h3, borders_ok l w, storeT, D.flatL, D.flat, putL, ea, eb]
theorem all_gt (l : Ln) (w : WF l) (h3 : 200 < tot l) (h : List Con) : F_count_all_before [lD l] h = .ex (.lim "TooLarge" "limit" (.int 200)) h := by
  unfold F_count_all_before
  rw [x_run]
  unfold m_count_all_before
  simp [check_posts_ok l w, limit_gt l w h3]
/-! joined -/
def jstep (acc : Ln) (r : Bool × Int) : Ln := if 0 < r.2 then (match acc.getLast? with
  | some a => if a.1 = r.1 then acc.dropLast ++ [(r.1, a.2 + r.2)] else acc ++ [r]
  | none => [r]) else acc
def joinL (l : Ln) : Ln := l.foldl jstep []
def rP (r : Bool × Int) : PyData := .tuple [.str (sd r.1), .int r.2]
theorem pyL_r : ∀ l : Ln, D.pyL (l.map rD) = some (l.map rP)
  | [] => rfl
  | a :: l => by
    have e : D.py (rD a) = some (rP a) := rfl
    simp only [List.map_cons, D.pyL, e, pyL_r l]
    rfl
theorem lay_r : ∀ l : Ln, PyData.canLayAll0 (l.map rP) = true
  | [] => rfl
  | (b, n) :: l => by
    have e0 := SeqAt.canLay_of_shaped (sh_sd b)
    have e : PyData.canLay0 (rP (b, n)) = true := by
      simp only [rP, PyData.canLay0, PyData.canLayAll0] at e0 ⊢
      rw [e0]; rfl
    simp only [List.map_cons, PyData.canLayAll0, e, lay_r l]
    rfl
theorem dep_r : ∀ l : Ln, PyData.depthAll (l.map rP) ≤ 1
  | [] => Nat.zero_le _
  | a :: l => by
    have e : PyData.depth (rP a) = 1 := rfl
    have := dep_r l
    simp only [List.map_cons, PyData.depthAll, e]
    omega
theorem sh_r (l : Ln) : SeqAt.shaped (.list (l.map rP)) = true := by
  have h1 : PyData.canLay0 (.list (l.map rP)) = true := by simp only [PyData.canLay0]; exact lay_r l
  have h2 : PyData.depth (.list (l.map rP)) ≤ 64 := by
    have := dep_r l
    simp only [PyData.depth]; omega
  unfold SeqAt.shaped
  rw [h1, decide_eq_true h2]; rfl
theorem ne_nil (l : Ln) (h : List Con) : fNe h (.lst (l.map rD)) (.lst []) = some (.val (.bl (decide (l ≠ [])))) := by
  have e1 : pyOf h (.lst (l.map rD)) = some (.list (l.map rP)) := by
    show (D.pyL (l.map rD)).map PyData.list = _
    rw [pyL_r]; rfl
  rw [f_neP (q := .list []) e1 rfl (sh_r l) (by rfl)]
  cases l with
  | nil => rfl
  | cons a r => simp [PyData.eqv, PyData.eqvAll]
theorem jstep_len (acc : Ln) (r : Bool × Int) : (jstep acc r).length ≤ acc.length + 1 := by
  unfold jstep
  split
  · split
    · split
      · simp only [List.length_append, List.length_dropLast, List.length_singleton]; omega
      · simp
    · simp
  · omega
theorem take_fold {γ β : Type} (f : β → γ → β) (b : β) (l : List γ) (i : Nat) (y : γ) (h : l[i]? = some y) : (l.take (i + 1)).foldl f b = f ((l.take i).foldl f b) y := by
  rw [List.take_add_one, h, List.foldl_append]; rfl
theorem fold_len : ∀ (l acc : Ln), (l.foldl jstep acc).length ≤ acc.length + l.length
  | [], acc => by simp
  | a :: l, acc => by
    have h1 := fold_len l (jstep acc a)
    have h2 := jstep_len acc a
    rw [List.foldl_cons, List.length_cons]; omega
theorem sd_eq (a b : Bool) (h : List Con) : fEq h (.str (sd a)) (.str (sd b)) = some (.val (.bl (a == b))) := by
  rw [f_eqS (sh_sd a) (sh_sd b), sd_beq]
theorem ixm1_r {l : Ln} {a : Bool × Int} (e : l.getLast? = some a) (h : List Con) : fIx h (.lst (l.map rD)) (.int (-1)) = some (.val (rD a)) := by
  show (atI (l.map rD) (-1)).map Er.val = _
  rw [atI_m1 _ (rD a) (by rw [List.getLast?_map, e]; rfl)]; rfl
theorem gSet_m1 (xs : List D) (d : D) (h : xs ≠ []) : gSet xs [d, .int (-1)] = some (.non, xs.dropLast ++ [d]) := by
  have hl : 0 < xs.length := List.length_pos_iff.mpr h
  show (ixN xs.length (-1)).map _ = _
  unfold ixN
  rw [if_neg (by decide), if_pos (by omega)]
  show some (D.non, xs.set (-1 + (xs.length : Int)).toNat d) = _
  rw [show (-1 + (xs.length : Int)).toNat = xs.length - 1 by omega]
  congr 2
  apply List.ext_getElem?
  intro i
  rw [List.getElem?_set]
  by_cases hi : xs.length - 1 = i
  · subst hi
    rw [if_pos rfl, if_pos (by omega), List.getElem?_append_right (by simp)]
    simp
  · rw [if_neg hi]
    by_cases h2 : i < xs.length - 1
    · rw [List.getElem?_append_left (by simpa using h2), List.getElem?_dropLast, if_pos h2]
    · rw [List.getElem?_eq_none (by omega), List.getElem?_eq_none (by simp; omega)]
theorem joined_step (l acc : Ln) (r : Bool × Int) (x y : SD) (h : List Con) (ha : acc.length < maxL) :
    l1_joined ⟨[.val (.lst (l.map rD)), .own (.lst (acc.map rD)), .val (.str (sd r.1)), .val (.int r.2)], h⟩ = .ok .nx ⟨[.val (.lst (l.map rD)), .own (.lst ((jstep acc r).map rD)), .val (.str (sd r.1)), .val (.int r.2)], h⟩ := by
  have ha' : acc.length < 100000 := ha
  unfold l1_joined jstep
  by_cases hp : 0 < r.2
  · cases hl : acc.getLast? with
    | none =>
      have : acc = [] := by simpa using hl
      subst this
      have e0 := ne_nil [] h
      simp at e0
      simp [hp, e0, isLst, doMut, gApp, D.flatL, D.flat]
      rfl
    | some a =>
      have hne : acc ≠ [] := by rintro rfl; cases hl
      have e0 := ne_nil acc h
      by_cases hs : a.1 = r.1
      · have e1 := sd_eq a.1 r.1 h
        have hg := gSet_m1 (acc.map rD) (rD (r.1, a.2 + r.2)) (by simpa using hne)
        have ee : (sd r.1 == sd r.1) = true := by rw [sd_beq]; simp
        rw [hs] at e1
        have hg2 : gSet (acc.map rD) [.tup [.str (sd r.1), .int (a.2 + r.2)], .int (-1)] = some (.non, (acc.map rD).dropLast ++ [rD (r.1, a.2 + r.2)]) := hg
        simp [hp, e0, hne, ixm1_r hl, e1, hs, isLst, sameOwn, isOwn, D.flat, D.flatL, doMut, hg2]
      · have e1 := sd_eq a.1 r.1 h
        simp [hp, e0, hne, ixm1_r hl, e1, hs, isLst, doMut, gApp, D.flatL, D.flat, ha']
        rfl
  · simp [hp]
theorem store_r (is : Nat × Nat) (r : Bool × Int) (s : S) : storeT [] (.tp [is.1, is.2]) (rD r) s = some ⟨(s.v.set is.1 (.val (.str (sd r.1)))).set is.2 (.val (.int r.2)), s.h⟩ := rfl
theorem joined_ok (l : Ln) (hl : l.length ≤ 50000) (h : List Con) : F_joined [.lst (l.map rD)] h = .ok (.val (lD (joinL l))) h := by
  obtain ⟨s', e, x, y, rfl⟩ := forE_inv (t := .tp [2, 3]) (body := l1_joined) rD (fun i s => ∃ (x y : SD), s = ⟨[.val (.lst (l.map rD)), .own (.lst (((l.take i).foldl jstep []).map rD)), x, y], h⟩) l ⟨[.val (.lst (l.map rD)), .own (.lst []), .no, .no], h⟩ ⟨.no, .no, by simp⟩ fun i r s hr hi => by
    obtain ⟨x, y, rfl⟩ := hi
    have hlen := fold_len (l.take i) []
    have h2 : (l.take i).length ≤ l.length := by rw [List.length_take]; omega
    refine ⟨_, _, store_r (2, 3) r _, joined_step l ((l.take i).foldl jstep []) r x y h (by simp at hlen ⊢; omega), .val (.str (sd r.1)), .val (.int r.2), ?_⟩
    rw [take_fold jstep [] l i r hr]
  unfold F_joined
  rw [x_run]
  unfold m_joined
  have e' : forL (.tp [2, 3]) l1_joined (l.map rD) ⟨[.val (.lst (l.map rD)), .own (.lst []), .no, .no], h⟩ = .ok .nx ⟨[.val (.lst (l.map rD)), .own (.lst ((joinL l).map rD)), x, y], h⟩ := by
    rw [e, List.take_length]; rfl
  simp [putO, Con.flat, D.flatL, ownFl, itemsD, frzB, e', lD]
theorem ljoined_ok (l : Ln) (hl : l.length ≤ 50000) (h : List Con) : F__law_joined [.lst (l.map rD)] h = .ok (.val (lD (joinL l))) h := joined_ok l hl h
/-! mirror, first, last -/
def mirL (l : Ln) : Ln := l.reverse.map fun r => (!r.1, r.2)
theorem sd_isL (b : Bool) : (sd b = ("L" : Str)) ↔ b = false := by cases b <;> decide +kernel
theorem sd_isR (b : Bool) : (sd b = ("R" : Str)) ↔ b = true := by cases b <;> decide +kernel
theorem mirror_ok (l : Ln) (hl : l.length ≤ 50000) (h : List Con) : F__law_mirror [lD l] h = .ok (.val (lD (mirL l))) h := by
  have er : fRev h (lD l) = some (.val (.tup (l.reverse.map rD))) := by
    show some (Er.val (.tup (l.map rD).reverse)) = _
    rw [List.map_reverse]
  unfold F__law_mirror
  rw [x_run]
  unfold m__law_mirror
  simp only [List.map_cons, List.map_nil, x_ret, x_opN, x_cons, x_comp, x_any, x_op1, x_var]
  simp [er, itemsD, noOwn, -List.map_reverse]
  rw [compL_all rD (fun r => rD (!r.1, r.2)) l.reverse (by simp; omega)]
  · simp [mirL, lD, Function.comp_def]
  · intro r hr
    obtain ⟨b, n⟩ := r
    cases b <;> simp [storeT, rD, wipeV, putL, D.flatL, D.flat, restV, restS, sd_isL, sd_isR] <;> rfl
theorem flatL_app : ∀ (xs ys : List D), D.flatL (xs ++ ys) = (D.flatL xs && D.flatL ys)
  | [], ys => by simp [D.flatL]
  | x :: xs, ys => by simp [D.flatL, flatL_app xs ys, Bool.and_assoc]
theorem flatL_r : ∀ l : Ln, D.flatL (l.map rD) = true
  | [] => rfl
  | a :: l => by simp [D.flatL, rD_flat, flatL_r l]
def fstep (p : Ln × Int) (r : Bool × Int) : Ln × Int := let k := if r.1 then 0 else min p.2 r.2; (p.1 ++ [(true, k), (r.1, r.2 - k)], p.2 - k)
theorem first_step (l : Ln) (n : D) (p : Ln × Int) (r : Bool × Int) (z : SD) (h : List Con) (ha : p.1.length + 2 ≤ maxL) :
    ∃ z', l1__law_first ⟨[.val (lD l), .val n, .own (.lst (p.1.map rD)), .val (.int p.2), .val (.str (sd r.1)), .val (.int r.2), z], h⟩ = .ok .nx ⟨[.val (lD l), .val n, .own (.lst ((fstep p r).1.map rD)), .val (.int (fstep p r).2), .val (.str (sd r.1)), .val (.int r.2), z'], h⟩ := by
  have ha' : p.1.length + 2 ≤ 100000 := ha
  obtain ⟨b, m⟩ := r
  unfold l1__law_first
  cases b
  · refine ⟨.val (.int (min p.2 m)), ?_⟩
    simp [sd_eqL, putV, D.flat, isLst, doMut, gExt, D.flatL, ha', fstep, flatL_app, flatL_r]
    exact ⟨rfl, rfl⟩
  · refine ⟨.val (.int 0), ?_⟩
    simp [sd_eqL, putV, D.flat, isLst, doMut, gExt, D.flatL, ha', fstep, flatL_app, flatL_r]
    exact ⟨rfl, rfl⟩
theorem fstep_len : ∀ (l : Ln) (p : Ln × Int), (l.foldl fstep p).1.length = p.1.length + 2 * l.length
  | [], p => by simp
  | a :: l, p => by
    rw [List.foldl_cons, fstep_len l (fstep p a)]
    simp [fstep]; omega
theorem first_ok (l : Ln) (n : Int) (hl : l.length ≤ 20000) (h : List Con) : F__law_first [lD l, .int n] h = .ok (.val (lD (joinL (l.foldl fstep ([], n)).1))) h := by
  obtain ⟨s', e, x, y, z, rfl⟩ := forE_inv (t := .tp [4, 5]) (body := l1__law_first) rD (fun i s => ∃ (x y z : SD), s = ⟨[.val (lD l), .val (.int n), .own (.lst (((l.take i).foldl fstep ([], n)).1.map rD)), .val (.int ((l.take i).foldl fstep ([], n)).2), x, y, z], h⟩) l ⟨[.val (lD l), .val (.int n), .own (.lst []), .val (.int n), .no, .no, .no], h⟩ ⟨.no, .no, .no, by simp⟩ fun i r s hr hi => by
    obtain ⟨x, y, z, rfl⟩ := hi
    have hlen := fstep_len (l.take i) ([], n)
    have h2 : (l.take i).length ≤ l.length := by rw [List.length_take]; omega
    obtain ⟨z', e⟩ := first_step l (.int n) ((l.take i).foldl fstep ([], n)) r z h (by simp at hlen ⊢; omega)
    refine ⟨_, _, store_r (4, 5) r _, e, .val (.str (sd r.1)), .val (.int r.2), z', ?_⟩
    rw [take_fold fstep ([], n) l i r hr]
  have e' : forL (.tp [4, 5]) l1__law_first (l.map rD) ⟨[.val (lD l), .val (.int n), .own (.lst []), .val (.int n), .no, .no, .no], h⟩ = .ok .nx ⟨[.val (lD l), .val (.int n), .own (.lst ((l.foldl fstep ([], n)).1.map rD)), .val (.int (l.foldl fstep ([], n)).2), x, y, z], h⟩ := by
    rw [e, List.take_length]
  have hlen := fstep_len l ([], n)
  have ej := ljoined_ok (l.foldl fstep ([], n)).1 (by simp at hlen ⊢; omega) h
  have ei : itemsD h (lD l) = some (l.map rD) := rfl
  unfold F__law_first
  rw [x_run]
  unfold m__law_first
  simp [okP, put1, Con.flat, D.flatL, D.flat, ownFl, ei, frzB, e', ej]
def fL : Ln → Int → Ln
  | [], _ => []
  | r :: t, n => (true, if r.1 then 0 else min n r.2) :: (r.1, r.2 - (if r.1 then 0 else min n r.2)) :: fL t (n - (if r.1 then 0 else min n r.2))
theorem fold_fL : ∀ (l : Ln) (acc : Ln) (n : Int), (l.foldl fstep (acc, n)).1 = acc ++ fL l n
  | [], acc, n => by simp [fL]
  | r :: t, acc, n => by
    rw [List.foldl_cons]
    show (t.foldl fstep (acc ++ [(true, _), (r.1, _)], n - _)).1 = _
    rw [fold_fL t]
    simp [fL]
theorem first_fL (l : Ln) (n : Int) (hl : l.length ≤ 20000) (h : List Con) : F__law_first [lD l, .int n] h = .ok (.val (lD (joinL (fL l n)))) h := by
  rw [first_ok l n hl h, fold_fL]; rfl
/-! joined lines -/
def jn : Bool × Int → Ln → Ln
  | r, [] => [r]
  | r, y :: t => if 0 < y.2 then (if r.1 = y.1 then jn (r.1, r.2 + y.2) t else r :: jn y t) else jn r t
theorem fold_jn : ∀ (t acc : Ln) (r : Bool × Int), t.foldl jstep (acc ++ [r]) = acc ++ jn r t
  | [], acc, r => rfl
  | y :: t, acc, r => by
    rw [List.foldl_cons]
    unfold jn
    by_cases hp : 0 < y.2
    · rw [if_pos hp]
      by_cases hs : r.1 = y.1
      · have e : jstep (acc ++ [r]) y = acc ++ [(r.1, r.2 + y.2)] := by
          unfold jstep
          simp [hp, hs]
        rw [if_pos hs, e, fold_jn t acc]
      · have e : jstep (acc ++ [r]) y = (acc ++ [r]) ++ [y] := by
          unfold jstep
          simp [hp, hs]
        rw [if_neg hs, e, fold_jn t (acc ++ [r])]
        simp
    · have e : jstep (acc ++ [r]) y = acc ++ [r] := by
        unfold jstep
        rw [if_neg hp]
      rw [if_neg hp, e, fold_jn t acc]
theorem joinL_cons (y : Bool × Int) (t : Ln) : joinL (y :: t) = if 0 < y.2 then jn y t else joinL t := by
  unfold joinL
  rw [List.foldl_cons]
  by_cases hp : 0 < y.2
  · rw [if_pos hp]
    have e : jstep [] y = [] ++ [y] := by
      unfold jstep
      simp [hp]
    rw [e, fold_jn]; rfl
  · have e : jstep [] y = [] := by
      unfold jstep
      rw [if_neg hp]
    rw [if_neg hp, e]
theorem jn_tot : ∀ (t : Ln) (r : Bool × Int), (∀ x ∈ t, 0 ≤ x.2) → tot (jn r t) = r.2 + tot t
  | [], r, _ => by simp [jn, tot]
  | y :: t, r, h => by
    have h1 := h y List.mem_cons_self
    have hr := fun x hx => h x (List.mem_cons_of_mem y hx)
    unfold jn
    rw [tot_cons]
    split
    · split
      · rw [jn_tot t _ hr]
        show r.2 + y.2 + tot t = _
        omega
      · rw [tot_cons, jn_tot t _ hr]
    · rw [jn_tot t _ hr]; omega
theorem join_tot : ∀ (t : Ln), (∀ x ∈ t, 0 ≤ x.2) → tot (joinL t) = tot t
  | [], _ => rfl
  | y :: t, h => by
    have h1 := h y List.mem_cons_self
    have hr := fun x hx => h x (List.mem_cons_of_mem y hx)
    rw [joinL_cons, tot_cons]
    split
    · exact jn_tot t y hr
    · rw [join_tot t hr]; omega
theorem jn_len : ∀ (t : Ln) (r : Bool × Int), (jn r t).length ≤ t.length + 1
  | [], r => by simp [jn]
  | y :: t, r => by
    unfold jn
    have h1 := jn_len t
    split
    · split
      · have := h1 (r.1, r.2 + y.2); simp; omega
      · have := h1 y; simp; omega
    · have := h1 r; simp; omega
theorem join_len : ∀ (t : Ln), (joinL t).length ≤ t.length
  | [] => by simp [joinL]
  | y :: t => by
    rw [joinL_cons]
    split
    · have := jn_len t y; simp; omega
    · have := join_len t; simp; omega
theorem jn_head : ∀ (t : Ln) (r : Bool × Int), ∃ c u, jn r t = (r.1, c) :: u ∧ r.2 ≤ c
  | [], r => ⟨r.2, [], rfl, Int.le_refl _⟩
  | y :: t, r => by
    unfold jn
    split
    · split
      · obtain ⟨c, u, e, hc⟩ := jn_head t (r.1, r.2 + y.2)
        exact ⟨c, u, e, by simp at hc; omega⟩
      · exact ⟨r.2, _, rfl, Int.le_refl _⟩
    · exact jn_head t r
theorem jn_pos : ∀ (t : Ln) (r : Bool × Int), 1 ≤ r.2 → ∀ x ∈ jn r t, 1 ≤ x.2
  | [], r, h, x, hx => by
    have : x = r := by simpa [jn] using hx
    rw [this]; exact h
  | y :: t, r, h, x, hx => by
    unfold jn at hx
    split at hx
    · split at hx
      · exact jn_pos t (r.1, r.2 + y.2) (by show 1 ≤ r.2 + y.2; omega) x hx
      · rcases List.mem_cons.mp hx with rfl | hx
        · exact h
        · exact jn_pos t y (by omega) x hx
    · exact jn_pos t r h x hx
theorem jn_adj : ∀ (t : Ln) (r : Bool × Int), adj (jn r t)
  | [], r => trivial
  | y :: t, r => by
    unfold jn
    split
    · split
      · exact jn_adj t _
      · rename_i hs
        have h1 := jn_adj t y
        obtain ⟨c, u, e, _⟩ := jn_head t y
        rw [e] at h1 ⊢
        exact ⟨hs, h1⟩
    · exact jn_adj t r
theorem join_wf : ∀ (t : Ln), 0 < tot t → (∀ x ∈ t, 0 ≤ x.2) → t.length ≤ 1000 → WF (joinL t)
  | [], h, _, _ => by simp [tot] at h
  | y :: t, h, hp, hl => by
    have h1 := hp y List.mem_cons_self
    have hr := fun x hx => hp x (List.mem_cons_of_mem y hx)
    have hl' : t.length ≤ 1000 := by rw [List.length_cons] at hl; omega
    rw [joinL_cons]
    by_cases hy : 0 < y.2
    · rw [if_pos hy]
      obtain ⟨c, u, e, _⟩ := jn_head t y
      refine ⟨by rw [e]; simp, jn_pos t y (by omega), jn_adj t y, ?_⟩
      have := jn_len t y
      rw [List.length_cons] at hl
      omega
    · rw [if_neg hy]
      exact join_wf t (by rw [tot_cons] at h; omega) hr hl'
/-- what leads, to the right -/
def ld : Ln → Int
  | [] => 0
  | (b, m) :: t => if b = true then m + ld t else if m = 0 then ld t else 0
theorem ld_nn : ∀ (t : Ln), (∀ x ∈ t, 0 ≤ x.2) → 0 ≤ ld t
  | [], _ => by simp [ld]
  | (b, m) :: t, h => by
    have h1 : 0 ≤ m := h (b, m) List.mem_cons_self
    have := ld_nn t fun x hx => h x (List.mem_cons_of_mem _ hx)
    unfold ld
    split
    · omega
    · split <;> omega
theorem jn_lo : ∀ (t : Ln) (c : Int), (∀ x ∈ t, 0 ≤ x.2) → lo (jn (true, c) t) = c + ld t
  | [], c, _ => by simp [jn, lo, ld]
  | (b, m) :: t, c, h => by
    have h1 : 0 ≤ m := h (b, m) List.mem_cons_self
    have hr := fun x hx => h x (List.mem_cons_of_mem (b, m) hx)
    unfold jn ld
    cases b
    · by_cases hm : 0 < m
      · simp [hm, show ¬ m = 0 by omega, lo]
      · have : m = 0 := by omega
        subst this
        simp [jn_lo t c hr]
    · by_cases hm : 0 < m
      · simp [hm, jn_lo t (c + m) hr]; omega
      · have : m = 0 := by omega
        subst this
        simp [jn_lo t c hr]
theorem join_lo : ∀ (t : Ln), (∀ x ∈ t, 0 ≤ x.2) → lo (joinL t) = ld t
  | [], _ => rfl
  | (b, m) :: t, h => by
    have h1 : 0 ≤ m := h (b, m) List.mem_cons_self
    have hr := fun x hx => h x (List.mem_cons_of_mem (b, m) hx)
    rw [joinL_cons]
    by_cases hm : 0 < m
    · rw [if_pos hm]
      cases b
      · obtain ⟨c, u, e, _⟩ := jn_head t (false, m)
        rw [e]
        simp [lo, ld, show ¬ m = 0 by omega]
      · rw [jn_lo t m hr]; simp [ld]
    · have : m = 0 := by omega
      subst this
      rw [if_neg hm, join_lo t hr]
      cases b <;> simp [ld]
theorem fL_nn : ∀ (l : Ln) (n : Int), 0 ≤ n → (∀ r ∈ l, 1 ≤ r.2) → ∀ x ∈ fL l n, 0 ≤ x.2
  | [], _, _, _, x, hx => by cases hx
  | (b, m) :: t, n, hn, h, x, hx => by
    have h1 : 1 ≤ m := h (b, m) List.mem_cons_self
    have hr := fun x hx => h x (List.mem_cons_of_mem (b, m) hx)
    unfold fL at hx
    cases b
    · rcases List.mem_cons.mp hx with rfl | hx
      · simp; omega
      · rcases List.mem_cons.mp hx with rfl | hx
        · simp; omega
        · exact fL_nn t _ (by simp; omega) hr x hx
    · rcases List.mem_cons.mp hx with rfl | hx
      · simp
      · rcases List.mem_cons.mp hx with rfl | hx
        · simp; omega
        · exact fL_nn t _ (by simp; omega) hr x hx
theorem fL_tot : ∀ (l : Ln) (n : Int), tot (fL l n) = tot l
  | [], _ => rfl
  | (b, m) :: t, n => by
    unfold fL
    rw [tot_cons, tot_cons, tot_cons, fL_tot t]
    show _ + ((m - _) + tot t) = m + tot t
    omega
theorem fL_len : ∀ (l : Ln) (n : Int), (fL l n).length = 2 * l.length
  | [], _ => rfl
  | r :: t, n => by
    unfold fL
    simp [fL_len t]; omega
def lfs (l : Ln) : Int := ((l.filter fun r => !r.1).map (·.2)).sum
theorem fL_ld : ∀ (l : Ln) (n : Int), 0 ≤ n → n ≤ lfs l → (∀ r ∈ l, 1 ≤ r.2) → n ≤ ld (fL l n)
  | [], n, h0, h, _ => by
    simp [lfs] at h
    simp [fL, ld]; omega
  | (b, m) :: t, n, h0, h, hp => by
    have h1 : 1 ≤ m := hp (b, m) List.mem_cons_self
    have hr := fun x hx => hp x (List.mem_cons_of_mem (b, m) hx)
    unfold fL
    cases b
    · have e : lfs ((false, m) :: t) = m + lfs t := by simp [lfs]
      rw [e] at h
      have nn := ld_nn (fL t (n - min n m)) (fL_nn t _ (by omega) hr)
      by_cases hm : n ≤ m
      · simp only [ld]
        simp
        split <;> omega
      · have ih := fL_ld t (n - m) (by omega) (by omega) hr
        rw [show min n m = m by omega] at nn
        simp only [ld]
        simp
        rw [show min n m = m by omega]
        simp
        omega
    · have e : lfs ((true, m) :: t) = lfs t := by simp [lfs]
      rw [e] at h
      have ih := fL_ld t n h0 h hr
      simp only [ld]
      simp
      omega
theorem join_self : ∀ (t : Ln) (r : Bool × Int), (∀ x ∈ r :: t, 1 ≤ x.2) → adj (r :: t) → jn r t = r :: t
  | [], r, _, _ => rfl
  | y :: t, r, h, ha => by
    have h1 := h y (List.mem_cons_of_mem _ List.mem_cons_self)
    unfold jn
    rw [if_pos (by omega), if_neg ha.1, join_self t y (fun x hx => h x (List.mem_cons_of_mem _ hx)) ha.2]
theorem fL_0 : ∀ (l : Ln), (∀ r ∈ l, 1 ≤ r.2) → joinL (fL l 0) = joinL l ∧ ∀ r : Bool × Int, jn r (fL l 0) = jn r l
  | [], _ => ⟨rfl, fun _ => rfl⟩
  | (b, m) :: t, hp => by
    have h1 : 1 ≤ m := hp (b, m) List.mem_cons_self
    have hr := fun x hx => hp x (List.mem_cons_of_mem (b, m) hx)
    have ih := fL_0 t hr
    have e : fL ((b, m) :: t) 0 = (true, 0) :: (b, m) :: fL t 0 := by
      have e0 : min 0 m = 0 := by omega
      rw [fL]
      cases b <;> simp [e0]
    have hm : 0 < m := by omega
    refine ⟨?_, fun r => ?_⟩
    · rw [e, joinL_cons, if_neg (by simp), joinL_cons, joinL_cons, if_pos hm, if_pos hm, ih.2]
    · rw [e]
      show (if 0 < (0 : Int) then _ else jn r ((b, m) :: fL t 0)) = _
      rw [if_neg (by omega)]
      unfold jn
      simp only [if_pos hm, ih.2]
theorem first_0 {l : Ln} (w : WF l) : joinL (fL l 0) = l := by
  rw [(fL_0 l w.pos).1]
  cases l with
  | nil => exact absurd rfl w.ne
  | cons a t =>
    have := w.pos a List.mem_cons_self
    rw [joinL_cons, if_pos (by omega)]
    exact join_self t a w.pos w.adj
/-! mirrored -/
theorem adj_app : ∀ (l : Ln) (a : Bool × Int), adj l → (∀ b, l.getLast? = some b → b.1 ≠ a.1) → adj (l ++ [a])
  | [], a, _, _ => trivial
  | [b], a, _, h => ⟨h b rfl, trivial⟩
  | b :: c :: t, a, h, hl => ⟨h.1, adj_app (c :: t) a h.2 fun x hx => hl x (by rw [List.getLast?_cons_cons]; exact hx)⟩
theorem mir_cons (a : Bool × Int) (t : Ln) : mirL (a :: t) = mirL t ++ [(!a.1, a.2)] := by simp [mirL]
theorem mir_adj : ∀ (l : Ln), adj l → adj (mirL l)
  | [], _ => trivial
  | [a], _ => trivial
  | a :: b :: t, h => by
    rw [mir_cons]
    refine adj_app _ _ (mir_adj (b :: t) h.2) fun x hx => ?_
    rw [mir_cons, List.getLast?_concat] at hx
    cases hx
    have := h.1
    simp
    intro z
    exact this (by cases a; cases b; simp at z ⊢; exact z.symm)
theorem mir_wf {l : Ln} (w : WF l) : WF (mirL l) := by
  refine ⟨?_, fun r hr => ?_, mir_adj l w.adj, by simp [mirL]; exact w.len⟩
  · intro z
    have : (mirL l).length = 0 := by rw [z]; rfl
    simp [mirL] at this
    exact w.ne this
  · simp only [mirL, List.mem_map, List.mem_reverse] at hr
    obtain ⟨x, hx, rfl⟩ := hr
    exact w.pos x hx
theorem mir_tot (l : Ln) : tot (mirL l) = tot l := by
  induction l with
  | nil => rfl
  | cons a t ih =>
    rw [mir_cons, tot_cons]
    simp only [tot, List.map_append, List.sum_append] at ih ⊢
    simp
    omega
theorem mir_mir (l : Ln) : mirL (mirL l) = l := by
  simp [mirL, List.map_reverse, Function.comp_def]
theorem mir_lfs (l : Ln) : lfs (mirL l) = rts l := by
  induction l with
  | nil => rfl
  | cons a t ih =>
    rw [mir_cons]
    obtain ⟨b, m⟩ := a
    simp only [lfs, rts, List.filter_append, List.map_append, List.sum_append] at ih ⊢
    rw [ih]
    cases b <;> simp <;> omega
theorem mir_hi (l : Ln) : hiL (mirL l) = lo l := by
  cases l with
  | nil => rfl
  | cons a t =>
    unfold hiL
    rw [mir_cons, List.getLast?_concat]
    obtain ⟨b, m⟩ := a
    cases b <;> rfl
theorem rl_tot (l : Ln) : rts l + lfs l = tot l := by
  induction l with
  | nil => rfl
  | cons a t ih =>
    obtain ⟨b, m⟩ := a
    rw [tot_cons]
    simp only [rts, lfs] at ih ⊢
    cases b <;> simp <;> omega
theorem rts_nn {l : Ln} (h : ∀ r ∈ l, 1 ≤ r.2) : 0 ≤ rts l := by
  have := tot_nn (l := l.filter (·.1)) fun r hr => h r (List.mem_filter.mp hr).1
  exact this
theorem lfs_nn {l : Ln} (h : ∀ r ∈ l, 1 ≤ r.2) : 0 ≤ lfs l := by
  have := tot_nn (l := l.filter fun r => !r.1) fun r hr => h r (List.mem_filter.mp hr).1
  exact this
theorem last_ok (l : Ln) (n : Int) (hl : l.length ≤ 1000) (h : List Con) : F__law_last [lD l, .int n] h = .ok (.val (lD (mirL (joinL (fL (mirL l) n))))) h := by
  have l1 : (mirL l).length = l.length := by simp [mirL]
  have l2 := join_len (fL (mirL l) n)
  rw [fL_len, l1] at l2
  unfold F__law_last
  rw [x_run]
  unfold m__law_last
  simp [mirror_ok l (by omega), first_fL (mirL l) n (by omega), mirror_ok (joinL (fL (mirL l) n)) (by omega)]
theorem nth_loop (h : List Con) (a b : D) : ∀ (l : Ln) (low rest : Int) (x y : SD), (∀ r ∈ l, 1 ≤ r.2) → (∀ r ∈ l, sz r.2 = true) → 0 ≤ low →
    (∃ s', s'.h = h ∧ forL (.tp [4, 5]) l1__law_nth_left (l.map rD) ⟨[.val a, .val b, .val (.int low), .val (.int rest), x, y], h⟩ = .ok .nx s') ∨
    (0 < rest ∧ ∃ s' r, s'.h = h ∧ 0 ≤ r ∧ r ≤ low + tot l ∧ forL (.tp [4, 5]) l1__law_nth_left (l.map rD) ⟨[.val a, .val b, .val (.int low), .val (.int rest), x, y], h⟩ = .ok (.rt (.val (.int r))) s')
  | [], low, rest, x, y, _, _, _ => .inl ⟨_, rfl, rfl⟩
  | (c, m) :: t, low, rest, x, y, hp, hz, h0 => by
    have h1 : 1 ≤ m := hp (c, m) List.mem_cons_self
    have z1 : sz m = true := hz (c, m) List.mem_cons_self
    have hr := fun x hx => hp x (List.mem_cons_of_mem (c, m) hx)
    have hzr := fun x hx => hz x (List.mem_cons_of_mem (c, m) hx)
    have tn := tot_nn hr
    have est : storeT [] (.tp [4, 5]) (rD (c, m)) ⟨[.val a, .val b, .val (.int low), .val (.int rest), x, y], h⟩ = some ⟨[.val a, .val b, .val (.int low), .val (.int rest), .val (.str (sd c)), .val (.int m)], h⟩ := rfl
    rw [List.map_cons, tot_cons]
    unfold forL
    rw [est]
    have zz : sz 0 = true := sz_le (by decide)
    have zo : sz 1 = true := sz_le (by decide)
    by_cases hc : c = false ∧ 0 < rest ∧ rest ≤ m
    · obtain ⟨rfl, c1, c2⟩ := hc
      refine .inr ⟨c1, ⟨[.val a, .val b, .val (.int low), .val (.int rest), .val (.str (sd false)), .val (.int m)], h⟩, low + rest, rfl, by omega, by (try simp only); omega, ?_⟩
      unfold l1__law_nth_left
      simp [sd_eqL, c1, c2]
    · have e : l1__law_nth_left ⟨[.val a, .val b, .val (.int low), .val (.int rest), .val (.str (sd c)), .val (.int m)], h⟩ = .ok .nx ⟨[.val a, .val b, .val (.int (low + m)), .val (.int (rest - if c then 0 else m)), .val (.str (sd c)), .val (.int m)], h⟩ := by
        unfold l1__law_nth_left
        cases c
        · by_cases c1 : 0 < rest
          · have c2 : ¬ rest ≤ m := fun z => hc ⟨rfl, c1, z⟩
            simp [sd_eqL, c1, c2, f_intB, z1, zo, putV, D.flat]
          · simp [sd_eqL, c1, f_intB, z1, zo, putV, D.flat]
        · simp [sd_eqL, f_intB, z1, zz, putV, D.flat]
      simp only [e, x_ok]
      rcases nth_loop h a b t (low + m) (rest - if c then 0 else m) (.val (.str (sd c))) (.val (.int m)) hr hzr (by omega) with ⟨s', q1, q2⟩ | ⟨q0, s', r, q1, q2, q3, q4⟩
      · exact .inl ⟨s', q1, q2⟩
      · refine .inr ⟨?_, s', r, q1, q2, by (try simp only); omega, q4⟩
        split at q0 <;> omega
theorem nth_ok (l : Ln) (n : Int) (hp : ∀ r ∈ l, 1 ≤ r.2) (hz : ∀ r ∈ l, sz r.2 = true) (h : List Con) : ∃ r : Int, F__law_nth_left [lD l, .int n] h = .ok (.val (.int r)) h ∧ 0 ≤ r ∧ r ≤ tot l ∧ (n ≤ 0 → r = 0) := by
  have ei : itemsD h (lD l) = some (l.map rD) := rfl
  have tn := tot_nn hp
  have key := nth_loop h (lD l) (.int n) l 0 n .no .no hp hz (by omega)
  rcases key with ⟨s', q1, q2⟩ | ⟨q0, s', r, q1, q2, q3, q4⟩
  · refine ⟨0, ?_, Int.le_refl _, tn, fun _ => rfl⟩
    unfold F__law_nth_left
    rw [x_run]
    unfold m__law_nth_left
    simp [okP, put1, D.flat, ei, frzB, q1, q2]
  · refine ⟨r, ?_, q2, by omega, fun z => by omega⟩
    unfold F__law_nth_left
    rw [x_run]
    unfold m__law_nth_left
    simp [okP, put1, D.flat, ei, frzB, q1, q4]
/-! one walk -/
/-- a line as the law draws it -/
structure BL (l : Ln) : Prop where
  wf : WF l
  sz : tot l ≤ 10 ^ 33
  len : l.length ≤ 100
theorem BL.szr {l : Ln} (b : BL l) : ∀ r ∈ l, MP.sz r.2 = true := fun r hr => by
  have h1 := b.wf.pos r hr
  have h2 := tot_mem b.wf.pos hr
  have h3 := b.sz
  refine sz_300 ?_
  have : r.2.natAbs ≤ 10 ^ 33 := by omega
  exact Nat.le_trans this (by decide)
theorem tot_pos {l : Ln} (w : WF l) : 1 ≤ tot l := by
  obtain ⟨c, hc⟩ := head_ne w.ne
  have hm := List.mem_of_head? hc
  have h1 := w.pos c hm
  have h2 := tot_mem w.pos hm
  omega
theorem block_ok (l : Ln) (b : BL l) (p : Int) (h1 : 1 ≤ p) (h2 : p ≤ tot l) (h : List Con) : ∃ (l' : Ln) (x y : D), F__law_block [lD l, .int p, .int 1] h = .ok (.val (.tup [lD l', x, y])) h ∧ WF l' ∧ tot l' = tot l ∧ l'.length ≤ 2 * l.length ∧ (p ≤ lo l' ∨ tot l + 1 - p ≤ hiL l') := by
  have w := b.wf
  have hl : l.length ≤ maxL := Nat.le_trans w.len (by decide)
  have rl := rl_tot l
  have r0 := rts_nn w.pos
  have f0 := lfs_nn w.pos
  have bs := b.sz
  have bl := b.len
  have zle : ∀ {x : Int}, 0 ≤ x → x ≤ 10 ^ 34 → MP.sz x = true := fun {x} a c => sz_300 (Nat.le_trans (show x.natAbs ≤ 10 ^ 34 by omega) (by decide))
  have zp := zle (x := p) (by omega) (by omega)
  have z1 : MP.sz 1 = true := sz_le (by decide)
  have z0 : MP.sz 0 = true := sz_le (by decide)
  have zt := zle (x := tot l + 1) (by omega) (by omega)
  have zt' := zle (x := tot l + 1 - p) (by omega) (by omega)
  have hpos : (0 : Int) < tot l + 1 := by omega
  have ml : (mirL l).length = l.length := by simp [mirL]
  by_cases hg : rts l + p ≤ tot l
  · -- to the left
    have g : (rts l + p) / (tot l + 1) = 0 := Int.ediv_eq_zero_of_lt (by omega) (by omega)
    obtain ⟨r1, e1, a1, a2, _⟩ := nth_ok l p w.pos b.szr h
    obtain ⟨r2, e2, a3, a4, a5⟩ := nth_ok (mirL l) 0 (mir_wf w).pos (fun r hr => by
      simp only [mirL, List.mem_map, List.mem_reverse] at hr
      obtain ⟨x, hx, rfl⟩ := hr
      exact b.szr x hx) h
    have a6 := a5 (Int.le_refl _)
    subst a6
    have el : mirL (joinL (fL (mirL l) 0)) = l := by rw [first_0 (mir_wf w), mir_mir]
    refine ⟨joinL (fL l p), .int 1, .int 0, ?_, ?_, ?_, ?_, ?_⟩
    · unfold F__law_block
      rw [x_run]
      unfold m__law_block
      have c1 : p ≤ tot l - rts l := by omega
      have c2 : r1 < tot l + 1 := by omega
      simp [F_size_ok l _ hl, F_rights_ok l _ hl, okP, put1, D.flat, zp, z1, z0, zt, zt', hpos, g, putV, c1, r0, e1, mirror_ok l (by omega), e2, c2, last_ok l _ w.len, el, first_fL l p (by omega)]
    · exact join_wf _ (by rw [fL_tot]; omega) (fL_nn l p (by omega) w.pos) (by rw [fL_len]; omega)
    · rw [join_tot _ (fL_nn l p (by omega) w.pos), fL_tot]
    · have := join_len (fL l p); rw [fL_len] at this; exact this
    · left
      rw [join_lo _ (fL_nn l p (by omega) w.pos)]
      exact fL_ld l p (by omega) (by omega) w.pos
  · -- to the right
    have g : (rts l + p) / (tot l + 1) = 1 := by
      have e1 : (rts l + p) / (tot l + 1) < 2 := Int.ediv_lt_of_lt_mul (by omega) (by omega)
      have e2 : 1 ≤ (rts l + p) / (tot l + 1) := Int.le_ediv_of_mul_le (by omega) (by omega)
      omega
    obtain ⟨r1, e1, a1, a2, a6⟩ := nth_ok l 0 w.pos b.szr h
    have a6 := a6 (Int.le_refl _)
    subst a6
    have wm := mir_wf w
    obtain ⟨r2, e2, a3, a4, _⟩ := nth_ok (mirL l) (tot l + 1 - p) wm.pos (fun r hr => by
      simp only [mirL, List.mem_map, List.mem_reverse] at hr
      obtain ⟨x, hx, rfl⟩ := hr
      exact b.szr x hx) h
    rw [mir_tot] at a4
    have nn := fL_nn (mirL l) (tot l + 1 - p) (by omega) wm.pos
    have wj : WF (joinL (fL (mirL l) (tot l + 1 - p))) := join_wf _ (by rw [fL_tot, mir_tot]; omega) nn (by rw [fL_len]; omega)
    have jl := join_len (fL (mirL l) (tot l + 1 - p))
    rw [fL_len, ml] at jl
    have w2 := mir_wf wj
    have l2 : (mirL (joinL (fL (mirL l) (tot l + 1 - p)))).length ≤ 2 * l.length := by simp [mirL] at jl ⊢; exact jl
    refine ⟨mirL (joinL (fL (mirL l) (tot l + 1 - p))), .int 0, .int 1, ?_, w2, ?_, l2, ?_⟩
    · unfold F__law_block
      rw [x_run]
      unfold m__law_block
      have c1 : rts l ≤ tot l := by omega
      have c3 : tot l + 1 - p ≤ rts l := by omega
      have c2 : r2 < tot l + 1 := by omega
      simp [F_size_ok l _ hl, F_rights_ok l _ hl, okP, put1, D.flat, zp, z1, z0, zt, zt', hpos, g, putV, c1, c3, f0, e1, mirror_ok l (by omega), e2, c2, last_ok l _ w.len, first_fL _ 0 (show (mirL (joinL (fL (mirL l) (tot l + 1 - p)))).length ≤ 20000 by omega), first_0 w2]
    · rw [mir_tot, join_tot _ nn, fL_tot, mir_tot]
    · right
      rw [mir_hi, join_lo _ nn]
      refine fL_ld (mirL l) _ (by omega) ?_ wm.pos
      rw [mir_lfs]; omega
/-! the draws -/
structure Bag (h : List Con) (n : Nat) (N : Int) : Prop where
  ex : ∃ a b c : Int, h[n]? = some (.lst [.int a, .int b, .int c]) ∧ 0 ≤ a ∧ 0 ≤ b ∧ b ≤ 10 ^ 60 ∧ 0 ≤ c ∧ c ≤ N
theorem Bag.le {h : List Con} {n : Nat} {N M : Int} (b : Bag h n N) (l : N ≤ M) : Bag h n M := by
  obtain ⟨a, b, c, h1, h2, h3, h4, h5, h6⟩ := b
  exact ⟨a, b, c, h1, h2, h3, h4, h5, by omega⟩
theorem szb {x : Int} (h0 : 0 ≤ x) (h : x ≤ 10 ^ 70) : sz x = true := sz_300 (Nat.le_trans (show x.natAbs ≤ 10 ^ 70 by omega) (by decide))
theorem take_ok (h : List Con) (n : Nat) (N L : Int) (b : Bag h n N) (hN : N ≤ 10 ^ 20) (h1 : 1 ≤ L) (h2 : L ≤ 10 ^ 40) : ∃ (r : Int) (h' : List Con), F__law_take [.ref n, .int L] h = .ok (.val (.int r)) h' ∧ 0 ≤ r ∧ r < L ∧ Bag h' n (N + 1) ∧ h'.length = h.length := by
  obtain ⟨a, b, c, hb, a0, b0, b1, c0, c1⟩ := b
  obtain ⟨hn, hb2⟩ := List.getElem?_eq_some_iff.mp hb
  have zL : sz L = true := szb (by omega) (by omega)
  have hL : (0 : Int) < L := by omega
  by_cases ha : 1 < a
  · refine ⟨a % L, h.set n (.lst [.int (a / L), .int b, .int c]), ?_, Int.emod_nonneg _ (by omega), Int.emod_lt_of_pos _ hL, ⟨a / L, b, c, by simp [hn], Int.ediv_nonneg a0 (by omega), b0, b1, c0, by omega⟩, by simp⟩
    unfold F__law_take
    rw [x_run]
    unfold m__law_take
    simp [asL, hb, atI, ixN, ha, hL, zL, putV, D.flat, isLst, doMut, gSet, sameOwn, isOwn, D.flatL]
  · have g1 : sz 1300223 = true := sz_300 (by decide)
    have g2 : sz (c + 1) = true := szb (by omega) (by omega)
    have g3 : sz (b + 1300223 * (c + 1)) = true := szb (by omega) (by omega)
    have g4 : sz 15486253 = true := sz_300 (by decide)
    have g5 : sz 1048576 = true := sz_300 (by decide)
    have m0 := Int.emod_nonneg ((b + 1300223 * (c + 1)) ^ 3) (show (162259276829213363391578010288127 : Int) ≠ 0 by decide)
    have m1 := Int.emod_lt_of_pos ((b + 1300223 * (c + 1)) ^ 3) (show (0 : Int) < 162259276829213363391578010288127 by decide)
    have g6 : sz ((b + 1300223 * (c + 1)) ^ 3 % 162259276829213363391578010288127 + 15486253 * (c + 1)) = true := szb (by omega) (by omega)
    refine ⟨((b + 1300223 * (c + 1)) ^ 3 % 162259276829213363391578010288127 + 15486253 * (c + 1)) ^ 5 % 618970019642690137449562111 / 1048576 % L, h.set n (.lst [.int a, .int b, .int (c + 1)]), ?_, Int.emod_nonneg _ (by omega), Int.emod_lt_of_pos _ hL, ⟨a, b, c + 1, by simp [hn], a0, b0, b1, by omega, by omega⟩, by simp⟩
    unfold F__law_take
    rw [x_run]
    unfold m__law_take
    simp [asL, hb2, hn, atI, ixN, ha, hL, zL, putV, D.flat, isLst, doMut, gSet, sameOwn, isOwn, D.flatL, g1, g2, g3, g4, g5, g6]
theorem LR_ix (v : Int) (h : List Con) (hv : v = 0 ∨ v = 1) : fIx h (.str "LR") (.int v) = some (.val (.str (sd (decide (v = 1))))) := by
  rcases hv with rfl | rfl <;> kernel_rfl
theorem pick3 (v : Int) (h : List Con) (h0 : 0 ≤ v) (h3 : v < 3) : ∃ L : Int, fIx h (.lst [.int 1, .int 3, .int 1000000000000000000000000000000]) (.int v) = some (.val (.int L)) ∧ 1 ≤ L ∧ L ≤ 10 ^ 30 := by
  have : v = 0 ∨ v = 1 ∨ v = 2 := by omega
  rcases this with rfl | rfl | rfl
  · exact ⟨1, rfl, by decide, by decide⟩
  · exact ⟨3, rfl, by decide, by decide⟩
  · exact ⟨_, rfl, by decide, by decide⟩
theorem wide_step (n : Nat) (ml : D) (h : List Con) (N t : Int) (l : Ln) (k : Nat) (y : SD) (b : Bag h n N) (hN : N ≤ 10 ^ 10) (hk : l.length = k) (hk2 : k ≤ 1000) (t0 : t = 0 ∨ t = 1) : ∃ (h' : List Con) (m : Int), Bag h' n (N + 2) ∧ h'.length = h.length ∧ 1 ≤ m ∧ m ≤ 10 ^ 30 ∧
    l1__law_wide ⟨[.val (.ref n), .val ml, .val (.int k), .val (.int t), .own (.lst (l.map rD)), y], h⟩ = .ok .nx ⟨[.val (.ref n), .val ml, .val (.int k), .val (.int t), .own (.lst ((l ++ [(decide ((t + k) % 2 = 1), m)]).map rD)), .val (.int m)], h'⟩ := by
  obtain ⟨r, h1, e1, a0, a3, b1, len1⟩ := take_ok h n N 3 b (by omega) (by decide) (by decide)
  obtain ⟨L, eL, L1, L2⟩ := pick3 r h1 a0 a3
  obtain ⟨q, h2, e2, q0, q1, b2, len2⟩ := take_ok h1 n (N + 1) L b1 (by omega) L1 (by omega)
  have z10 : sz 10 = true := sz_le (by decide)
  have c2 : (t + (k : Int)) % 2 = 0 ∨ (t + (k : Int)) % 2 = 1 := by omega
  have hl : l.length < 100000 := by omega
  refine ⟨h2, 1 + q, b2.le (by omega), by omega, by omega, by omega, ?_⟩
  unfold l1__law_wide
  simp [e1, eL, e2, z10, putV, D.flat, isLst, doMut, gApp, D.flatL, LR_ix _ _ c2, hl]
  rfl
theorem wide_ok (h : List Con) (n : Nat) (N : Int) (b : Bag h n N) (hN : N ≤ 10 ^ 9) : ∃ (l : Ln) (h' : List Con), F__law_wide [.ref n, .int 20] h = .ok (.val (lD l)) h' ∧ BL l ∧ l.length ≤ 20 ∧ Bag h' n (N + 50) ∧ h'.length = h.length := by
  obtain ⟨t, h1, e1, a0, a1, b1, len1⟩ := take_ok h n N 2 b (by omega) (by decide) (by decide)
  obtain ⟨q, h2, e2, q0, q1, b2, len2⟩ := take_ok h1 n (N + 1) 20 b1 (by omega) (by decide) (by decide)
  obtain ⟨k, hk⟩ := Int.eq_ofNat_of_zero_le (show 0 ≤ 1 + q by omega)
  have t0 : t = 0 ∨ t = 1 := by omega
  obtain ⟨s', e, h3, l, y, z, rfl, b3, len3, ll, lp, la, lt⟩ := forR_inv (j := 2) (body := l1__law_wide) (fun i s => ∃ (h' : List Con) (l : Ln) (y z : SD), s = ⟨[.val (.ref n), .val (.int 20), y, .val (.int t), .own (.lst (l.map rD)), z], h'⟩ ∧ Bag h' n (N + 2 + 2 * i) ∧ h'.length = h.length ∧ l.length = i ∧ (∀ r ∈ l, 1 ≤ r.2 ∧ r.2 ≤ 10 ^ 30) ∧ adj l ∧ ∀ a, l.getLast? = some a → a.1 = decide ((t + i - 1) % 2 = 1)) k
    ⟨[.val (.ref n), .val (.int 20), .no, .val (.int t), .own (.lst []), .no], h2⟩ ⟨h2, [], .no, .no, rfl, b2.le (by omega), by omega, rfl, (fun r hr => nomatch hr), trivial, fun a ha => nomatch ha⟩ fun i s hlt hi => by
      obtain ⟨h', l, y, z, rfl, b', len', ll, lp, la, lt⟩ := hi
      obtain ⟨h4, m, b4, len4, m1, m2, e4⟩ := wide_step n (.int 20) h' (N + 2 + 2 * i) t l i z b' (by omega) ll (by omega) t0
      refine ⟨_, e4, h4, l ++ [(decide ((t + i) % 2 = 1), m)], .val (.int i), .val (.int m), rfl, b4.le (by omega), by omega, by simp [ll], fun r hr => ?_, adj_app l _ la fun x hx => ?_, fun a ha => ?_⟩
      · rcases List.mem_append.mp hr with hr | hr
        · exact lp r hr
        · have := List.mem_singleton.mp hr
          subst this
          exact ⟨m1, m2⟩
      · have e5 := lt x hx
        rw [e5]
        intro z
        have z2 : ((t + i - 1) % 2 = 1) ↔ ((t + i) % 2 = 1) := by
          constructor
          · intro u; simpa [u] using z
          · intro u; simpa [u] using z
        omega
      · rw [List.getLast?_concat] at ha
        cases ha
        show decide _ = decide _
        congr 2
        omega
  have hsm : smR (1 + q) = true := smR_of (by omega) (by omega)
  have hk1 : (1 + q).toNat = k := by omega
  refine ⟨l, h3, ?_, ⟨⟨?_, fun r hr => (lp r hr).1, la, by omega⟩, ?_, by omega⟩, by omega, b3.le (by omega), len3⟩
  · unfold F__law_wide
    rw [x_run]
    unfold m__law_wide
    simp [e1, okP, put1, D.flat, Con.flat, D.flatL, ownFl, e2, hsm, hk1, frzB, e]
    rfl
  · rintro rfl
    simp at ll
    omega
  · have : ∀ (l : Ln), (∀ r ∈ l, r.2 ≤ 10 ^ 30) → tot l ≤ 10 ^ 30 * (l.length : Int) := by
      intro l
      induction l with
      | nil => intro _; simp [tot]
      | cons a t ih =>
        intro hh
        have h1 := hh a List.mem_cons_self
        have h2 := ih fun x hx => hh x (List.mem_cons_of_mem _ hx)
        rw [tot_cons, List.length_cons]
        omega
    have := this l fun r hr => (lp r hr).2
    omega
theorem cut_r (l : Ln) (lo hi : Option Int) : ∃ l' : Ln, MP.cutD (l.map rD) lo hi = l'.map rD ∧ l'.length ≤ l.length := by
  unfold MP.cutD
  refine ⟨_, by rw [← List.map_drop, ← List.map_take], ?_⟩
  rw [List.length_take, List.length_drop]
  omega
theorem pick6 (a b c d e f r : Int) (h : List Con) (h0 : 0 ≤ r) (h1 : r < 6) : ∃ v : Int, fIx h (.lst [.int a, .int b, .int c, .int d, .int e, .int f]) (.int r) = some (.val (.int v)) := by
  have : r = 0 ∨ r = 1 ∨ r = 2 ∨ r = 3 ∨ r = 4 ∨ r = 5 := by omega
  rcases this with rfl | rfl | rfl | rfl | rfl | rfl <;> exact ⟨_, rfl⟩
theorem start_ok (l : Ln) (bl : BL l) (h : List Con) (n : Nat) (N : Int) (b : Bag h n N) (hN : N ≤ 10 ^ 10) : ∃ (p : Int) (h' : List Con), F__law_start [.ref n, lD l] h = .ok (.val (.int p)) h' ∧ 1 ≤ p ∧ p ≤ tot l ∧ Bag h' n (N + 3) ∧ h'.length = h.length := by
  have w := bl.wf
  have hl : l.length ≤ maxL := Nat.le_trans w.len (by decide)
  have t1 := tot_pos w
  have bs := bl.sz
  have bn := bl.len
  obtain ⟨q, h1, e1, a0, a1, b1, len1⟩ := take_ok h n N ((l.length : Int) + 1) b (by omega) (by omega) (by omega)
  obtain ⟨l', el, ell⟩ := cut_r l none (some q)
  obtain ⟨q2, h2, e2, a2, a3, b2, len2⟩ := take_ok h1 n (N + 1) (tot l) b1 (by omega) (by omega) (by omega)
  obtain ⟨q3, h3, e3, a4, a5, b3, len3⟩ := take_ok h2 n (N + 2) 6 (b2.le (by omega)) (by omega) (by decide) (by decide)
  obtain ⟨s', e, low, x, y, rfl⟩ := forE_inv (t := .tp [5, 6]) (body := l1__law_start) rD (fun i s => ∃ (low : Int) (x y : SD), s = ⟨[.val (.ref n), .val (lD l), .no, .val (.int (tot l)), .val (.int low), x, y], h1⟩) l' ⟨[.val (.ref n), .val (lD l), .no, .val (.int (tot l)), .val (.int 0), .no, .no], h1⟩ ⟨0, .no, .no, rfl⟩ fun i r s hr hi => by
    obtain ⟨low, x, y, rfl⟩ := hi
    refine ⟨_, ⟨[.val (.ref n), .val (lD l), .no, .val (.int (tot l)), .val (.int (low + r.2)), .val (.str (sd r.1)), .val (.int r.2)], h1⟩, store_r (5, 6) r _, ?_, low + r.2, _, _, rfl⟩
    unfold l1__law_start
    simp [putV, D.flat]
  obtain ⟨v, ev⟩ := pick6 low (low + 1) (low - 1) (tot l) 1 (1 + q2) q3 h3 a4 a5
  have esl : fSl h1 (lD l) none (some q) = some (.val (.tup (l'.map rD))) := by
    show some (Er.val (.tup (MP.cutD (l.map rD) none (some q)))) = _
    rw [el]
  have elen : f1 fLen h [lD l] = some (.val (.int l.length)) := by
    show some (Er.val (.int ((l.map rD).length : Nat))) = _
    rw [List.length_map]
  refine ⟨max 1 (min (tot l) v), h3, ?_, by omega, by omega, b3.le (by omega), by omega⟩
  unfold F__law_start
  rw [x_run]
  unfold m__law_start
  simp [F_size_ok l _ hl, okP, put1, D.flat, elen, e1, esl, itemsD, frzB, e, putV, e2, e3, ev]
/-! the comparison -/
theorem same_bl (k : Nat) (a : Bool) (h : List Con) : Fr__law_same (k + 1) [.bl a, .bl a] h = .ok (.val (.bl true)) h := by
  show runF 3 (mr__law_same (Fr__law_same k)) [.bl a, .bl a] h = _
  rw [x_run]
  unfold mr__law_same
  have e : fIs h (.bl a) .non = some (.val (.bl false)) := rfl
  simp [tyD, Ty.is, truD, e]
theorem same_ok (a : Bool) (h : List Con) : F__law_same [.lst [.bl a, .bl a], .lst [.bl a, .bl a]] h = .ok (.val (.bl true)) h := by
  show runF 3 (mr__law_same (Fr__law_same 5)) [.lst [.bl a, .bl a], .lst [.bl a, .bl a]] h = _
  rw [x_run]
  unfold mr__law_same
  have hsm : smR 2 = true := smR_of (by decide) (by decide)
  have er : rngD 0 2 = [0, 1].map fun i : Int => D.int i := rfl
  have e2 : f1 fAll h [.lst [.bl true, .bl true]] = some (.val (.bl true)) := rfl
  simp [tyD, Ty.is, truD, hsm, noOwn, er, -List.map_cons]
  rw [compL_all (fun i : Int => D.int i) (fun _ => D.bl true) [0, 1] (by decide)]
  · simp [e2]
  · intro i hi
    have : i = 0 ∨ i = 1 := by simpa using hi
    rcases this with rfl | rfl <;> simp [storeT, putV, D.flat, wipeV, restV, restS, atI, ixN, same_bl 4 a h]
/-! the nth of the lines before -/
/-- a text of sides -/
structure Sides (z : Str) (n : Nat) : Prop where
  len : z.cps.toList.length = n
  two : ∀ c ∈ z.cps.toList, c = 76 ∨ c = 82
theorem sides_add {z : Str} {n : Nat} (s : Sides z n) (b : Bool) : Sides (z ++ sd b) (n + 1) := by
  have e : (z ++ sd b).cps.toList = z.cps.toList ++ [if b then 82 else 76] := by
    show (z.cps ++ (sd b).cps).toList = _
    rw [Array.toList_append]
    cases b <;> rfl
  refine ⟨by rw [e, List.length_append, s.len]; rfl, fun c hc => ?_⟩
  rw [e] at hc
  rcases List.mem_append.mp hc with hc | hc
  · exact s.two c hc
  · have := List.mem_singleton.mp hc
    rw [this]
    cases b
    · exact .inl rfl
    · exact .inr rfl
theorem aug_sd {z : Str} {n : Nat} (s : Sides z n) (hn : n ≤ 1000) (b : Bool) (h : List Con) : fAugAdd h (.str z) (.str (sd b)) = some (.val (.str (z ++ sd b))) := by
  have e : z.length + (sd b).length ≤ maxL := by
    have h1 : z.length = n := by rw [← s.len]; rfl
    have h2 : (sd b).length = 1 := by cases b <;> rfl
    rw [h1, h2, maxL_eq]; omega
  show (if z.length + (sd b).length ≤ maxL then some (Er.val (.str (z ++ sd b))) else none) = _
  rw [if_pos e]
theorem sides_ok (n : Nat) (lefts : Int) (idx : Int) (hn : n ≤ 300) (h : List Con) : ∃ z : Str, F_nth_sides [.int n, .int lefts, .int idx] h = .ok (.val (.str z)) h ∧ Sides z n := by
  have hsm : smR (n : Int) = true := smR_of (by omega) (by omega)
  obtain ⟨s', e, lf, rest, z, x, y, rfl, sz⟩ := forR_inv (j := 3) (body := l1_nth_sides) (fun i s => ∃ (lf rest : Int) (z : Str) (x y : SD), s = ⟨[.val (.int n), .val (.int lf), .val (.int idx), x, .val (.str z), .val (.int rest), y], h⟩ ∧ Sides z i) n
    ⟨[.val (.int n), .val (.int lefts), .val (.int idx), .no, .val (.str ""), .val (.int idx), .no], h⟩ ⟨lefts, idx, "", .no, .no, rfl, rfl, fun c hc => by cases hc⟩ fun i s hlt hi => by
      obtain ⟨lf, rest, z, x, y, rfl, sz⟩ := hi
      have aL := aug_sd sz (by omega) false h
      have aR := aug_sd sz (by omega) true h
      have eL : (sd false) = ("L" : Str) := rfl
      have eR : (sd true) = ("R" : Str) := rfl
      rw [eL] at aL
      rw [eR] at aR
      have key : ∃ w : Int, eIf (eB (eOp2 fGt (eVar 1) (eC (.int 0)))) (eCall 2 F_ways [] (eCons (eOp2 fSub (eOp2 fSub (eVar 0) (eVar 3)) (eC (.int 1))) (eCons (eOp2 fSub (eVar 1) (eC (.int 1))) eNil))) (eC (.int 0)) ⟨[.val (.int n), .val (.int lf), .val (.int idx), .val (.int i), .val (.str z), .val (.int rest), y], h⟩ = .ok (.val (.int w)) ⟨[.val (.int n), .val (.int lf), .val (.int idx), .val (.int i), .val (.str z), .val (.int rest), y], h⟩ := by
        by_cases hlf : 0 < lf
        · obtain ⟨w, ew, _⟩ := ways_int ((n : Int) - i - 1) (lf - 1) (by omega) (by omega) (by omega)
          exact ⟨w, by simp [hlf, ew]⟩
        · exact ⟨0, by simp [hlf]⟩
      obtain ⟨w, ew⟩ := key
      by_cases hr : rest < w
      · refine ⟨⟨[.val (.int n), .val (.int (lf - 1)), .val (.int idx), .val (.int i), .val (.str (z ++ sd false)), .val (.int rest), .val (.int w)], h⟩, ?_, lf - 1, rest, z ++ sd false, _, _, rfl, sides_add sz false⟩
        unfold l1_nth_sides
        simp only [x_seq, x_asg, List.set_cons_zero, List.set_cons_succ, ew, x_ok, x_toD]
        simp [putV, D.flat, hr, aL]
        rfl
      · refine ⟨⟨[.val (.int n), .val (.int lf), .val (.int idx), .val (.int i), .val (.str (z ++ sd true)), .val (.int (rest - w)), .val (.int w)], h⟩, ?_, lf, rest - w, z ++ sd true, _, _, rfl, sides_add sz true⟩
        unfold l1_nth_sides
        simp only [x_seq, x_asg, List.set_cons_zero, List.set_cons_succ, ew, x_ok, x_toD]
        simp [putV, D.flat, hr, aR]
        rfl
  refine ⟨z, ?_, sz⟩
  unfold F_nth_sides
  rw [x_run]
  unfold m_nth_sides
  simp [okP, put1, D.flat, hsm, frzB, e]
theorem chD_sd (c : Nat) (h : c = 76 ∨ c = 82) : chD c = .str (sd (c == 82)) := by
  rcases h with rfl | rfl <;> rfl
theorem f_addL (xs ys : List D) (h : List Con) : fAdd h (.lst xs) (.lst ys) = if xs.length + ys.length ≤ maxL then some (.new (.lst (xs ++ ys))) else none := rfl
/-- the runs of one post that a text of sides tells -/
def ones (z : Str) : Ln := z.cps.toList.map fun c => (c == 82, 1)
theorem ones_len {z : Str} {n : Nat} (s : Sides z n) : (ones z).length = n := by simp [ones]; exact s.len
theorem ones_comp {z : Str} {n : Nat} (sz : Sides z n) (hn : n ≤ 300) (B : List Nat) (v0 v1 v2 v3 v4 v5 v6 v7 : D) (x : SD) (hx : x = .no) (h : List Con) (v3o : SD) (h3 : v3o = .no ∨ v3o = .val v3) :
    compL B [8] (.nm 8) eYes (eTup (eCons (eVar 8) (eCons (eC (.int 1)) eNil))) (z.cps.toList.map chD) [] ⟨[.val v0, .val v1, .val v2, v3o, .val v4, .val v5, .val v6, .val v7, x], h⟩ = .ok ((ones z).map rD) ⟨[.val v0, .val v1, .val v2, v3o, .val v4, .val v5, .val v6, .val v7, x], h⟩ := by
  subst hx
  rw [compL_all chD (fun c => rD (c == 82, 1)) z.cps.toList (by rw [sz.len, maxL_eq]; omega)]
  · unfold ones
    rw [List.map_map]; rfl
  · intro c hc
    have e := chD_sd c (sz.two c hc)
    have f1 : (chD c).flat = true := rfl
    rcases h3 with rfl | rfl <;> simp [storeT, putV, f1, wipeV, restV, restS] <;> rw [e] <;> rfl
theorem nth_before_ok (l : Ln) (w : WF l) (p : Int) (h1 : 1 ≤ p) (h2 : p ≤ tot l) (h3 : tot l ≤ 200) (hc : p ≤ lo l ∨ tot l + 1 - p ≤ hiL l) (h : List Con) : ∃ d : D, F_nth_before [lD l, .int p, .int 0] h = .ok (.val d) h := by
  have hl : l.length ≤ maxL := Nat.le_trans w.len (by decide)
  have hw := w.len
  obtain ⟨a, b, e, na, nb, pab⟩ := numbers_ok l w p h1 h2 h3
  have pab := pab hc
  have b1 := lo_le w
  have b2 := hi_le w
  have eix : F_check_index [.int 0] h = .ok (.val .non) h := by
    unfold F_check_index
    rw [x_run]
    unfold m_check_index
    simp [is_integer_ok, truD]
  have hab : ¬ a + b ≤ 0 := by omega
  obtain ⟨n1, e1⟩ := Int.eq_ofNat_of_zero_le b1.1
  obtain ⟨n2, e2⟩ := Int.eq_ofNat_of_zero_le b2.1
  by_cases ha : 0 < a
  · obtain ⟨z, ez, sz⟩ := sides_ok n1 p 0 (by omega) h
    have ez' : F_nth_sides [.int (lo l), .int p, .int 0] h = .ok (.val (.str z)) h := by rw [e1]; exact ez
    obtain ⟨l', el, ell⟩ := cut_r l (some 1) none
    have esl : fSl h (lD l) (some 1) none = some (.val (.tup (l'.map rD))) := by
      show some (Er.val (.tup (MP.cutD (l.map rD) (some 1) none))) = _
      rw [el]
    have elist : f1 fListC h [.tup (l'.map rD)] = some (.new (.lst (l'.map rD))) := rfl
    have o1 := ones_len sz
    have ej := joined_ok (ones z ++ l') (by rw [List.length_append]; omega) h
    rw [List.map_append] at ej
    have hadd : ((ones z).map rD).length + (l'.map rD).length ≤ 100000 := by simp; omega
    refine ⟨lD (joinL (ones z ++ l')), ?_⟩
    unfold F_nth_before
    rw [x_run]
    unfold m_nth_before
    have ec := ones_comp sz (by omega) [0, 1, 2, 6, 8] (lD l) (.int p) (.int 0) .non (.int a) (.int b) (.int (lo l)) (.int (hiL l)) .no rfl h .no (.inl rfl)
    simp only [List.map_cons, List.map_nil, x_seq, x_expr, x_call, x_cons, x_nil, x_var, x_ok, x_toD, List.nil_append]
    simp [check_posts_ok l w, check_place_ok l w p h1 h2, eix, limit_le l w h3, e, storeT, D.flatL, D.flat, putL, hab, borders_ok l w, ha, ez', itemsD, noOwn, ec, esl, elist, f_addL, -List.length_map, hadd, ej]
  · have a0 : a = 0 := by omega
    subst a0
    obtain ⟨z, ez, sz⟩ := sides_ok n2 (hiL l - (tot l + 1 - p)) 0 (by omega) h
    have ez' : F_nth_sides [.int (hiL l), .int (hiL l - (tot l + 1 - p)), .int 0] h = .ok (.val (.str z)) h := by rw [e2] at ez ⊢; exact ez
    obtain ⟨l', el, ell⟩ := cut_r l none (some (-1))
    have esl : fSl h (lD l) none (some (-1)) = some (.val (.tup (l'.map rD))) := by
      show some (Er.val (.tup (MP.cutD (l.map rD) none (some (-1))))) = _
      rw [el]
    have elist : f1 fListC h [.tup (l'.map rD)] = some (.new (.lst (l'.map rD))) := rfl
    have o1 := ones_len sz
    have ej := joined_ok (l' ++ ones z) (by rw [List.length_append]; omega) h
    rw [List.map_append] at ej
    have hadd : (l'.map rD).length + ((ones z).map rD).length ≤ 100000 := by simp; omega
    refine ⟨lD (joinL (l' ++ ones z)), ?_⟩
    unfold F_nth_before
    rw [x_run]
    unfold m_nth_before
    have ec := ones_comp sz (by omega) [0, 2, 3, 4, 7, 8] (lD l) (.int p) (.int 0) (.int (hiL l - (tot l + 1 - p))) (.int 0) (.int b) (.int (lo l)) (.int (hiL l)) .no rfl h (.val (.int (hiL l - (tot l + 1 - p)))) (.inr rfl)
    have hb : ¬ b ≤ 0 := by omega
    simp only [List.map_cons, List.map_nil, x_seq, x_expr, x_call, x_cons, x_nil, x_var, x_ok, x_toD, List.nil_append]
    simp [check_posts_ok l w, check_place_ok l w p h1 h2, eix, limit_le l w h3, e, storeT, D.flatL, D.flat, putL, hb, borders_ok l w, F_count_ok l _ hl, putV, ez', itemsD, noOwn, ec, esl, elist, f_addL, -List.length_map, hadd, ej]
theorem nth_before_gt (l : Ln) (w : WF l) (p : Int) (h1 : 1 ≤ p) (h2 : p ≤ tot l) (h3 : 200 < tot l) (h : List Con) : F_nth_before [lD l, .int p, .int 0] h = .ex (.lim "TooLarge" "limit" (.int 200)) h := by
  have eix : F_check_index [.int 0] h = .ok (.val .non) h := by
    unfold F_check_index
    rw [x_run]
    unfold m_check_index
    simp [is_integer_ok, truD]
  unfold F_nth_before
  rw [x_run]
  unfold m_nth_before
  simp only [List.map_cons, List.map_nil, x_seq, x_expr, x_call, x_cons, x_nil, x_var, x_ok, x_toD, List.nil_append]
  simp [check_posts_ok l w, check_place_ok l w p h1 h2, eix, limit_gt l w h3]
@[simp] theorem x_tryF (i : Nat) (C : Str) (ns : List Str) (f : Str) (mb : S → R Fl) (s : S) : sTryF i C ns f mb s = match mb s with
  | .ok f s1 => .ok f s1
  | .ex e s1 => if e.nm = C then (match e with
    | .lim _ g d => if g = f ∧ i < s1.v.length then .ok (.rt (.val d)) s1 else .bad
    | .cls _ => .bad) else if e.nm ∈ ns then .ex e s1 else .bad
  | .bad => .bad := rfl
def due (l : Ln) : Int := if 200 < tot l then 200 else 0
theorem limit_ok (d : Int) (hd : d = 0 ∨ d = 1 ∨ d = 2) (l : Ln) (w : WF l) (p : Int) (h1 : 1 ≤ p) (h2 : p ≤ tot l) (hc : p ≤ lo l ∨ tot l + 1 - p ≤ hiL l) (h : List Con) : F__law_limit [.int d, lD l, .int p] h = .ok (.val (.int (due l))) h := by
  unfold F__law_limit due
  rw [x_run]
  unfold m__law_limit
  by_cases h3 : 200 < tot l
  · rcases hd with rfl | rfl | rfl
    · simp [before_gt l w p h1 h2 h3, Ex.nm, h3]
    · simp [all_gt l w h3, Ex.nm, h3]
    · simp [nth_before_gt l w p h1 h2 h3, Ex.nm, h3]
  · have h4 : tot l ≤ 200 := by omega
    rcases hd with rfl | rfl | rfl
    · obtain ⟨n, e⟩ := before_le l w p h1 h2 h4 h
      simp [e, h3]
    · obtain ⟨n, e⟩ := all_le l w h4 h
      simp [e, h3]
    · obtain ⟨n, e⟩ := nth_before_ok l w p h1 h2 h4 hc h
      simp [e, h3]
/-! the law -/
def Pl (x : SD) : Prop := ∀ c, x ≠ .own c
theorem Pl.v (d : D) : Pl (.val d) := fun _ z => nomatch z
theorem Pl.n : Pl .no := fun _ z => nomatch z
theorem ownFl_pl {x : SD} {i k : Nat} {r : List SD} (h : Pl x) : ownFl i k (x :: r) = ownFl i (k + 1) r := by
  cases x with
  | own c => exact absurd rfl (h c)
  | no => rfl
  | val d => rfl
theorem spot_step (l : Ln) (w : WF l) (p : Int) (h1 : 1 ≤ p) (h2 : p ≤ tot l) (c0 c1 c2 c3 c4 c6 c7 c9 c10 c14 c15 : SD) (h : List Con) : ∃ x y : D,
    l1_law ⟨[c0, c1, c2, c3, c4, .val (lD l), c6, c7, .val (.int p), c9, c10, .val (.int (tot l)), .val (.int (lo l)), .val (.int (hiL l)), c14, c15, .no], h⟩ =
    .ok .nx ⟨[c0, c1, c2, c3, c4, .val (lD l), c6, c7, .val (.int p), c9, c10, .val (.int (tot l)), .val (.int (lo l)), .val (.int (hiL l)), .val x, .val y, .no], h⟩ := by
  refine ⟨.bl (decide (p ≤ lo l ∨ tot l + 1 - p ≤ hiL l)), .lst [.bl (decide (p ≤ lo l ∨ tot l + 1 - p ≤ hiL l)), .bl (decide (p ≤ lo l ∨ tot l + 1 - p ≤ hiL l))], ?_⟩
  have e := fun h => can_ok l w p h1 h2 h
  have es := same_ok (decide (p ≤ lo l ∨ tot l + 1 - p ≤ hiL l)) h
  unfold l1_law
  by_cases hp : p ≤ lo l
  · simp [hp] at e es
    simp [hp, putV, D.flat, frzB, permL, e, es, truD]
  · by_cases hq : tot l + 1 - p ≤ hiL l
    · simp [hq] at e es
      simp [hp, hq, putV, D.flat, frzB, permL, e, es, truD]
    · have e' : ∀ h, F_can_be_before [lD l, .int p] h = .ok (.val (.bl false)) h := fun h => by rw [e]; simp [hp, hq]
      have es' : F__law_same [.lst [.bl false, .bl false], .lst [.bl false, .bl false]] h = .ok (.val (.bl true)) h := same_ok false h
      simp [hp, hq, putV, D.flat, frzB, permL, e', es', truD]
theorem ne3 (d : Int) (h : List Con) : fNe h (.lst [.int d, .int d, .int d]) (.lst [.int d, .int d, .int d]) = some (.val (.bl false)) := by
  rw [f_neP (p := .list [.int d, .int d, .int d]) (q := .list [.int d, .int d, .int d]) rfl rfl (by rfl) (by rfl)]
  simp [PyData.eqv, PyData.eqvAll]
theorem mul3 (d : Int) (h : List Con) : fMul h (.lst [.int d]) (.int 3) = some (.new (.lst [.int d, .int d, .int d])) := rfl
theorem three : rngD 0 3 = [0, 1, 2].map fun i : Int => D.int i := rfl
theorem lap_step (l : Ln) (b : BL l) (n : Nat) (N : Int) (h : List Con) (bg : Bag h n N) (hN : N ≤ 10 ^ 10) (c0 c1 c3 c4 c6 c7 c8 c9 c10 c11 c12 c13 c14 c15 : SD) (q8 : Pl c8) (q14 : Pl c14) (q15 : Pl c15) : ∃ (l' : Ln) (h' : List Con) (d7 d8 d9 d10 d11 d12 d13 d14 d15 : SD), (Pl d7 ∧ Pl d8 ∧ Pl d9 ∧ Pl d10 ∧ Pl d11 ∧ Pl d12 ∧ Pl d13 ∧ Pl d14 ∧ Pl d15) ∧ WF l' ∧ tot l' = tot l ∧ l'.length ≤ 2 * l.length ∧ Bag h' n (N + 3) ∧
    l2_law ⟨[c0, c1, .val (.ref n), c3, c4, .val (lD l), c6, c7, c8, c9, c10, c11, c12, c13, c14, c15, .no], h⟩ =
    .ok .nx ⟨[c0, c1, .val (.ref n), c3, c4, .val (lD l'), c6, d7, d8, d9, d10, d11, d12, d13, d14, d15, .no], h'⟩ := by
  have w := b.wf
  have hl : l.length ≤ maxL := Nat.le_trans w.len (by decide)
  obtain ⟨p, h1, e1, p1, p2, b1, len1⟩ := start_ok l b h n N bg hN
  have lo1 := lo_le w
  have hi1 := hi_le w
  have t1 := tot_pos w
  have e2 := ends_ok l w b.szr h1
  obtain ⟨s', e3, d8, d14, d15, ⟨w8, w14, w15⟩, rfl⟩ := forE_inv (t := .nm 8) (body := l1_law) D.int (fun i s => ∃ (d8 d14 d15 : SD), (Pl d8 ∧ Pl d14 ∧ Pl d15) ∧ s = ⟨[c0, c1, .val (.ref n), c3, c4, .val (lD l), c6, .val (.lst [.int p, .int (max 1 (lo l)), .int (min (tot l) (lo l + 1)), .int (min (tot l) (tot l + 1 - hiL l)), .int (max 1 (tot l - hiL l))]), d8, c9, .val (.int p), .val (.int (tot l)), .val (.int (lo l)), .val (.int (hiL l)), d14, d15, .no], h1⟩)
    [p, max 1 (lo l), min (tot l) (lo l + 1), min (tot l) (tot l + 1 - hiL l), max 1 (tot l - hiL l)]
    ⟨[c0, c1, .val (.ref n), c3, c4, .val (lD l), c6, .val (.lst [.int p, .int (max 1 (lo l)), .int (min (tot l) (lo l + 1)), .int (min (tot l) (tot l + 1 - hiL l)), .int (max 1 (tot l - hiL l))]), c8, c9, .val (.int p), .val (.int (tot l)), .val (.int (lo l)), .val (.int (hiL l)), c14, c15, .no], h1⟩ ⟨c8, c14, c15, ⟨q8, q14, q15⟩, rfl⟩ fun i y s hy hi => by
      obtain ⟨d8, d14, d15, _, rfl⟩ := hi
      have hm := List.mem_of_getElem? hy
      have hb : 1 ≤ y ∧ y ≤ tot l := by
        simp only [List.mem_cons, List.not_mem_nil, or_false] at hm
        rcases hm with rfl | rfl | rfl | rfl | rfl <;> omega
      obtain ⟨x, z, e⟩ := spot_step l w y hb.1 hb.2 c0 c1 (.val (.ref n)) c3 c4 c6 (.val (.lst [.int p, .int (max 1 (lo l)), .int (min (tot l) (lo l + 1)), .int (min (tot l) (tot l + 1 - hiL l)), .int (max 1 (tot l - hiL l))])) c9 (.val (.int p)) d14 d15 h1
      exact ⟨_, _, rfl, e, _, _, _, ⟨Pl.v _, Pl.v _, Pl.v _⟩, rfl⟩
  obtain ⟨l', x, y, e4, w', t', len', hc⟩ := block_ok l b p p1 p2 h1
  have e5 := can_ok l' w' p p1 (by omega) h1
  have e5' : F_can_be_before [lD l', .int p] h1 = .ok (.val (.bl true)) h1 := by
    rw [e5]
    have : p ≤ lo l' ∨ tot l' + 1 - p ≤ hiL l' := by rw [t']; exact hc
    simp [this]
  have hl' : l'.length ≤ maxL := Nat.le_trans w'.len (by decide)
  have e6 := F_size_ok l' h1 hl'
  have hsm : smR 3 = true := smR_of (by decide) (by decide)
  have e7 : fIsNot h1 (.bl true) (.bl true) = some (.val (.bl false)) := rfl
  have e8 : fIx h1 (.tup [lD l', x, y]) (.int 0) = some (.val (lD l')) := rfl
  simp only [List.map_cons, List.map_nil] at e3
  refine ⟨l', h1, .val (.lst [.int p, .int (max 1 (lo l)), .int (min (tot l) (lo l + 1)), .int (min (tot l) (tot l + 1 - hiL l)), .int (max 1 (tot l - hiL l))]), d8, .val (.int (due l')), .val (.int p), .val (.int (tot l)), .val (.int (lo l)), .val (.int (hiL l)), d14, d15, ⟨Pl.v _, w8, Pl.v _, Pl.v _, Pl.v _, Pl.v _, Pl.v _, w14, w15⟩, w', t', len', b1, ?_⟩
  unfold l2_law
  have comp : ∀ d9, compL [5, 9, 10, 16] [16] (.nm 16) eYes (eCall 3 F__law_limit [] (eCons (eVar 16) (eCons (eVar 5) (eCons (eVar 10) eNil)))) ([0, 1, 2].map fun i : Int => D.int i) [] ⟨[c0, c1, .val (.ref n), c3, c4, .val (lD l'), c6, .val (.lst [.int p, .int (max 1 (lo l)), .int (min (tot l) (lo l + 1)), .int (min (tot l) (tot l + 1 - hiL l)), .int (max 1 (tot l - hiL l))]), d8, d9, .val (.int p), .val (.int (tot l)), .val (.int (lo l)), .val (.int (hiL l)), d14, d15, .no], h1⟩ = .ok [.int (due l'), .int (due l'), .int (due l')] ⟨[c0, c1, .val (.ref n), c3, c4, .val (lD l'), c6, .val (.lst [.int p, .int (max 1 (lo l)), .int (min (tot l) (lo l + 1)), .int (min (tot l) (tot l + 1 - hiL l)), .int (max 1 (tot l - hiL l))]), d8, d9, .val (.int p), .val (.int (tot l)), .val (.int (lo l)), .val (.int (hiL l)), d14, d15, .no], h1⟩ := by
    intro d9
    rw [compL_all (fun i : Int => D.int i) (fun _ => D.int (due l')) [0, 1, 2] (by decide)]
    · rfl
    · intro i hi
      have : i = 0 ∨ i = 1 ∨ i = 2 := by simpa using hi
      have el := limit_ok i this l' w' p p1 (by omega) (by rw [t']; exact hc) h1
      simp [storeT, putV, D.flat, wipeV, restV, restS, el]
  have fl' : (lD l').flat = true := lD_flat l'
  by_cases hd : 200 < tot l'
  · have ed : due l' = 200 := by unfold due; rw [if_pos hd]
    rw [ed] at comp ⊢
    simp [e1, F_size_ok l _ hl, storeT, D.flatL, D.flat, putL, e2, putV, frzB, itemsD, e3, e4, e8, fl', e5', e7, e6, hd, hsm, three, noOwn, comp, mul3, ne3, -List.map_cons]
  · have ed : due l' = 0 := by unfold due; rw [if_neg hd]
    rw [ed] at comp ⊢
    simp [e1, F_size_ok l _ hl, storeT, D.flatL, D.flat, putL, e2, putV, frzB, itemsD, e3, e4, e8, fl', e5', e7, e6, hd, hsm, three, noOwn, comp, mul3, ne3, -List.map_cons]
theorem turn_step (n : Nat) (N : Int) (h : List Con) (bg : Bag h n N) (hN : N ≤ 10 ^ 8) (c0 c1 c3 c4 c5 c6 c7 c8 c9 c10 c11 c12 c13 c14 c15 : SD) (q0 : Pl c6) (q7 : Pl c7) (q8 : Pl c8) (q9 : Pl c9) (q10 : Pl c10) (q11 : Pl c11) (q12 : Pl c12) (q13 : Pl c13) (q14 : Pl c14) (q15 : Pl c15) :
    ∃ (h' : List Con) (d5 d6 d7 d8 d9 d10 d11 d12 d13 d14 d15 : SD), (Pl d5 ∧ Pl d6 ∧ Pl d7 ∧ Pl d8 ∧ Pl d9 ∧ Pl d10 ∧ Pl d11 ∧ Pl d12 ∧ Pl d13 ∧ Pl d14 ∧ Pl d15) ∧ Bag h' n (N + 100) ∧
    l3_law ⟨[c0, c1, .val (.ref n), c3, c4, c5, c6, c7, c8, c9, c10, c11, c12, c13, c14, c15, .no], h⟩ =
    .ok .nx ⟨[c0, c1, .val (.ref n), c3, c4, d5, d6, d7, d8, d9, d10, d11, d12, d13, d14, d15, .no], h'⟩ := by
  obtain ⟨l, h1, e1, bl, l20, b1, len1⟩ := wide_ok h n N bg (by omega)
  obtain ⟨s', e2, l', h', d6, d7, d8, d9, d10, d11, d12, d13, d14, d15, pl, wf', t', len', b', rfl⟩ := forR_inv (j := 6) (body := l2_law) (fun i s => ∃ (l' : Ln) (h' : List Con) (d6 d7 d8 d9 d10 d11 d12 d13 d14 d15 : SD), (Pl d6 ∧ Pl d7 ∧ Pl d8 ∧ Pl d9 ∧ Pl d10 ∧ Pl d11 ∧ Pl d12 ∧ Pl d13 ∧ Pl d14 ∧ Pl d15) ∧ WF l' ∧ tot l' = tot l ∧ l'.length ≤ 20 * 2 ^ i ∧ Bag h' n (N + 50 + 3 * i) ∧
      s = ⟨[c0, c1, .val (.ref n), c3, c4, .val (lD l'), d6, d7, d8, d9, d10, d11, d12, d13, d14, d15, .no], h'⟩) 2
    ⟨[c0, c1, .val (.ref n), c3, c4, .val (lD l), c6, c7, c8, c9, c10, c11, c12, c13, c14, c15, .no], h1⟩ ⟨l, h1, c6, c7, c8, c9, c10, c11, c12, c13, c14, c15, ⟨q0, q7, q8, q9, q10, q11, q12, q13, q14, q15⟩, bl.wf, rfl, by simpa using l20, b1.le (by omega), rfl⟩ fun i s hlt hi => by
      obtain ⟨l', h', d6, d7, d8, d9, d10, d11, d12, d13, d14, d15, ⟨r6, r7, r8, r9, r10, r11, r12, r13, r14, r15⟩, wf', t', len', b', rfl⟩ := hi
      have hp : 2 ^ i ≤ 2 := by
        have : i = 0 ∨ i = 1 := by omega
        rcases this with rfl | rfl <;> decide
      obtain ⟨l2, h2, f7, f8, f9, f10, f11, f12, f13, f14, f15, ⟨s7, s8, s9, s10, s11, s12, s13, s14, s15⟩, w2, t2, len2, b2, e⟩ := lap_step l' ⟨wf', by rw [t']; exact bl.sz, by omega⟩ n (N + 50 + 3 * i) h' b' (by omega) c0 c1 c3 c4 (.val (.int i)) d7 d8 d9 d10 d11 d12 d13 d14 d15 r8 r14 r15
      refine ⟨_, e, l2, h2, .val (.int i), f7, f8, f9, f10, f11, f12, f13, f14, f15, ⟨Pl.v _, s7, s8, s9, s10, s11, s12, s13, s14, s15⟩, w2, by omega, ?_, b2.le (by omega), rfl⟩
      rw [Nat.pow_succ]; omega
  obtain ⟨r6, r7, r8, r9, r10, r11, r12, r13, r14, r15⟩ := pl
  have hsm : smR 2 = true := smR_of (by decide) (by decide)
  have fl : (lD l).flat = true := lD_flat l
  refine ⟨h', .val (lD l'), d6, d7, d8, d9, d10, d11, d12, d13, d14, d15, ⟨Pl.v _, r6, r7, r8, r9, r10, r11, r12, r13, r14, r15⟩, b'.le (by omega), ?_⟩
  have fz : ∀ (v : List SD) (k : Nat), frzB [] k v = v := by
    intro v
    induction v with
    | nil => intro k; rfl
    | cons a r ih => intro k; simp [frzB, ih]
  unfold l3_law
  simp [e1, putV, fl, hsm, fz, e2]
theorem frzB_nil : ∀ (v : List SD) (k : Nat), frzB [] k v = v := by
  intro v
  induction v with
  | nil => intro k; rfl
  | cons a r ih => intro k; simp [frzB, ih]
theorem cell_at (ns : List Int) (k : Nat) (h : List Con) : ∃ c : Int, F__law_cell_at [.fz ns, .int k] h = .ok (.val (.int c)) h := by
  have e1 : f1 fLen h [.fz ns] = some (.val (.int ns.length)) := rfl
  by_cases hk : k < ns.length
  · have hk' : (k : Int) < (ns.length : Int) := by omega
    have e2 : fIx h (.fz ns) (.int k) = some (.val (.int ns[k])) := by
      show (atI ns (k : Int)).map _ = _
      unfold atI ixN
      rw [if_pos (by omega), if_pos hk']
      simp [hk]
    refine ⟨ns[k], ?_⟩
    unfold F__law_cell_at
    rw [x_run]
    unfold m__law_cell_at
    simp [e1, hk, e2]
  · refine ⟨0, ?_⟩
    unfold F__law_cell_at
    rw [x_run]
    unfold m__law_cell_at
    simp [e1, hk]
theorem bag_ok (c : Int) (k : Nat) (hk : k ≤ 100) (h : List Con) : ∃ a b : Int, F__law_bag [.int c, .int k] h = .ok (.new (.lst [.int a, .int b, .int 0])) h ∧ 0 ≤ a ∧ 0 ≤ b ∧ b ≤ 10 ^ 60 := by
  have z10 : sz 10 = true := sz_le (by decide)
  have z1 : sz 6469 = true := sz_le (by decide)
  have z2 : sz ((k : Int) + 1) = true := sz_le (by omega)
  have m0 := Int.emod_nonneg c (show (162259276829213363391578010288127 : Int) ≠ 0 by decide)
  have m1 := Int.emod_lt_of_pos c (show (0 : Int) < 162259276829213363391578010288127 by decide)
  refine ⟨max 0 (c - 1000000000000000000), c % 162259276829213363391578010288127 + 6469 * ((k : Int) + 1), ?_, by omega, by omega, by omega⟩
  unfold F__law_bag
  rw [x_run]
  unfold m__law_bag
  simp [z10, z1, z2]
theorem pickE (v : Int) (h : List Con) (h0 : 0 ≤ v) (h3 : v < 3) : ∃ L : Int, fIx h (.lst [.int 199, .int 200, .int 201]) (.int v) = some (.val (.int L)) ∧ 199 ≤ L ∧ L ≤ 201 := by
  have : v = 0 ∨ v = 1 ∨ v = 2 := by omega
  rcases this with rfl | rfl | rfl
  · exact ⟨199, rfl, by decide, by decide⟩
  · exact ⟨200, rfl, by decide, by decide⟩
  · exact ⟨201, rfl, by decide, by decide⟩
/-- fifteen plain slots -/
def AllPl (xs : List SD) : Prop := ∀ x ∈ xs, Pl x
theorem cell_step (ns : List Int) (k : Nat) (hk : k ≤ 100) (c2 c3 c4 c5 c6 c7 c8 c9 c10 c11 c12 c13 c14 c15 : SD) (h : List Con) (q : AllPl [c2, c3, c4, c5, c6, c7, c8, c9, c10, c11, c12, c13, c14, c15]) :
    ∃ (h' : List Con) (d2 d3 d4 d5 d6 d7 d8 d9 d10 d11 d12 d13 d14 d15 : SD), AllPl [d2, d3, d4, d5, d6, d7, d8, d9, d10, d11, d12, d13, d14, d15] ∧
    l4_law ⟨[.val (.fz ns), .val (.int k), c2, c3, c4, c5, c6, c7, c8, c9, c10, c11, c12, c13, c14, c15, .no], h⟩ =
    .ok .nx ⟨[.val (.fz ns), .val (.int k), d2, d3, d4, d5, d6, d7, d8, d9, d10, d11, d12, d13, d14, d15, .no], h'⟩ := by
  have q2 := q c2 (by simp)
  have q3 := q c3 (by simp)
  have q4 := q c4 (by simp)
  have q5 := q c5 (by simp)
  have q6 := q c6 (by simp)
  have q7 := q c7 (by simp)
  have q8 := q c8 (by simp)
  have q9 := q c9 (by simp)
  have q10 := q c10 (by simp)
  have q11 := q c11 (by simp)
  have q12 := q c12 (by simp)
  have q13 := q c13 (by simp)
  have q14 := q c14 (by simp)
  have q15 := q c15 (by simp)
  obtain ⟨c, e1⟩ := cell_at ns k h
  obtain ⟨a, b, e2, a0, b0, b1⟩ := bag_ok c k hk h
  have bg : Bag (h ++ [.lst [.int a, .int b, .int 0]]) h.length 0 := ⟨a, b, 0, by simp, a0, b0, b1, by omega, by omega⟩
  obtain ⟨s', e3, h1, d3, d5, d6, d7, d8, d9, d10, d11, d12, d13, d14, d15, ⟨r3, r5, r6, r7, r8, r9, r10, r11, r12, r13, r14, r15⟩, bg1, rfl⟩ := forR_inv (j := 3) (body := l3_law) (fun i s => ∃ (h' : List Con) (d3 d5 d6 d7 d8 d9 d10 d11 d12 d13 d14 d15 : SD), (Pl d3 ∧ Pl d5 ∧ Pl d6 ∧ Pl d7 ∧ Pl d8 ∧ Pl d9 ∧ Pl d10 ∧ Pl d11 ∧ Pl d12 ∧ Pl d13 ∧ Pl d14 ∧ Pl d15) ∧ Bag h' h.length (100 * i) ∧
      s = ⟨[.val (.fz ns), .val (.int k), .val (.ref h.length), d3, c4, d5, d6, d7, d8, d9, d10, d11, d12, d13, d14, d15, .no], h'⟩) 6
    ⟨[.val (.fz ns), .val (.int k), .val (.ref h.length), c3, c4, c5, c6, c7, c8, c9, c10, c11, c12, c13, c14, c15, .no], h ++ [.lst [.int a, .int b, .int 0]]⟩ ⟨_, c3, c5, c6, c7, c8, c9, c10, c11, c12, c13, c14, c15, ⟨q3, q5, q6, q7, q8, q9, q10, q11, q12, q13, q14, q15⟩, bg.le (by omega), rfl⟩ fun i s hlt hi => by
      obtain ⟨h', d3, d5, d6, d7, d8, d9, d10, d11, d12, d13, d14, d15, ⟨r3, r5, r6, r7, r8, r9, r10, r11, r12, r13, r14, r15⟩, b', rfl⟩ := hi
      obtain ⟨h2, f5, f6, f7, f8, f9, f10, f11, f12, f13, f14, f15, ⟨s5, s6, s7, s8, s9, s10, s11, s12, s13, s14, s15⟩, b2, e⟩ := turn_step h.length (100 * i) h' b' (by omega) (.val (.fz ns)) (.val (.int k)) (.val (.int i)) c4 d5 d6 d7 d8 d9 d10 d11 d12 d13 d14 d15 r6 r7 r8 r9 r10 r11 r12 r13 r14 r15
      exact ⟨_, e, h2, .val (.int i), f5, f6, f7, f8, f9, f10, f11, f12, f13, f14, f15, ⟨Pl.v _, s5, s6, s7, s8, s9, s10, s11, s12, s13, s14, s15⟩, b2.le (by omega), rfl⟩
  obtain ⟨v, h2, e4, v0, v3, bg2, len2⟩ := take_ok h1 h.length (100 * 6) 3 (bg1.le (by omega)) (by decide) (by decide) (by decide)
  obtain ⟨L, eL, L1, L2⟩ := pickE v h2 v0 v3
  have we : WF [(true, 100), (false, L - 100)] := ⟨by simp, fun r hr => by
    simp only [List.mem_cons, List.not_mem_nil, or_false] at hr
    rcases hr with rfl | rfl
    · decide
    · show 1 ≤ L - 100; omega, ⟨by simp, trivial⟩, (show 2 ≤ 1000 by decide)⟩
  have te : tot [(true, 100), (false, L - 100)] = L := by simp [tot]; omega
  have hc : (1 : Int) ≤ lo [(true, 100), (false, L - 100)] := (show (1 : Int) ≤ 100 by decide)
  have comp : compL [4, 5, 16] [16] (.nm 16) eYes (eCall 3 F__law_limit [] (eCons (eVar 16) (eCons (eVar 5) (eCons (eC (.int 1)) eNil)))) ([0, 1, 2].map fun i : Int => D.int i) [] ⟨[.val (.fz ns), .val (.int k), .val (.ref h.length), d3, .val (.int L), .val (lD [(true, 100), (false, L - 100)]), d6, d7, d8, d9, d10, d11, d12, d13, d14, d15, .no], h2⟩ = .ok [.int (due [(true, 100), (false, L - 100)]), .int (due [(true, 100), (false, L - 100)]), .int (due [(true, 100), (false, L - 100)])] ⟨[.val (.fz ns), .val (.int k), .val (.ref h.length), d3, .val (.int L), .val (lD [(true, 100), (false, L - 100)]), d6, d7, d8, d9, d10, d11, d12, d13, d14, d15, .no], h2⟩ := by
    rw [compL_all (fun i : Int => D.int i) (fun _ => D.int (due [(true, 100), (false, L - 100)])) [0, 1, 2] (by decide)]
    · rfl
    · intro i hi
      have : i = 0 ∨ i = 1 ∨ i = 2 := by simpa using hi
      have el := limit_ok i this _ we 1 (by decide) (by rw [te]; omega) (.inl hc) h2
      simp [storeT, putV, D.flat, wipeV, restV, restS, el]
  have hsm6 : smR 6 = true := smR_of (by decide) (by decide)
  have hsm3 : smR 3 = true := smR_of (by decide) (by decide)
  have z200 : sz 200 = true := sz_le (by decide)
  have z1 : sz 1 = true := sz_le (by decide)
  have z0 : sz 0 = true := sz_le (by decide)
  have elD : D.tup [.tup [.str "R", .int 100], .tup [.str "L", .int (L - 100)]] = lD [(true, 100), (false, L - 100)] := rfl
  have fl : (lD [(true, 100), (false, L - 100)]).flat = true := lD_flat _
  have own : ownFl 2 0 [.val (.fz ns), .val (.int k), c2, c3, c4, c5, c6, c7, c8, c9, c10, c11, c12, c13, c14, c15, .no] = true := by
    rw [ownFl_pl (Pl.v _), ownFl_pl (Pl.v _), ownFl_pl q2, ownFl_pl q3, ownFl_pl q4, ownFl_pl q5, ownFl_pl q6, ownFl_pl q7, ownFl_pl q8, ownFl_pl q9, ownFl_pl q10, ownFl_pl q11, ownFl_pl q12, ownFl_pl q13, ownFl_pl q14, ownFl_pl q15, ownFl_pl Pl.n]
    rfl
  refine ⟨h2, .val (.ref h.length), d3, .val (.int L), .val (lD [(true, 100), (false, L - 100)]), d6, d7, d8, d9, d10, d11, d12, d13, d14, d15, ?_, ?_⟩
  · intro x hx
    simp only [List.mem_cons, List.not_mem_nil, or_false] at hx
    rcases hx with rfl | rfl | rfl | rfl | rfl | rfl | rfl | rfl | rfl | rfl | rfl | rfl | rfl | rfl
    all_goals first | exact Pl.v _ | assumption
  · have hfl : D.flatL [.int a, .int b, .int 0] = true := rfl
    unfold l4_law
    by_cases hd : 200 < L
    · have ed : due [(true, 100), (false, L - 100)] = 200 := by unfold due; rw [te, if_pos hd]
      rw [ed] at comp
      simp [e1, e2, putC, Con.flat, hfl, own, hsm6, frzB_nil, e3, e4, eL, putV, D.flat, elD, fl, hsm3, three, noOwn, comp, f_intB, hd, z200, z1, mul3, ne3, -List.map_cons]
    · have ed : due [(true, 100), (false, L - 100)] = 0 := by unfold due; rw [te, if_neg hd]
      rw [ed] at comp
      simp [e1, e2, putC, Con.flat, hfl, own, hsm6, frzB_nil, e3, e4, eL, putV, D.flat, elD, fl, hsm3, three, noOwn, comp, f_intB, hd, z200, z0, mul3, ne3, -List.map_cons]
theorem law_ok : ∀ ns : List Int, ns.length ≤ 63 → ∃ h', F_law [.fz ns] [] = .ok (.val (.bl true)) h' := by
  intro ns hn
  have hk : ∃ m : Nat, max 1 (min 4 (ns.length : Int)) = (m : Int) ∧ m ≤ 4 := ⟨(max 1 (min 4 (ns.length : Int))).toNat, by omega, by omega⟩
  obtain ⟨m, em, hm⟩ := hk
  have hsm : smR (m : Int) = true := smR_of (by omega) (by omega)
  have e1 : f1 fLen [] [.fz ns] = some (.val (.int ns.length)) := rfl
  obtain ⟨s', e, h', d1, d2, d3, d4, d5, d6, d7, d8, d9, d10, d11, d12, d13, d14, d15, q, rfl⟩ := forR_inv (j := 1) (body := l4_law) (fun i s => ∃ (h' : List Con) (d1 d2 d3 d4 d5 d6 d7 d8 d9 d10 d11 d12 d13 d14 d15 : SD), AllPl [d2, d3, d4, d5, d6, d7, d8, d9, d10, d11, d12, d13, d14, d15] ∧ s = ⟨[.val (.fz ns), d1, d2, d3, d4, d5, d6, d7, d8, d9, d10, d11, d12, d13, d14, d15, .no], h'⟩) m
    ⟨[.val (.fz ns), .no, .no, .no, .no, .no, .no, .no, .no, .no, .no, .no, .no, .no, .no, .no, .no], []⟩ ⟨[], .no, .no, .no, .no, .no, .no, .no, .no, .no, .no, .no, .no, .no, .no, .no, fun x hx => by
      simp at hx
      rw [hx]; exact Pl.n, rfl⟩ fun i s hlt hi => by
      obtain ⟨h', d1, d2, d3, d4, d5, d6, d7, d8, d9, d10, d11, d12, d13, d14, d15, q, rfl⟩ := hi
      obtain ⟨h2, f2, f3, f4, f5, f6, f7, f8, f9, f10, f11, f12, f13, f14, f15, q2, e⟩ := cell_step ns i (by omega) d2 d3 d4 d5 d6 d7 d8 d9 d10 d11 d12 d13 d14 d15 h' q
      exact ⟨_, e, h2, _, f2, f3, f4, f5, f6, f7, f8, f9, f10, f11, f12, f13, f14, f15, q2, rfl⟩
  refine ⟨h', ?_⟩
  unfold F_law
  rw [x_run]
  unfold m_law
  simp [e1, em, hsm, frzB, e]
end MPLAW

open PySem PySem.W PyProof.Rows
set_option maxHeartbeats 0 in
theorem PySem.Challenge.cw_swingposts_k37_before_on_large_lines_holds : PySem.Challenge.rw_swingposts_k37_before_on_large_lines.Holds := by
  w_on; o_law; k_head; (case hw => w_witness2)
  k_fill
  refine L2.walk_of (l := PySem.Challenge.rw_swingposts_k37_before_on_large_lines) (n := 63) (k := 8) (x := "script") (CX := fun w => L2.CX PySem.Challenge.pw_swingposts_k37_before_on_large_lines w) (sp := fun w => MP.spL _) rfl (by decide) rfl ⟨rfl, by decide, by decide⟩ (fun w h Y => PySem.W.kIn_of Y) ?F (fun _ _ a ns hl hO hS => ⟨a, ns, rfl, hS, hO, hl, fun _ => rfl⟩) (fun _ _ _ _ _ h => MP.cx_none h)
  case F =>
    intro w mg fa h KX G hmg
    refine' MPLAW.all_mk KX G hmg MPLAW.law_ok ?z_b_max ?z_b_len ?z_b_range ?z_b_tuple ?z_b_int ?z_b_isinstance ?z_b_str ?z_c_LEFT_posts ?z_c_RIGHT_posts ?z_b_bool ?z_b_all ?z_b_zip ?z_b_sum ?z_c_LIMIT ?z_c_RIGHT_walks ?z_c_LEFT_walks ?z_b_list ?z_x__law_limit ?h1_x__law_limit ?h2_x__law_limit ?h3_x__law_limit ?h4_x__law_limit ?z_xf__law_limit ?h1_xf__law_limit ?h2_xf__law_limit ?h3_xf__law_limit ?h4_xf__law_limit ?h5_xf__law_limit ?z_b_min (MP.defAt_mk ?a__law_bag ?l__law_bag ?c__law_bag ?k__law_bag) (MP.defAt_mk ?a__law_cell_at ?l__law_cell_at ?c__law_cell_at ?k__law_cell_at) (MP.defAt_mk ?a__law_take ?l__law_take ?c__law_take ?k__law_take) (MP.defAt_mk ?a__law_wide ?l__law_wide ?c__law_wide ?k__law_wide) (MP.defAt_mk ?a__law_ends ?l__law_ends ?c__law_ends ?k__law_ends) (MP.defAt_mk ?a_is_side ?l_is_side ?c_is_side ?k_is_side) (MP.defAt_mk ?a_is_integer ?l_is_integer ?c_is_integer ?k_is_integer) (MP.defAt_mk ?a_is_run ?l_is_run ?c_is_run ?k_is_run) (MP.defAt_mk ?a_is_posts ?l_is_posts ?c_is_posts ?k_is_posts) (MP.defAt_mk ?a_check_posts ?l_check_posts ?c_check_posts ?k_check_posts) (MP.defAt_mk ?a_count_posts ?l_count_posts ?c_count_posts ?k_count_posts) (MP.defAt_mk ?a_is_place ?l_is_place ?c_is_place ?k_is_place) (MP.defAt_mk ?a_check_place ?l_check_place ?c_check_place ?k_check_place) (MP.defAt_mk ?a_check_limit ?l_check_limit ?c_check_limit ?k_check_limit) (MP.defAt_mk ?a_borders ?l_borders ?c_borders ?k_borders) (MP.defAt_mk ?a_ways ?l_ways ?c_ways ?k_ways) (MP.defAt_mk ?a_numbers_before ?l_numbers_before ?c_numbers_before ?k_numbers_before) (MP.defAt_mk ?a_count_before ?l_count_before ?c_count_before ?k_count_before) (MP.defAt_mk ?a_doubled ?l_doubled ?c_doubled ?k_doubled) (MP.defAt_mk ?a_count_all_before ?l_count_all_before ?c_count_all_before ?k_count_all_before) (MP.defAt_mk ?a_check_index ?l_check_index ?c_check_index ?k_check_index) (MP.defAt_mk ?a_joined ?l_joined ?c_joined ?k_joined) (MP.defAt_mk ?a_nth_sides ?l_nth_sides ?c_nth_sides ?k_nth_sides) (MP.defAt_mk ?a_nth_before ?l_nth_before ?c_nth_before ?k_nth_before) (MP.defAt_mk ?a__law_limit ?l__law_limit ?c__law_limit ?k__law_limit) (MP.defAt_mk ?a__law_size ?l__law_size ?c__law_size ?k__law_size) (MP.defAt_mk ?a__law_start ?l__law_start ?c__law_start ?k__law_start) (MP.defAt_mk ?a__law_rights ?l__law_rights ?c__law_rights ?k__law_rights) (MP.defAt_mk ?a__law_nth_left ?l__law_nth_left ?c__law_nth_left ?k__law_nth_left) (MP.defAt_mk ?a__law_joined ?l__law_joined ?c__law_joined ?k__law_joined) (MP.defAt_mk ?a__law_settled ?l__law_settled ?c__law_settled ?k__law_settled) (MP.defAt_mk ?a__law_mirror ?l__law_mirror ?c__law_mirror ?k__law_mirror) (MP.defAt_mk ?a__law_first ?l__law_first ?c__law_first ?k__law_first) (MP.defAt_mk ?a__law_last ?l__law_last ?c__law_last ?k__law_last) (MP.defAt_mk ?a__law_block ?l__law_block ?c__law_block ?k__law_block) (MP.defAt_mk ?a_can_be_before ?l_can_be_before ?c_can_be_before ?k_can_be_before) (MP.defAt_mk ?a__law_same ?l__law_same ?c__law_same ?k__law_same) (MP.defAt_mk ?a_law ?l_law ?c_law ?k_law) (MP.limAt_mk ?ea_TooLarge (MP.oex_mk ?ex_TooLarge ?er_TooLarge ?es_TooLarge ?ee_TooLarge ?et_TooLarge ?ek_TooLarge) ?en_TooLarge ?ei_TooLarge ?ej_TooLarge ?el_TooLarge ?ec_TooLarge ?eq_TooLarge)
    (case z_b_max => k_is)
    (case z_b_len => k_is)
    (case z_b_range => k_is)
    (case z_b_tuple => k_is)
    (case z_b_int => k_is)
    (case z_b_isinstance => k_is)
    (case z_b_str => k_is)
    (case z_c_LEFT_posts => k_is)
    (case z_c_RIGHT_posts => k_is)
    (case z_b_bool => k_is)
    (case z_b_all => k_is)
    (case z_b_zip => k_is)
    (case z_b_sum => k_is)
    (case z_c_LIMIT => k_is)
    (case z_c_RIGHT_walks => k_is)
    (case z_c_LEFT_walks => k_is)
    (case z_b_list => k_is)
    (case z_x__law_limit => k_is)
    (case h1_x__law_limit => k_is)
    (case h2_x__law_limit => k_is)
    (case h3_x__law_limit => k_is)
    (case h4_x__law_limit => k_is)
    (case z_xf__law_limit => k_is)
    (case h1_xf__law_limit => k_is)
    (case h2_xf__law_limit => k_is)
    (case h3_xf__law_limit => k_is)
    (case h4_xf__law_limit => k_is)
    (case h5_xf__law_limit => k_is)
    (case z_b_min => k_is)
    (case a__law_bag => k_is)
    (case l__law_bag => k_is)
    (case c__law_bag => k_is)
    (case k__law_bag => k_is)
    (case a__law_cell_at => k_is)
    (case l__law_cell_at => k_is)
    (case c__law_cell_at => k_is)
    (case k__law_cell_at => k_is)
    (case a__law_take => k_is)
    (case l__law_take => k_is)
    (case c__law_take => k_is)
    (case k__law_take => k_is)
    (case a__law_wide => k_is)
    (case l__law_wide => k_is)
    (case c__law_wide => k_is)
    (case k__law_wide => k_is)
    (case a__law_ends => k_is)
    (case l__law_ends => k_is)
    (case c__law_ends => k_is)
    (case k__law_ends => k_is)
    (case a_is_side => k_is)
    (case l_is_side => k_is)
    (case c_is_side => k_is)
    (case k_is_side => k_is)
    (case a_is_integer => k_is)
    (case l_is_integer => k_is)
    (case c_is_integer => k_is)
    (case k_is_integer => k_is)
    (case a_is_run => k_is)
    (case l_is_run => k_is)
    (case c_is_run => k_is)
    (case k_is_run => k_is)
    (case a_is_posts => k_is)
    (case l_is_posts => k_is)
    (case c_is_posts => k_is)
    (case k_is_posts => k_is)
    (case a_check_posts => k_is)
    (case l_check_posts => k_is)
    (case c_check_posts => k_is)
    (case k_check_posts => k_is)
    (case a_count_posts => k_is)
    (case l_count_posts => k_is)
    (case c_count_posts => k_is)
    (case k_count_posts => k_is)
    (case a_is_place => k_is)
    (case l_is_place => k_is)
    (case c_is_place => k_is)
    (case k_is_place => k_is)
    (case a_check_place => k_is)
    (case l_check_place => k_is)
    (case c_check_place => k_is)
    (case k_check_place => k_is)
    (case a_check_limit => k_is)
    (case l_check_limit => k_is)
    (case c_check_limit => k_is)
    (case k_check_limit => k_is)
    (case a_borders => k_is)
    (case l_borders => k_is)
    (case c_borders => k_is)
    (case k_borders => k_is)
    (case a_ways => k_is)
    (case l_ways => k_is)
    (case c_ways => k_is)
    (case k_ways => k_is)
    (case a_numbers_before => k_is)
    (case l_numbers_before => k_is)
    (case c_numbers_before => k_is)
    (case k_numbers_before => k_is)
    (case a_count_before => k_is)
    (case l_count_before => k_is)
    (case c_count_before => k_is)
    (case k_count_before => k_is)
    (case a_doubled => k_is)
    (case l_doubled => k_is)
    (case c_doubled => k_is)
    (case k_doubled => k_is)
    (case a_count_all_before => k_is)
    (case l_count_all_before => k_is)
    (case c_count_all_before => k_is)
    (case k_count_all_before => k_is)
    (case a_check_index => k_is)
    (case l_check_index => k_is)
    (case c_check_index => k_is)
    (case k_check_index => k_is)
    (case a_joined => k_is)
    (case l_joined => k_is)
    (case c_joined => k_is)
    (case k_joined => k_is)
    (case a_nth_sides => k_is)
    (case l_nth_sides => k_is)
    (case c_nth_sides => k_is)
    (case k_nth_sides => k_is)
    (case a_nth_before => k_is)
    (case l_nth_before => k_is)
    (case c_nth_before => k_is)
    (case k_nth_before => k_is)
    (case a__law_limit => k_is)
    (case l__law_limit => k_is)
    (case c__law_limit => k_is)
    (case k__law_limit => k_is)
    (case a__law_size => k_is)
    (case l__law_size => k_is)
    (case c__law_size => k_is)
    (case k__law_size => k_is)
    (case a__law_start => k_is)
    (case l__law_start => k_is)
    (case c__law_start => k_is)
    (case k__law_start => k_is)
    (case a__law_rights => k_is)
    (case l__law_rights => k_is)
    (case c__law_rights => k_is)
    (case k__law_rights => k_is)
    (case a__law_nth_left => k_is)
    (case l__law_nth_left => k_is)
    (case c__law_nth_left => k_is)
    (case k__law_nth_left => k_is)
    (case a__law_joined => k_is)
    (case l__law_joined => k_is)
    (case c__law_joined => k_is)
    (case k__law_joined => k_is)
    (case a__law_settled => k_is)
    (case l__law_settled => k_is)
    (case c__law_settled => k_is)
    (case k__law_settled => k_is)
    (case a__law_mirror => k_is)
    (case l__law_mirror => k_is)
    (case c__law_mirror => k_is)
    (case k__law_mirror => k_is)
    (case a__law_first => k_is)
    (case l__law_first => k_is)
    (case c__law_first => k_is)
    (case k__law_first => k_is)
    (case a__law_last => k_is)
    (case l__law_last => k_is)
    (case c__law_last => k_is)
    (case k__law_last => k_is)
    (case a__law_block => k_is)
    (case l__law_block => k_is)
    (case c__law_block => k_is)
    (case k__law_block => k_is)
    (case a_can_be_before => k_is)
    (case l_can_be_before => k_is)
    (case c_can_be_before => k_is)
    (case k_can_be_before => k_is)
    (case a__law_same => k_is)
    (case l__law_same => k_is)
    (case c__law_same => k_is)
    (case k__law_same => k_is)
    (case a_law => k_is)
    (case l_law => k_is)
    (case c_law => k_is)
    (case k_law => k_is)
    (case ea_TooLarge => k_is)
    (case ex_TooLarge => k_is)
    (case er_TooLarge => decide +kernel)
    (case es_TooLarge => k_is)
    (case ee_TooLarge => k_is)
    (case et_TooLarge => k_is)
    (case ek_TooLarge => k_is)
    (case en_TooLarge => k_is)
    (case ei_TooLarge => k_is)
    (case ej_TooLarge => k_is)
    (case el_TooLarge => k_is)
    (case ec_TooLarge => k_is)
    (case eq_TooLarge => k_is)
