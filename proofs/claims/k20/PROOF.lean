import PyProof.Rows.All
import Wide.All
import OpenK.AllK
import Wide.FinOn
import HandS.ForMost
import HandS.Wide
import HandS.Deep
import HandS.IsInst
import HandS.TupAny
import HandS.TupLe
import HandS.SortInts
import HandS.TupMul
import HandS.Style
import HandS.Conv
import PySem.Challenge.RW_boatsout_k20_fractions_in_least_form
set_option Elab.async false
set_option linter.all false
set_option maxRecDepth 100000
/-! VL1: values, how they lie in the heap, the state, judgements. -/
namespace VL
open PySem PySem.Spec PyProof.Rows L2

inductive Val where
  | non | bl (b : Bool) | int (i : Int) | str (x : Str) | tup (xs : List Val) | lst (xs : List Val) | dic (kvs : List (Val × Val))

abbrev ZS := Addr → Prop
abbrev DK := Key ⊕ List Key

def KT (K : PySem.W.Frag) (a : Addr) (ws : List V) : Prop :=
  ∃ (o : Obj) (its : Array Value) (n : Nat), K.lookup a = some o ∧ o.cls = .type "tuple" ∧ o.data = .seq its n ∧ its.size ≤ sizeLine ∧ Vals ws its.toList
def KL (K : PySem.W.Frag) (a : Addr) (ws : List V) : Prop :=
  ∃ (o : Obj) (its : Array Value) (n : Nat), K.lookup a = some o ∧ o.cls = .type "list" ∧ o.dict = none ∧ o.data = .seq its n ∧ its.size ≤ sizeLine ∧ Vals ws its.toList
def NT (K : PySem.W.Frag) (Z : ZS) (H : Hp) (a : Addr) (ws : List V) : Prop := (Z a ∧ H a = some (.tup ws) ∧ ws.length ≤ sizeLine) ∨ KT K a ws
def NL (K : PySem.W.Frag) (Z : ZS) (H : Hp) (a : Addr) (ws : List V) : Prop := (Z a ∧ Rd H a (.lst ws) ∧ ws.length ≤ sizeLine) ∨ KL K a ws
def LAt (H : Hp) (a : Addr) (ws : List V) : Prop := H a = some (.lst ws) ∧ ws.length ≤ sizeLine
def sOf : Val → Option Key
  | .int i => some (Sum.inl i)
  | .str x => some (Sum.inr x)
  | _ => none
def sOfs : List Val → Option (List Key)
  | [] => some []
  | x :: xs => (sOf x).bind fun k => (sOfs xs).map fun r => k :: r
def kOf : Val → Option DK
  | .int i => some (Sum.inl (Sum.inl i))
  | .str x => some (Sum.inl (Sum.inr x))
  | .tup xs => (sOfs xs).map Sum.inr
  | _ => none
def DicAt (H : Hp) (a : Addr) (ps : List (DK × V)) : Prop :=
  (∃ qs : List (Key × V), H a = some (.dK qs) ∧ ps = qs.map fun p => (Sum.inl p.1, p.2)) ∨ (∃ qs : List (List Key × V), H a = some (.dT qs) ∧ ps = qs.map fun p => (Sum.inr p.1, p.2))

mutual
def Rep (K : PySem.W.Frag) (Z : ZS) (H : Hp) : Val → V → Prop
  | .non, w => w = .non
  | .bl b, w => w = .bl b
  | .int i, w => w = .int i
  | .str x, w => w = .str x
  | .tup xs, w => ∃ a ws, w = .ref a ∧ NT K Z H a ws ∧ RepL K Z H xs ws
  | .lst xs, w => ∃ a ws, w = .ref a ∧ NL K Z H a ws ∧ RepL K Z H xs ws
  | .dic kvs, w => ∃ a ps, w = .ref a ∧ Z a ∧ DicAt H a ps ∧ RepD K Z H kvs ps
def RepL (K : PySem.W.Frag) (Z : ZS) (H : Hp) : List Val → List V → Prop
  | [], ws => ws = []
  | x :: xs, ws => ∃ w r, ws = w :: r ∧ Rep K Z H x w ∧ RepL K Z H xs r
def RepD (K : PySem.W.Frag) (Z : ZS) (H : Hp) : List (Val × Val) → List (DK × V) → Prop
  | [], ps => ps = []
  | (k, x) :: kvs, ps => ∃ dk w r, ps = (dk, w) :: r ∧ kOf k = some dk ∧ Rep K Z H x w ∧ RepD K Z H kvs r
end

/-- a container's content at an address that may change -/
def Top (K : PySem.W.Frag) (Z : ZS) (H : Hp) : Val → Addr → Prop
  | .lst xs, a => ∃ ws, LAt H a ws ∧ RepL K Z H xs ws
  | .dic kvs, a => ∃ ps, DicAt H a ps ∧ RepD K Z H kvs ps
  | _, _ => False

/-- what a step of the program may do to what is known: O may be changed by it -/
structure Stp (Z : ZS) (H : Hp) (O : ZS) (Z' : ZS) (H' : Hp) (O' : ZS) : Prop where
  keep : ∀ a o, H a = some o → ¬ O a → H' a = some o
  zm : ∀ a, Z a → Z' a
  zn : ∀ a, Z' a → Z a ∨ O a ∨ H a = none
  on : ∀ a, O' a → O a ∨ H a = none
  dom : ∀ a o, H a = some o → ∃ o', H' a = some o'

theorem Stp.refl (Z : ZS) (H : Hp) (O : ZS) : Stp Z H O Z H O := ⟨fun _ _ e _ => e, fun _ z => z, fun _ z => .inl z, fun _ z => .inl z, fun _ o e => ⟨o, e⟩⟩
theorem Stp.back {Z Z1 : ZS} {H H1 : Hp} {O O1 : ZS} (p : Stp Z H O Z1 H1 O1) {a : Addr} (e : H1 a = none) : H a = none := by
  cases h : H a with
  | none => rfl
  | some o => obtain ⟨o', q⟩ := p.dom a o h; rw [e] at q; cases q
theorem Stp.trans {Z Z1 Z2 : ZS} {H H1 H2 : Hp} {O O1 O2 : ZS} (p : Stp Z H O Z1 H1 O1) (q : Stp Z1 H1 O1 Z2 H2 O2) : Stp Z H O Z2 H2 O2 := by
  have fr : ∀ a, H1 a = none → O a ∨ H a = none := fun a e => .inr (p.back e)
  refine ⟨fun a o e n => q.keep a o (p.keep a o e n) fun h => ?_, fun a z => q.zm a (p.zm a z), fun a z => ?_, fun a z => ?_, fun a o e => let ⟨o', e'⟩ := p.dom a o e; q.dom a o' e'⟩
  · rcases p.on a h with h | h
    · exact n h
    · rw [e] at h; cases h
  · rcases q.zn a z with h | h | h
    · exact p.zn a h
    · rcases p.on a h with h | h
      · exact .inr (.inl h)
      · exact .inr (.inr h)
    · exact .inr (fr a h)
  · rcases q.on a z with h | h
    · exact p.on a h
    · exact fr a h
theorem Stp.sub {Z Z1 : ZS} {H H1 : Hp} {O O1 O2 : ZS} (p : Stp Z H O Z1 H1 O1) (h : ∀ a, O2 a → O1 a) : Stp Z H O Z1 H1 O2 := ⟨p.keep, p.zm, p.zn, fun a z => p.on a (h a z), p.dom⟩

section
variable {K : PySem.W.Frag} {Z Z' : ZS} {H H' : Hp}
theorem NT.st {a : Addr} {ws : List V} (z : ∀ a, Z a → Z' a) (k : ∀ a o, Z a → H a = some o → H' a = some o) (h : NT K Z H a ws) : NT K Z' H' a ws := by
  rcases h with ⟨h1, h2, h3⟩ | h
  · exact .inl ⟨z a h1, k a _ h1 h2, h3⟩
  · exact .inr h
theorem NL.st {a : Addr} {ws : List V} (z : ∀ a, Z a → Z' a) (k : ∀ a o, Z a → H a = some o → H' a = some o) (h : NL K Z H a ws) : NL K Z' H' a ws := by
  rcases h with ⟨h1, h2 | ⟨o, h2⟩, h3⟩ | h
  · exact .inl ⟨z a h1, .inl (k a _ h1 h2), h3⟩
  · exact .inl ⟨z a h1, .inr ⟨o, k a _ h1 h2⟩, h3⟩
  · exact .inr h
theorem NT.sz {a : Addr} {ws : List V} (n : NT K Z H a ws) : ws.length ≤ sizeLine := by
  rcases n with ⟨_, _, e⟩ | ⟨o, its, n, _, _, _, h, r⟩
  · exact e
  · rw [r.length, Array.length_toList]; exact h
theorem NL.sz {a : Addr} {ws : List V} (n : NL K Z H a ws) : ws.length ≤ sizeLine := by
  rcases n with ⟨_, _, e⟩ | ⟨o, its, n, _, _, _, _, h, r⟩
  · exact e
  · rw [r.length, Array.length_toList]; exact h
theorem DicAt.st {a : Addr} {ps : List (DK × V)} (k : ∀ o, H a = some o → H' a = some o) (h : DicAt H a ps) : DicAt H' a ps := by
  rcases h with ⟨qs, e, h⟩ | ⟨qs, e, h⟩
  · exact .inl ⟨qs, k _ e, h⟩
  · exact .inr ⟨qs, k _ e, h⟩
mutual
theorem Rep.st (z : ∀ a, Z a → Z' a) (k : ∀ a o, Z a → H a = some o → H' a = some o) : ∀ (v : Val) {w : V}, Rep K Z H v w → Rep K Z' H' v w
  | .non, _, h => by simpa only [Rep] using h
  | .bl _, _, h => by simpa only [Rep] using h
  | .int _, _, h => by simpa only [Rep] using h
  | .str _, _, h => by simpa only [Rep] using h
  | .tup xs, w, h => by
    simp only [Rep] at h ⊢
    obtain ⟨a, ws, e, n, r⟩ := h
    exact ⟨a, ws, e, n.st z k, RepL.st z k xs r⟩
  | .lst xs, w, h => by
    simp only [Rep] at h ⊢
    obtain ⟨a, ws, e, n, r⟩ := h
    exact ⟨a, ws, e, n.st z k, RepL.st z k xs r⟩
  | .dic kvs, w, h => by
    simp only [Rep] at h ⊢
    obtain ⟨a, ps, e, n, d, r⟩ := h
    exact ⟨a, ps, e, z a n, d.st fun o => k a o n, RepD.st z k kvs r⟩
theorem RepL.st (z : ∀ a, Z a → Z' a) (k : ∀ a o, Z a → H a = some o → H' a = some o) : ∀ (xs : List Val) {ws : List V}, RepL K Z H xs ws → RepL K Z' H' xs ws
  | [], _, h => by simpa only [RepL] using h
  | x :: xs, ws, h => by
    simp only [RepL] at h ⊢
    obtain ⟨w, r, e, h1, h2⟩ := h
    exact ⟨w, r, e, Rep.st z k x h1, RepL.st z k xs h2⟩
theorem RepD.st (z : ∀ a, Z a → Z' a) (k : ∀ a o, Z a → H a = some o → H' a = some o) : ∀ (xs : List (Val × Val)) {ws : List (DK × V)}, RepD K Z H xs ws → RepD K Z' H' xs ws
  | [], _, h => by simpa only [RepD] using h
  | (q, x) :: xs, ws, h => by
    simp only [RepD] at h ⊢
    obtain ⟨dk, w, r, e, hk, h1, h2⟩ := h
    exact ⟨dk, w, r, e, hk, Rep.st z k x h1, RepD.st z k xs h2⟩
end
theorem RepL.length : ∀ {xs : List Val} {ws : List V}, RepL K Z H xs ws → xs.length = ws.length
  | [], ws, h => by simp only [RepL] at h; subst h; rfl
  | x :: xs, ws, h => by
    simp only [RepL] at h
    obtain ⟨w, r, rfl, _, h2⟩ := h
    simp only [List.length_cons, RepL.length h2]
theorem RepL.get : ∀ {xs : List Val} {ws : List V} {i : Nat} {x : Val}, RepL K Z H xs ws → xs[i]? = some x → ∃ w, ws[i]? = some w ∧ Rep K Z H x w
  | [], _, _, _, _, e => by simp at e
  | y :: xs, ws, 0, x, h, e => by
    simp only [RepL] at h
    obtain ⟨w, r, rfl, h1, h2⟩ := h
    simp at e; subst e
    exact ⟨w, rfl, h1⟩
  | y :: xs, ws, i + 1, x, h, e => by
    simp only [RepL] at h
    obtain ⟨w, r, rfl, h1, h2⟩ := h
    obtain ⟨w', e1, e2⟩ := RepL.get (i := i) (x := x) h2 (by simpa using e)
    exact ⟨w', by simpa using e1, e2⟩
theorem RepL.get' : ∀ {xs : List Val} {ws : List V} {i : Nat} {w : V}, RepL K Z H xs ws → ws[i]? = some w → ∃ x, xs[i]? = some x ∧ Rep K Z H x w := by
  intro xs ws i w h e
  have hl := h.length
  have hi : i < xs.length := by rw [hl]; exact (List.getElem?_eq_some_iff.mp e).1
  obtain ⟨w', e1, e2⟩ := h.get (List.getElem?_eq_getElem hi)
  rw [e] at e1; cases e1
  exact ⟨_, List.getElem?_eq_getElem hi, e2⟩
theorem RepL.append : ∀ {xs ys : List Val} {ws us : List V}, RepL K Z H xs ws → RepL K Z H ys us → RepL K Z H (xs ++ ys) (ws ++ us)
  | [], ys, ws, us, h, h2 => by simp only [RepL] at h; subst h; exact h2
  | x :: xs, ys, ws, us, h, h2 => by
    simp only [RepL] at h
    obtain ⟨w, r, rfl, h1, h3⟩ := h
    show RepL K Z H (x :: (xs ++ ys)) (w :: (r ++ us))
    simp only [RepL]
    exact ⟨w, _, rfl, h1, RepL.append h3 h2⟩
theorem RepL.one {x : Val} {w : V} (h : Rep K Z H x w) : RepL K Z H [x] [w] := by simp only [RepL]; exact ⟨w, [], rfl, h, rfl⟩
theorem RepL.cons {x : Val} {w : V} {xs : List Val} {ws : List V} (h : Rep K Z H x w) (h2 : RepL K Z H xs ws) : RepL K Z H (x :: xs) (w :: ws) := by simp only [RepL]; exact ⟨w, ws, rfl, h, h2⟩
theorem RepL.nil : RepL K Z H [] [] := by simp only [RepL]
theorem RepL.take : ∀ {xs : List Val} {ws : List V} (n : Nat), RepL K Z H xs ws → RepL K Z H (xs.take n) (ws.take n)
  | [], ws, n, h => by simp only [RepL] at h; subst h; simp [RepL.nil]
  | x :: xs, ws, 0, h => by simp [RepL.nil]
  | x :: xs, ws, n + 1, h => by
    simp only [RepL] at h
    obtain ⟨w, r, rfl, h1, h2⟩ := h
    exact RepL.cons h1 (RepL.take n h2)
theorem RepL.drop : ∀ {xs : List Val} {ws : List V} (n : Nat), RepL K Z H xs ws → RepL K Z H (xs.drop n) (ws.drop n)
  | [], ws, n, h => by simp only [RepL] at h; subst h; simp [RepL.nil]
  | x :: xs, ws, 0, h => h
  | x :: xs, ws, n + 1, h => by
    simp only [RepL] at h
    obtain ⟨w, r, rfl, h1, h2⟩ := h
    exact RepL.drop n h2
theorem RepL.reverse : ∀ {xs : List Val} {ws : List V}, RepL K Z H xs ws → RepL K Z H xs.reverse ws.reverse
  | [], ws, h => by simp only [RepL] at h; subst h; exact RepL.nil
  | x :: xs, ws, h => by
    simp only [RepL] at h
    obtain ⟨w, r, rfl, h1, h2⟩ := h
    rw [List.reverse_cons, List.reverse_cons]
    exact RepL.append (RepL.reverse h2) (RepL.one h1)
theorem RepL.set {x : Val} {w : V} (hx : Rep K Z H x w) : ∀ {xs : List Val} {ws : List V} (n : Nat), RepL K Z H xs ws → RepL K Z H (xs.set n x) (ws.set n w)
  | [], ws, n, h => by simp only [RepL] at h; subst h; exact RepL.nil
  | y :: xs, ws, 0, h => by
    simp only [RepL] at h
    obtain ⟨w', r, rfl, h1, h2⟩ := h
    exact RepL.cons hx h2
  | y :: xs, ws, n + 1, h => by
    simp only [RepL] at h
    obtain ⟨w', r, rfl, h1, h2⟩ := h
    exact RepL.cons h1 (RepL.set hx n h2)
theorem RepL.eraseIdx : ∀ {xs : List Val} {ws : List V} (n : Nat), RepL K Z H xs ws → RepL K Z H (xs.eraseIdx n) (ws.eraseIdx n)
  | [], ws, n, h => by simp only [RepL] at h; subst h; exact RepL.nil
  | y :: xs, ws, 0, h => by
    simp only [RepL] at h
    obtain ⟨w', r, rfl, h1, h2⟩ := h
    exact h2
  | y :: xs, ws, n + 1, h => by
    simp only [RepL] at h
    obtain ⟨w', r, rfl, h1, h2⟩ := h
    exact RepL.cons h1 (RepL.eraseIdx n h2)
theorem RepL.flat {xs : List Val} {ws : List V} (h : RepL K Z H xs ws) : ∀ n, RepL K Z H (List.replicate n xs).flatten (List.replicate n ws).flatten
  | 0 => RepL.nil
  | n + 1 => by
    rw [List.replicate_succ, List.replicate_succ, List.flatten_cons, List.flatten_cons]
    exact RepL.append h (h.flat n)
theorem NT.sq {a : Addr} {ws : List V} (h : NT K Z H a ws) : SqT K H a ws := by
  rcases h with ⟨_, h, _⟩ | h
  · exact .inl (.inl h)
  · exact .inr h
theorem NL.sq {a : Addr} {ws : List V} (h : NL K Z H a ws) : SqL K H a ws := by
  rcases h with ⟨_, h, _⟩ | h
  · exact .inl h
  · exact .inr h
theorem Top.st {v : Val} {a : Addr} (z : ∀ a, Z a → Z' a) (k : ∀ a o, Z a → H a = some o → H' a = some o) (k2 : ∀ o, H a = some o → H' a = some o) (h : Top K Z H v a) : Top K Z' H' v a := by
  cases v with
  | lst xs =>
    obtain ⟨ws, e, r⟩ := (show ∃ ws, LAt H a ws ∧ RepL K Z H xs ws from h)
    exact (show ∃ ws, LAt H' a ws ∧ RepL K Z' H' xs ws from ⟨ws, ⟨k2 _ e.1, e.2⟩, RepL.st z k xs r⟩)
  | dic kvs =>
    obtain ⟨ps, e, r⟩ := (show ∃ ps, DicAt H a ps ∧ RepD K Z H kvs ps from h)
    exact (show ∃ ps, DicAt H' a ps ∧ RepD K Z' H' kvs ps from ⟨ps, e.st k2, RepD.st z k kvs r⟩)
  | _ => exact False.elim h
theorem Top.there {v : Val} {a : Addr} (h : Top K Z H v a) : ∃ o, H a = some o := by
  cases v with
  | lst xs => obtain ⟨ws, e, r⟩ := (show ∃ ws, LAt H a ws ∧ RepL K Z H xs ws from h); exact ⟨_, e.1⟩
  | dic kvs =>
    obtain ⟨ps, e, r⟩ := (show ∃ ps, DicAt H a ps ∧ RepD K Z H kvs ps from h)
    rcases e with ⟨qs, e, _⟩ | ⟨qs, e, _⟩ <;> exact ⟨_, e⟩
  | _ => exact False.elim h
/-- what was a container of one's own is let go: it is known from now on -/
theorem Top.frz {v : Val} {a : Addr} (za : Z a) (h : Top K Z H v a) : Rep K Z H v (.ref a) := by
  cases v with
  | lst xs =>
    obtain ⟨ws, e, r⟩ := (show ∃ ws, LAt H a ws ∧ RepL K Z H xs ws from h)
    simp only [Rep]
    exact ⟨a, ws, rfl, .inl ⟨za, .inl e.1, e.2⟩, r⟩
  | dic kvs =>
    obtain ⟨ps, e, r⟩ := (show ∃ ps, DicAt H a ps ∧ RepD K Z H kvs ps from h)
    simp only [Rep]
    exact ⟨a, ps, rfl, za, e, r⟩
  | _ => exact False.elim h
end

/-! ### the state by slots -/
inductive Sl where | no | im (v : Val) | ow (v : Val)
abbrev En := List Sl
abbrev Stt := L2.St
def SlOk (K : PySem.W.Frag) (Z : ZS) (H : Hp) (σ : Stt) (i : Nat) : Sl → Prop
  | .no => True
  | .im v => ∃ w, σ[i]? = some (some w) ∧ Rep K Z H v w
  | .ow v => ∃ a, σ[i]? = some (some (V.ref a)) ∧ Top K Z H v a ∧ ¬ Z a
def Own (env : En) (σ : Stt) : ZS := fun a => ∃ (i : Nat) (v : Val), env[i]? = some (Sl.ow v) ∧ σ[i]? = some (some (V.ref a))
structure Hld (K : PySem.W.Frag) (Z : ZS) (H : Hp) (σ : Stt) (env : En) : Prop where
  sl : ∀ (i : Nat) (s : Sl), env[i]? = some s → SlOk K Z H σ i s
  inj : ∀ (i j : Nat) (v u : Val) (a : Addr), env[i]? = some (Sl.ow v) → env[j]? = some (Sl.ow u) → σ[i]? = some (some (V.ref a)) → σ[j]? = some (some (V.ref a)) → i = j
  zd : ∀ a, Z a → ∃ o, H a = some o
  len : env.length = σ.length
section
variable {K : PySem.W.Frag} {Z Z' : ZS} {H H' : Hp} {σ : Stt} {env env' : En}
theorem Hld.imm (h : Hld K Z H σ env) {i : Nat} {v : Val} (e : env[i]? = some (Sl.im v)) : ∃ w, σ[i]? = some (some w) ∧ Rep K Z H v w := h.sl i _ e
theorem Hld.own (h : Hld K Z H σ env) {i : Nat} {v : Val} (e : env[i]? = some (Sl.ow v)) : ∃ a, σ[i]? = some (some (V.ref a)) ∧ Top K Z H v a ∧ ¬ Z a := h.sl i _ e
theorem Hld.oz (h : Hld K Z H σ env) {a : Addr} (o : Own env σ a) : ¬ Z a := by
  obtain ⟨i, v, e, s⟩ := o
  obtain ⟨b, s', _, n⟩ := h.own e
  rw [s] at s'; cases s'; exact n
theorem Hld.od (h : Hld K Z H σ env) {a : Addr} (o : Own env σ a) : ∃ u, H a = some u := by
  obtain ⟨i, v, e, s⟩ := o
  obtain ⟨b, s', t, n⟩ := h.own e
  rw [s] at s'; cases s'; exact t.there
theorem Hld.fz (h : Hld K Z H σ env) {p : Addr} (n : H p = none) : ¬ Z p := fun z => by obtain ⟨o, e⟩ := h.zd p z; rw [n] at e; cases e
theorem Hld.fo (h : Hld K Z H σ env) {p : Addr} (n : H p = none) : ¬ Own env σ p := fun z => by obtain ⟨o, e⟩ := h.od z; rw [n] at e; cases e
/-- the heap grows: nothing known is changed; Z may grow by what is not one's own -/
theorem Hld.grow (h : Hld K Z H σ env) (k : ∀ a o, H a = some o → H' a = some o) (zm : ∀ a, Z a → Z' a) (zn : ∀ a, Z' a → Z a ∨ H a = none) (zd : ∀ a, Z' a → ∃ o, H' a = some o) : Hld K Z' H' σ env := by
  refine ⟨fun i s e => ?_, h.inj, zd, h.len⟩
  have q := h.sl i s e
  cases s with
  | no => trivial
  | im v =>
    obtain ⟨w, s, r⟩ := (show ∃ w, σ[i]? = some (some w) ∧ Rep K Z H v w from q)
    exact ⟨w, s, Rep.st zm (fun a o _ => k a o) v r⟩
  | ow v =>
    obtain ⟨a, s, t, n⟩ := (show ∃ a, σ[i]? = some (some (V.ref a)) ∧ Top K Z H v a ∧ ¬ Z a from q)
    refine ⟨a, s, Top.st zm (fun a o _ => k a o) (k a) t, fun z => ?_⟩
    rcases zn a z with z | z
    · exact n z
    · obtain ⟨o, e⟩ := t.there; rw [z] at e; cases e
end

/-! ### judgements -/
section
variable (X : Cx)
def wpE (e : Expr) : TE := fun σ H Q => ∀ pins s, Inv X pins σ H s → wpAny (model X.prog X.w) X.A (eval e X.env) (EP X pins σ Q) X.xe s
def wpT (e : Expr) : TT := fun σ H Q => ∀ pins s, Inv X pins σ H s → wpAny (model X.prog X.w) X.A (isTrue e X.env (eval e X.env)) (TP X pins σ Q) X.xe s
def wpA (es : List Expr) : TA := fun σ H Q => ∀ pos pins s, Inv X pins σ H s → wpAny (model X.prog X.w) X.A (spliced (backTo pos (starEach es X.env))) (AP X pins σ Q) X.xe s
def wpS (st : Stmt) : TS := fun D σ H => ∀ pins s, Inv X pins σ H s → wpAny (model X.prog X.w) X.A (exec st X.env) (SP X pins D) X.xe s
def wpSs (st : List Stmt) : TS := fun D σ H => ∀ pins s, Inv X pins σ H s → wpAny (model X.prog X.w) X.A (execs st X.env) (SP X pins D) X.xe s
def wpG (tg : Expr) : TG := fun v σ H Q => ∀ pins s u, Inv X pins σ H s → RelV v u → wpAny (model X.prog X.w) X.A (assign tg X.env u) (fun _ s' => ∃ σ' H', Inv X pins σ' H' s' ∧ Q σ' H') X.xe s
end
section
variable {X : Cx}
theorem pe_wp (e : Expr) : PE X e (wpE X e) := ⟨fun pins s σ H Q I h => h pins s I⟩
theorem pt_wp (e : Expr) : PT X e (wpT X e) := ⟨fun pins s σ H Q I h => h pins s I⟩
theorem pa_wp (es : List Expr) : PA X es (wpA X es) := ⟨fun pos pins s σ H Q I h => h pos pins s I⟩
theorem ps_wp (st : Stmt) : PS X st (wpS X st) := ⟨fun pins s σ H D I h => h pins s I⟩
theorem pss_wp (st : List Stmt) : PSs X st (wpSs X st) := ⟨fun pins s σ H D I h => h pins s I⟩
theorem pg_wp (tg : Expr) : PG X tg (wpG X tg) := ⟨fun pins s σ H v u Q I r h => h pins s u I r⟩
theorem wp_pe {e : Expr} {t : TE} {σ : Stt} {H : Hp} {Q : VK} (p : PE X e t) (h : t σ H Q) : wpE X e σ H Q := fun pins s I => p.run pins s σ H Q I h
theorem wp_pt {e : Expr} {t : TT} {σ : Stt} {H : Hp} {Q : Bool → Hp → Prop} (p : PT X e t) (h : t σ H Q) : wpT X e σ H Q := fun pins s I => p.run pins s σ H Q I h
theorem wp_pa {es : List Expr} {t : TA} {σ : Stt} {H : Hp} {Q : List V → Hp → Prop} (p : PA X es t) (h : t σ H Q) : wpA X es σ H Q := fun pos pins s I => p.run pos pins s σ H Q I h
theorem wp_ps {st : Stmt} {t : TS} {σ : Stt} {H : Hp} {D : Ends} (p : PS X st t) (h : t D σ H) : wpS X st D σ H := fun pins s I => p.run pins s σ H D I h
theorem wp_pss {st : List Stmt} {t : TS} {σ : Stt} {H : Hp} {D : Ends} (p : PSs X st t) (h : t D σ H) : wpSs X st D σ H := fun pins s I => p.run pins s σ H D I h
theorem wp_pg {tg : Expr} {t : TG} {v : V} {σ : Stt} {H : Hp} {Q : Stt → Hp → Prop} (p : PG X tg t) (h : t v σ H Q) : wpG X tg v σ H Q := fun pins s u I r => p.run pins s σ H v u Q I r h
end

/-- an operand: a value, or a slot with a container of one's own -/
inductive Opd where | val (v : Val) | slot (i : Nat)
def RepO (K : PySem.W.Frag) (Z : ZS) (H : Hp) (σ : Stt) : Opd → V → Prop
  | .val v, w => Rep K Z H v w
  | .slot i, w => σ[i]? = some (some w)

def Ev (X : Cx) (e : Expr) (env : En) (o : Opd) (env' : En) : Prop := ∀ (Z : ZS) (H : Hp) (σ : Stt) (Q : VK), Hld X.K Z H σ env →
  (∀ Z' H' w, Stp Z H (Own env σ) Z' H' (Own env' σ) → Hld X.K Z' H' σ env' → RepO X.K Z' H' σ o w → Q w H') → wpE X e σ H Q
/-- a new container -/
def EvN (X : Cx) (e : Expr) (env : En) (v : Val) (env' : En) : Prop := ∀ (Z : ZS) (H : Hp) (σ : Stt) (Q : VK), Hld X.K Z H σ env →
  (∀ Z' H' a, Stp Z H (Own env σ) Z' H' (Own env' σ) → Hld X.K Z' H' σ env' → Top X.K Z' H' v a → ¬ Z' a → ¬ Own env' σ a → H a = none → Q (.ref a) H') → wpE X e σ H Q
def EvT (X : Cx) (e : Expr) (env : En) (b : Bool) (env' : En) : Prop := ∀ (Z : ZS) (H : Hp) (σ : Stt) (Q : Bool → Hp → Prop), Hld X.K Z H σ env →
  (∀ Z' H', Stp Z H (Own env σ) Z' H' (Own env' σ) → Hld X.K Z' H' σ env' → Q b H') → wpT X e σ H Q
def RepOs (K : PySem.W.Frag) (Z : ZS) (H : Hp) (σ : Stt) : List Opd → List V → Prop
  | [], ws => ws = []
  | o :: os, ws => ∃ w r, ws = w :: r ∧ RepO K Z H σ o w ∧ RepOs K Z H σ os r
def EvA (X : Cx) (es : List Expr) (env : En) (os : List Opd) (env' : En) : Prop := ∀ (Z : ZS) (H : Hp) (σ : Stt) (Q : List V → Hp → Prop), Hld X.K Z H σ env →
  (∀ Z' H' ws, Stp Z H (Own env σ) Z' H' (Own env' σ) → Hld X.K Z' H' σ env' → RepOs X.K Z' H' σ os ws → Q ws H') → wpA X es σ H Q

inductive Rt where | im (v : Val) | ow (v : Val)
inductive Out where | nx (env : En) | rt (r : Rt) (env : En) | bk (env : En) | ct (env : En)
/-- slots that stay -/
def Fix (M : List Nat) (σ σ' : Stt) : Prop := ∀ i ∈ M, σ'[i]? = σ[i]?
def RepR (K : PySem.W.Frag) (Z : ZS) (H H0 : Hp) (O : ZS) : Rt → V → Prop
  | .im v, w => Rep K Z H v w
  | .ow v, w => ∃ a, w = .ref a ∧ Top K Z H v a ∧ ¬ Z a ∧ ¬ O a
def Post (X : Cx) (M : List Nat) (Z : ZS) (H : Hp) (O : ZS) (σ : Stt) (D : Ends) : Out → Prop
  | .nx env' => ∀ Z' H' σ', Stp Z H O Z' H' (Own env' σ') → Hld X.K Z' H' σ' env' → Fix M σ σ' → D.nx σ' H'
  | .bk env' => ∀ Z' H' σ', Stp Z H O Z' H' (Own env' σ') → Hld X.K Z' H' σ' env' → Fix M σ σ' → D.bk σ' H'
  | .ct env' => ∀ Z' H' σ', Stp Z H O Z' H' (Own env' σ') → Hld X.K Z' H' σ' env' → Fix M σ σ' → D.ct σ' H'
  | .rt r env' => ∀ Z' H' σ' w, Stp Z H O Z' H' (fun a => Own env' σ' a ∨ (w = .ref a ∧ ∃ v, r = .ow v)) → Hld X.K Z' H' σ' env' → Fix M σ σ' → RepR X.K Z' H' H (Own env' σ') r w → D.rt w H'
def EvS (X : Cx) (M : List Nat) (st : Stmt) (env : En) (out : Out) : Prop := ∀ (Z : ZS) (H : Hp) (σ : Stt) (D : Ends), Hld X.K Z H σ env → Post X M Z H (Own env σ) σ D out → wpS X st D σ H
def EvSs (X : Cx) (M : List Nat) (st : List Stmt) (env : En) (out : Out) : Prop := ∀ (Z : ZS) (H : Hp) (σ : Stt) (D : Ends), Hld X.K Z H σ env → Post X M Z H (Own env σ) σ D out → wpSs X st D σ H
/-- a target takes a value -/
def EvG (X : Cx) (M : List Nat) (tg : Expr) (v : Val) (env env' : En) : Prop := ∀ (Z : ZS) (H : Hp) (σ : Stt) (Q : Stt → Hp → Prop) (w : V), Hld X.K Z H σ env → Rep X.K Z H v w →
  (∀ Z' H' σ', Stp Z H (Own env σ) Z' H' (Own env' σ') → Hld X.K Z' H' σ' env' → Fix M σ σ' → Q σ' H') → wpG X tg w σ H Q
end VL

/-! VL2: expressions. -/
namespace VL
open PySem PySem.Spec PyProof.Rows L2

section
variable {K : PySem.W.Frag} {Z Z' : ZS} {H H' : Hp} {σ : Stt} {env env' : En}
theorem rep_int (i : Int) : Rep K Z H (.int i) (.int i) := by simp only [Rep]
theorem rep_bl (i : Bool) : Rep K Z H (.bl i) (.bl i) := by simp only [Rep]
theorem rep_str (i : Str) : Rep K Z H (.str i) (.str i) := by simp only [Rep]
theorem rep_non : Rep K Z H .non .non := by simp only [Rep]
theorem rep_int' {i : Int} {w : V} (h : Rep K Z H (.int i) w) : w = .int i := by simpa only [Rep] using h
theorem rep_bl' {i : Bool} {w : V} (h : Rep K Z H (.bl i) w) : w = .bl i := by simpa only [Rep] using h
theorem rep_str' {i : Str} {w : V} (h : Rep K Z H (.str i) w) : w = .str i := by simpa only [Rep] using h
theorem rep_non' {w : V} (h : Rep K Z H .non w) : w = .non := by simpa only [Rep] using h
theorem Hld.zk (h : Hld K Z H σ env) {Z' H' O'} (s : Stp Z H (Own env σ) Z' H' O') : ∀ a o, Z a → H a = some o → H' a = some o := fun a o z e => s.keep a o e fun x => h.oz x z
theorem RepO.st {o : Opd} {w : V} {Z' H' O'} (h : Hld K Z H σ env) (s : Stp Z H (Own env σ) Z' H' O') (r : RepO K Z H σ o w) : RepO K Z' H' σ o w := by
  cases o with
  | val v => exact Rep.st s.zm (h.zk s) v r
  | slot i => exact r
theorem RepOs.st {Z' H' O'} (h : Hld K Z H σ env) (s : Stp Z H (Own env σ) Z' H' O') : ∀ {os : List Opd} {ws : List V}, RepOs K Z H σ os ws → RepOs K Z' H' σ os ws
  | [], _, r => r
  | o :: os, ws, ⟨w, q, e, h1, h2⟩ => ⟨w, q, e, h1.st h s, RepOs.st h s h2⟩
/-- a new object that is let go at once -/
theorem Hld.newZ (h : Hld K Z H σ env) {p : Addr} {o : HO} (n : H p = none) : Hld K (fun a => Z a ∨ a = p) (upd H p o) σ env ∧ Stp Z H (Own env σ) (fun a => Z a ∨ a = p) (upd H p o) (Own env σ) := by
  have k : ∀ a o', H a = some o' → upd H p o a = some o' := fun a o' e => by rw [upd_ne (ne_of_none e n)]; exact e
  refine ⟨h.grow k (fun a z => .inl z) (fun a z => ?_) (fun a z => ?_), ⟨fun a o' e _ => k a o' e, fun a z => .inl z, fun a z => ?_, fun a z => .inl z, fun a o' e => ⟨o', k a o' e⟩⟩⟩
  · rcases z with z | rfl
    · exact .inl z
    · exact .inr n
  · rcases z with z | rfl
    · obtain ⟨u, e⟩ := h.zd a z; exact ⟨u, k a u e⟩
    · exact ⟨o, upd_same⟩
  · rcases z with z | rfl
    · exact .inl z
    · exact .inr (.inr n)
/-- a new object of one's own -/
theorem Hld.newO (h : Hld K Z H σ env) {p : Addr} {o : HO} (n : H p = none) : Hld K Z (upd H p o) σ env ∧ Stp Z H (Own env σ) Z (upd H p o) (Own env σ) ∧ ¬ Z p ∧ ¬ Own env σ p := by
  have k : ∀ a o', H a = some o' → upd H p o a = some o' := fun a o' e => by rw [upd_ne (ne_of_none e n)]; exact e
  refine ⟨h.grow k (fun a z => z) (fun a z => .inl z) (fun a z => ?_), ⟨fun a o' e _ => k a o' e, fun a z => z, fun a z => .inl z, fun a z => .inl z, fun a o' e => ⟨o', k a o' e⟩⟩, h.fz n, h.fo n⟩
  obtain ⟨u, e⟩ := h.zd a z; exact ⟨u, k a u e⟩
/-- a container of one's own outside the slots is let go -/
theorem Hld.free (h : Hld K Z H σ env) {p : Addr} {o : HO} (e : H p = some o) (n : ¬ Own env σ p) : Hld K (fun a => Z a ∨ a = p) H σ env := by
  refine ⟨fun i s q => ?_, h.inj, fun a z => ?_, h.len⟩
  · have r := h.sl i s q
    cases s with
    | no => trivial
    | im v =>
      obtain ⟨w, s, r⟩ := (show ∃ w, σ[i]? = some (some w) ∧ Rep K Z H v w from r)
      exact ⟨w, s, Rep.st (fun a z => .inl z) (fun _ _ _ e => e) v r⟩
    | ow v =>
      obtain ⟨a, s, t, nz⟩ := (show ∃ a, σ[i]? = some (some (V.ref a)) ∧ Top K Z H v a ∧ ¬ Z a from r)
      refine ⟨a, s, Top.st (fun a z => .inl z) (fun _ _ _ e => e) (fun _ e => e) t, fun z => ?_⟩
      rcases z with z | rfl
      · exact nz z
      · exact n ⟨i, v, q, s⟩
  · rcases z with z | rfl
    · exact h.zd a z
    · exact ⟨o, e⟩
end

section
variable {X : Cx} {a b c e : Expr} {env env1 env2 env3 : En} {oa ob oc : Opd} {v va vb : Val} {pos pos' : Pos}

/-! ### names, constants -/
theorem ev_c {w : V} (p : PE X e (tC w)) (h : ∀ Z H, Rep X.K Z H v w) : Ev X e env (.val v) env := fun Z H σ Q hH k =>
  wp_pe p (k Z H w (Stp.refl ..) hH (h Z H))
theorem ev_int {i : Int} {j : Nat} : Ev X (.Constant (.int i) j pos) env (.val (.int i)) env := ev_c pe_int fun _ _ => rep_int i
theorem ev_bl {i : Bool} {j : Nat} : Ev X (.Constant (.bool i) j pos) env (.val (.bl i)) env := ev_c pe_bl fun _ _ => rep_bl i
theorem ev_non {j : Nat} : Ev X (.Constant .none j pos) env (.val .non) env := ev_c pe_non fun _ _ => rep_non
theorem ev_str {x : Str} {j : Nat} : Ev X (.Constant (.str x) j pos) env (.val (.str x)) env := ev_c pe_str fun _ _ => rep_str x
/-- a slot read -/
theorem ev_v (i : Nat) {x : Str} (h : env[i]? = some (Sl.im v) := by rfl) (p : PE X (.Name x pos) (tVar i) := by exact pv _) : Ev X (.Name x pos) env (.val v) env := fun Z H σ Q hH k => by
  refine wp_pe p ?_
  obtain ⟨w, s, r⟩ := hH.imm h
  exact ⟨w, s, k Z H w (Stp.refl ..) hH r⟩
/-- a slot with a container of one's own -/
theorem ev_o (i : Nat) {x : Str} (h : env[i]? = some (Sl.ow v) := by rfl) (p : PE X (.Name x pos) (tVar i) := by exact pv _) : Ev X (.Name x pos) env (.slot i) env := fun Z H σ Q hH k => by
  refine wp_pe p ?_
  obtain ⟨a, s, r⟩ := hH.own h
  exact ⟨_, s, k Z H _ (Stp.refl ..) hH s⟩
/-- a constant of the module -/
theorem ev_g {x : Str} {u : Value} {w : V} (hg : Gl X x) (hm : X.mg x = some u) (r : RelV w u) (h : ∀ Z H, Rep X.K Z H v w) (hd : (x == ("__debug__" : Str)) = false := by decide) : Ev X (.Name x pos) env (.val v) env :=
  ev_c (pe_glob hg hm r hd) h
/-- a new container let go at once -/
theorem EvN.frz (h : EvN X e env v env1) : Ev X e env (.val v) env1 := fun Z H σ Q hH k => by
  refine h Z H σ Q hH fun Z1 H1 p s h1 t nz no fr => ?_
  obtain ⟨o, e⟩ := t.there
  refine k (fun a => Z1 a ∨ a = p) H1 _ ⟨s.keep, fun a z => .inl (s.zm a z), fun a z => ?_, s.on, s.dom⟩ (h1.free e no) ?_
  · rcases z with z | rfl
    · exact s.zn a z
    · exact .inr (.inr fr)
  · exact Top.frz (.inr rfl) (Top.st (fun a z => .inl z) (fun _ _ _ e => e) (fun _ e => e) t)

/-! ### two operands, one operand -/
def Bin (K : PySem.W.Frag) (r : R2) (env : En) (oa ob : Opd) (v : Val) : Prop := ∀ (Z : ZS) (H : Hp) (σ : Stt) (Q : VK) (x y : V), Hld K Z H σ env → RepO K Z H σ oa x → RepO K Z H σ ob y →
  (∀ Z' H' w, Stp Z H (Own env σ) Z' H' (Own env σ) → Hld K Z' H' σ env → Rep K Z' H' v w → Q w H') → r x y H Q
def BinN (K : PySem.W.Frag) (r : R2) (env : En) (oa ob : Opd) (v : Val) : Prop := ∀ (Z : ZS) (H : Hp) (σ : Stt) (Q : VK) (x y : V), Hld K Z H σ env → RepO K Z H σ oa x → RepO K Z H σ ob y →
  (∀ Z' H' p, Stp Z H (Own env σ) Z' H' (Own env σ) → Hld K Z' H' σ env → Top K Z' H' v p → ¬ Z' p → ¬ Own env σ p → H p = none → Q (.ref p) H') → r x y H Q
theorem ev_op2 {r : R2} (p : PE X e (tOp r (wpE X a) (wpE X b))) (ha : Ev X a env oa env1) (hb : Ev X b env1 ob env2) (hr : Bin X.K r env2 oa ob v) : Ev X e env (.val v) env2 := fun Z H σ Q hH k => by
  refine wp_pe p ?_
  refine ha Z H σ _ hH fun Z1 H1 w1 s1 h1 r1 => ?_
  refine hb Z1 H1 σ _ h1 fun Z2 H2 w2 s2 h2 r2 => ?_
  exact hr Z2 H2 σ Q w1 w2 h2 (r1.st h1 s2) r2 fun Z3 H3 w3 s3 h3 r3 => k Z3 H3 w3 ((s1.trans s2).trans s3) h3 r3
theorem ev_op2N {r : R2} (p : PE X e (tOp r (wpE X a) (wpE X b))) (ha : Ev X a env oa env1) (hb : Ev X b env1 ob env2) (hr : BinN X.K r env2 oa ob v) : EvN X e env v env2 := fun Z H σ Q hH k => by
  refine wp_pe p ?_
  refine ha Z H σ _ hH fun Z1 H1 w1 s1 h1 r1 => ?_
  refine hb Z1 H1 σ _ h1 fun Z2 H2 w2 s2 h2 r2 => ?_
  exact hr Z2 H2 σ Q w1 w2 h2 (r1.st h1 s2) r2 fun Z3 H3 p s3 h3 t nz no fr => k Z3 H3 p ((s1.trans s2).trans s3) h3 t nz no ((s1.trans s2).back fr)
theorem ev_bin {op : Operator} {r : R2} (ho : OpR X (binaryOp op) r) (ha : Ev X a env oa env1) (hb : Ev X b env1 ob env2) (hr : Bin X.K r env2 oa ob v) : Ev X (.BinOp a op b pos) env (.val v) env2 :=
  ev_op2 (pe_op ho (pe_wp a) (pe_wp b)) ha hb hr
theorem ev_binN {op : Operator} {r : R2} (ho : OpR X (binaryOp op) r) (ha : Ev X a env oa env1) (hb : Ev X b env1 ob env2) (hr : BinN X.K r env2 oa ob v) : EvN X (.BinOp a op b pos) env v env2 :=
  ev_op2N (pe_op ho (pe_wp a) (pe_wp b)) ha hb hr
theorem ev_cmp {op : CmpOp} {r : R2} (ho : OpR X (compareOp op) r) (hm : behindInMarks op b = false) (ha : Ev X a env oa env1) (hb : Ev X b env1 ob env2) (hr : Bin X.K r env2 oa ob v) : Ev X (.Compare a [op] [b] pos) env (.val v) env2 :=
  ev_op2 (pe_cmpR ho (pe_wp a) (pe_wp b) hm) ha hb hr
theorem et_cmp {op : CmpOp} {r : R2} {k : Bool} (ho : OpR X (compareOp op) r) (hm : behindInMarks op b = false) (ha : Ev X a env oa env1) (hb : Ev X b env1 ob env2) (hr : Bin X.K r env2 oa ob (.bl k)) : EvT X (.Compare a [op] [b] pos) env k env2 := fun Z H σ Q hH q => by
  refine wp_pt (pt_cmpR ho (pe_wp a) (pe_wp b) hm) ?_
  refine ha Z H σ _ hH fun Z1 H1 w1 s1 h1 r1 => ?_
  refine hb Z1 H1 σ _ h1 fun Z2 H2 w2 s2 h2 r2 => ?_
  refine hr Z2 H2 σ _ w1 w2 h2 (r1.st h1 s2) r2 fun Z3 H3 w3 s3 h3 r3 => ?_
  exact ⟨k, rep_bl' r3, q Z3 H3 ((s1.trans s2).trans s3) h3⟩
theorem bin_I0 {K : PySem.W.Frag} {g : Int → Int → V} {i j : Int} (hv : ∀ Z H, Rep K Z H v (g i j)) : Bin K (rI0 g) env (.val (.int i)) (.val (.int j)) v := fun Z H σ Q x y hH rx ry k =>
  ⟨i, j, rep_int' (K := K) (Z := Z) (H := H) rx, rep_int' (K := K) (Z := Z) (H := H) ry, k Z H _ (Stp.refl ..) hH (hv Z H)⟩
theorem bin_I {K : PySem.W.Frag} {C : Int → Int → Prop} {g : Int → Int → V} {i j : Int} (hc : C i j) (hv : ∀ Z H, Rep K Z H v (g i j)) : Bin K (rI C g) env (.val (.int i)) (.val (.int j)) v := fun Z H σ Q x y hH rx ry k =>
  ⟨i, j, rep_int' (K := K) (Z := Z) (H := H) rx, rep_int' (K := K) (Z := Z) (H := H) ry, hc, k Z H _ (Stp.refl ..) hH (hv Z H)⟩
variable {i j : Int}
theorem ev_add (ha : Ev X a env (.val (.int i)) env1) (hb : Ev X b env1 (.val (.int j)) env2) : Ev X (.BinOp a .Add b pos) env (.val (.int (i + j))) env2 := ev_bin op_add ha hb (bin_I0 fun _ _ => rep_int _)
theorem ev_sub (ha : Ev X a env (.val (.int i)) env1) (hb : Ev X b env1 (.val (.int j)) env2) : Ev X (.BinOp a .Sub b pos) env (.val (.int (i - j))) env2 := ev_bin op_sub ha hb (bin_I0 fun _ _ => rep_int _)
/-- what a product of two ints asks -/
def MulOk (i j : Int) : Prop := CMul i j ∨ CMulW i j
theorem MulOk.ok (h : MulOk i j) : IntMulOk i j := h.elim (·.ok) (·.ok)
theorem op_mulA : OpR X (binaryOp .Mult) (rI MulOk fun i j => .int (i * j)) := opI fun _ _ _ _ _ _ _ hc q => mul_int q hc.ok
theorem ev_mul (h : MulOk i j) (ha : Ev X a env (.val (.int i)) env1) (hb : Ev X b env1 (.val (.int j)) env2) : Ev X (.BinOp a .Mult b pos) env (.val (.int (i * j))) env2 := ev_bin op_mulA ha hb (bin_I h fun _ _ => rep_int _)
/-- what a quotient asks -/
def DivOk (j : Int) : Prop := 0 < j ∧ j.natAbs.log2 < 9000
theorem op_fdivA : OpR X (binaryOp .FloorDiv) (rI (fun _ j => DivOk j) fun i j => .int (i / j)) := opI fun i j _ _ _ _ _ hc q => by
  have h1 : (0 : Int) < j := hc.1
  exact floordiv_int (by omega) (by rw [Int.fdiv_eq_ediv_of_nonneg i (by omega)]; exact q) (.inl (PyProof.noPylong_of_log2 hc.2))
theorem ev_div (h : DivOk j) (ha : Ev X a env (.val (.int i)) env1) (hb : Ev X b env1 (.val (.int j)) env2) : Ev X (.BinOp a .FloorDiv b pos) env (.val (.int (i / j))) env2 := ev_bin op_fdivA ha hb (bin_I h fun _ _ => rep_int _)
theorem ev_mod (h : 0 < j) (ha : Ev X a env (.val (.int i)) env1) (hb : Ev X b env1 (.val (.int j)) env2) : Ev X (.BinOp a .Mod b pos) env (.val (.int (i % j))) env2 := ev_bin op_mod ha hb (bin_I h fun _ _ => rep_int _)
/-- .. by any divisor but 0 -/
def FDivOk (j : Int) : Prop := j ≠ 0 ∧ j.natAbs.log2 < 9000
theorem op_fdivF : OpR X (binaryOp .FloorDiv) (rI (fun _ j => FDivOk j) fun i j => .int (i.fdiv j)) := opI fun i j _ _ _ _ _ hc q => floordiv_int hc.1 q (.inl (PyProof.noPylong_of_log2 hc.2))
theorem ev_fdiv (h : FDivOk j) (ha : Ev X a env (.val (.int i)) env1) (hb : Ev X b env1 (.val (.int j)) env2) : Ev X (.BinOp a .FloorDiv b pos) env (.val (.int (i.fdiv j))) env2 := ev_bin op_fdivF ha hb (bin_I h fun _ _ => rep_int _)
theorem ev_pow {k : Nat} (h : i.natAbs < 2 ^ 64 ∧ k ≤ 1000000) (ha : Ev X a env (.val (.int i)) env1) (hb : Ev X b env1 (.val (.int k)) env2) : Ev X (.BinOp a .Pow b pos) env (.val (.int (i ^ k))) env2 :=
  ev_bin op_pow ha hb (bin_I (C := CPow) ⟨Int.natCast_nonneg _, by omega, h.1⟩ fun _ _ => by rw [Int.toNat_natCast]; exact rep_int _)
theorem ev_lt (ha : Ev X a env (.val (.int i)) env1) (hb : Ev X b env1 (.val (.int j)) env2) : Ev X (.Compare a [.Lt] [b] pos) env (.val (.bl (decide (i < j)))) env2 := ev_cmp op_lt (nomark _) ha hb (bin_I0 fun _ _ => rep_bl _)
theorem ev_le (ha : Ev X a env (.val (.int i)) env1) (hb : Ev X b env1 (.val (.int j)) env2) : Ev X (.Compare a [.LtE] [b] pos) env (.val (.bl (decide (i ≤ j)))) env2 := ev_cmp op_le (nomark _) ha hb (bin_I0 fun _ _ => rep_bl _)
theorem ev_gt (ha : Ev X a env (.val (.int i)) env1) (hb : Ev X b env1 (.val (.int j)) env2) : Ev X (.Compare a [.Gt] [b] pos) env (.val (.bl (decide (j < i)))) env2 := ev_cmp op_gt (nomark _) ha hb (bin_I0 fun _ _ => rep_bl _)
theorem ev_ge (ha : Ev X a env (.val (.int i)) env1) (hb : Ev X b env1 (.val (.int j)) env2) : Ev X (.Compare a [.GtE] [b] pos) env (.val (.bl (decide (j ≤ i)))) env2 := ev_cmp op_ge (nomark _) ha hb (bin_I0 fun _ _ => rep_bl _)
theorem et_lt (ha : Ev X a env (.val (.int i)) env1) (hb : Ev X b env1 (.val (.int j)) env2) : EvT X (.Compare a [.Lt] [b] pos) env (decide (i < j)) env2 := et_cmp op_lt (nomark _) ha hb (bin_I0 fun _ _ => rep_bl _)
theorem et_le (ha : Ev X a env (.val (.int i)) env1) (hb : Ev X b env1 (.val (.int j)) env2) : EvT X (.Compare a [.LtE] [b] pos) env (decide (i ≤ j)) env2 := et_cmp op_le (nomark _) ha hb (bin_I0 fun _ _ => rep_bl _)
theorem et_gt (ha : Ev X a env (.val (.int i)) env1) (hb : Ev X b env1 (.val (.int j)) env2) : EvT X (.Compare a [.Gt] [b] pos) env (decide (j < i)) env2 := et_cmp op_gt (nomark _) ha hb (bin_I0 fun _ _ => rep_bl _)
theorem et_ge (ha : Ev X a env (.val (.int i)) env1) (hb : Ev X b env1 (.val (.int j)) env2) : EvT X (.Compare a [.GtE] [b] pos) env (decide (j ≤ i)) env2 := et_cmp op_ge (nomark _) ha hb (bin_I0 fun _ _ => rep_bl _)
theorem ev_un {op : UnaryOp} {r : V → Hp → VK → Prop} (ho : UnR X (unaryOp op) r) (ha : Ev X a env oa env1) (hr : ∀ Z H σ Q x, Hld X.K Z H σ env1 → RepO X.K Z H σ oa x → (∀ w, Rep X.K Z H v w → Q w H) → r x H Q) : Ev X (.UnaryOp op a pos) env (.val v) env1 := fun Z H σ Q hH k => by
  refine wp_pe (pe_un ho (pe_wp a)) ?_
  refine ha Z H σ _ hH fun Z1 H1 w1 s1 h1 r1 => ?_
  exact hr Z1 H1 σ Q w1 h1 r1 fun w r => k Z1 H1 w s1 h1 r
theorem ev_neg (ha : Ev X a env (.val (.int i)) env1) : Ev X (.UnaryOp .USub a pos) env (.val (.int (-i))) env1 := ev_un un_neg ha fun Z H σ Q x _ r k => ⟨i, rep_int' (K := X.K) (Z := Z) (H := H) r, k _ (rep_int _)⟩
end
end VL

/-! VL3: containers, comparisons, tests, built-ins. -/
namespace VL
open PySem PySem.Spec PyProof.Rows L2

/-! ### what an operand holds -/
inductive Cont (env : En) : Opd → Val → Prop
  | val (v : Val) : Cont env (.val v) v
  | own {i : Nat} {v : Val} (h : env[i]? = some (Sl.ow v)) : Cont env (.slot i) v
def RepT (K : PySem.W.Frag) (Z : ZS) (H : Hp) (v : Val) (w : V) : Prop := Rep K Z H v w ∨ ∃ a, w = .ref a ∧ Top K Z H v a
section
variable {K : PySem.W.Frag} {Z Z' : ZS} {H H' : Hp} {σ : Stt} {env env' : En} {o : Opd} {v : Val} {w : V}
theorem Cont.rep (c : Cont env o v) (h : Hld K Z H σ env) (r : RepO K Z H σ o w) : RepT K Z H v w := by
  cases c with
  | val v => exact .inl r
  | own q =>
    obtain ⟨a, s, t, _⟩ := h.own q
    have r' : σ[_]? = some (some w) := r
    rw [s] at r'; cases r'
    exact .inr ⟨a, rfl, t⟩
inductive SeqV : Val → List Val → Prop
  | tup (xs : List Val) : SeqV (.tup xs) xs
  | lst (xs : List Val) : SeqV (.lst xs) xs
theorem RepT.lst {xs : List Val} (r : RepT K Z H (.lst xs) w) : ∃ a ws, w = .ref a ∧ SqL K H a ws ∧ RepL K Z H xs ws := by
  rcases r with r | ⟨a, e, ws, e2, r⟩
  · simp only [Rep] at r
    obtain ⟨a, ws, e, n, r⟩ := r
    exact ⟨a, ws, e, n.sq, r⟩
  · exact ⟨a, ws, e, .inl (.inl e2.1), r⟩
theorem RepT.tup {xs : List Val} (r : RepT K Z H (.tup xs) w) : ∃ a ws, w = .ref a ∧ SqT K H a ws ∧ RepL K Z H xs ws := by
  rcases r with r | ⟨a, e, r⟩
  · simp only [Rep] at r
    obtain ⟨a, ws, e, n, r⟩ := r
    exact ⟨a, ws, e, n.sq, r⟩
  · exact False.elim r
theorem RepT.szL {xs : List Val} (r : RepT K Z H (.lst xs) w) : xs.length ≤ sizeLine := by
  rcases r with r | ⟨a, e, ws, e2, r⟩
  · simp only [Rep] at r
    obtain ⟨a, ws, e, n, r⟩ := r
    rw [r.length]; exact n.sz
  · rw [r.length]; exact e2.2
theorem RepT.szT {xs : List Val} (r : RepT K Z H (.tup xs) w) : xs.length ≤ sizeLine := by
  rcases r with r | ⟨a, e, r⟩
  · simp only [Rep] at r
    obtain ⟨a, ws, e, n, r⟩ := r
    rw [r.length]; exact n.sz
  · exact False.elim r
theorem RepT.szS {xs : List Val} (q : SeqV v xs) (r : RepT K Z H v w) : xs.length ≤ sizeLine := by
  cases q with
  | tup xs => exact r.szT
  | lst xs => exact r.szL
theorem RepT.seq {xs : List Val} (q : SeqV v xs) (r : RepT K Z H v w) : ∃ a ws, w = .ref a ∧ (SqL K H a ws ∨ SqT K H a ws) ∧ RepL K Z H xs ws := by
  cases q with
  | tup xs => obtain ⟨a, ws, e, n, r⟩ := r.tup; exact ⟨a, ws, e, .inr n, r⟩
  | lst xs => obtain ⟨a, ws, e, n, r⟩ := r.lst; exact ⟨a, ws, e, .inl n, r⟩
end

/-! ### data -/
mutual
def dat : Val → PyData
  | .non => .none
  | .bl b => .bool b
  | .int i => .int i
  | .str x => .str x
  | .tup xs => .tuple (datL xs)
  | .lst xs => .list (datL xs)
  | .dic _ => .none
def datL : List Val → List PyData
  | [] => []
  | x :: xs => dat x :: datL xs
end
theorem datL_map : ∀ xs : List Val, datL xs = xs.map dat
  | [] => rfl
  | x :: xs => by simp only [datL, List.map_cons, datL_map xs]
mutual
def pl : Val → Bool
  | .tup xs => plL xs
  | .lst xs => plL xs
  | .dic _ => false
  | .non => true
  | .bl _ => true
  | .int _ => true
  | .str _ => true
def plL : List Val → Bool
  | [] => true
  | x :: xs => pl x && plL xs
end
section
variable {K : PySem.W.Frag} {Z Z' : ZS} {H H' : Hp}
mutual
theorem Rep.dp : ∀ (v : Val) {w : V}, pl v = true → Rep K Z H v w → Dp K H w (dat v)
  | .non, w, _, r => by simp only [Rep] at r; subst r; simp only [dat]; exact .non
  | .bl b, w, _, r => by simp only [Rep] at r; subst r; simp only [dat]; exact .bl b
  | .int i, w, _, r => by simp only [Rep] at r; subst r; simp only [dat]; exact .int i
  | .str x, w, _, r => by simp only [Rep] at r; subst r; simp only [dat]; exact .str x
  | .tup xs, w, h, r => by
    simp only [Rep] at r
    obtain ⟨a, ws, rfl, n, r⟩ := r
    simp only [dat]
    exact .tup n.sq (RepL.dp xs (by simpa only [pl] using h) r)
  | .lst xs, w, h, r => by
    simp only [Rep] at r
    obtain ⟨a, ws, rfl, n, r⟩ := r
    simp only [dat]
    exact .lst n.sq (RepL.dp xs (by simpa only [pl] using h) r)
  | .dic _, _, h, _ => by simp [pl] at h
theorem RepL.dp : ∀ (xs : List Val) {ws : List V}, plL xs = true → RepL K Z H xs ws → DpAll K H ws (datL xs)
  | [], ws, _, r => by simp only [RepL] at r; subst r; simp only [datL]; exact .nil
  | x :: xs, ws, h, r => by
    simp only [RepL] at r
    obtain ⟨w, q, rfl, r1, r2⟩ := r
    simp only [plL, Bool.and_eq_true] at h
    simp only [datL]
    exact .cons (Rep.dp x h.1 r1) (RepL.dp xs h.2 r2)
end
theorem RepT.dp {v : Val} {w : V} (h : pl v = true) (r : RepT K Z H v w) : Dp K H w (dat v) := by
  rcases r with r | ⟨a, rfl, t⟩
  · exact r.dp v h
  · cases v with
    | lst xs =>
      obtain ⟨ws, e, r⟩ := (show ∃ ws, LAt H a ws ∧ RepL K Z H xs ws from t)
      simp only [dat]
      exact .lst (.inl (.inl e.1)) (RepL.dp xs (by simpa only [pl] using h) r)
    | dic _ => simp [pl] at h
    | _ => exact False.elim t
end
/-- a value that == reads: no dict within, its texts and depth as they are wanted -/
def Good (v : Val) : Prop := pl v = true ∧ SeqAt.shaped (dat v) = true
def veq (v u : Val) : Bool := PyData.eqv (dat v) (dat u)

section
variable {X : Cx} {a b c e : Expr} {es rest : List Expr} {env env1 env2 env3 : En} {oa ob oc : Opd} {v va vb vc : Val} {pos pos' : Pos} {xs ys : List Val} {i j : Int} {p q r : Bool}

/-! ### argument lists, displays -/
theorem ea_nil : EvA X [] env [] env := fun Z H σ Q hH k => wp_pa pa_nil (k Z H [] (Stp.refl ..) hH rfl)
theorem ea_cons {os : List Opd} (ha : Ev X e env oa env1) (hr : EvA X es env1 os env2) (hs : starEach (e :: es) X.env = (false, eval e X.env) :: starEach es X.env := by rfl) : EvA X (e :: es) env (oa :: os) env2 := fun Z H σ Q hH k => by
  refine wp_pa (pa_cons (pe_wp e) (pa_wp es) hs) ?_
  refine ha Z H σ _ hH fun Z1 H1 w1 s1 h1 r1 => ?_
  exact hr Z1 H1 σ _ h1 fun Z2 H2 ws s2 h2 r2 => k Z2 H2 (w1 :: ws) (s1.trans s2) h2 ⟨w1, ws, rfl, r1.st h1 s2, r2⟩
theorem repOs_vals {K : PySem.W.Frag} {Z : ZS} {H : Hp} {σ : Stt} : ∀ {xs : List Val} {ws : List V}, RepOs K Z H σ (xs.map Opd.val) ws → RepL K Z H xs ws
  | [], ws, h => by have h' : ws = [] := h; subst h'; exact RepL.nil
  | x :: xs, ws, h => by
    obtain ⟨w, r, rfl, h1, h2⟩ := h
    exact RepL.cons h1 (repOs_vals h2)
theorem ev_tup {k : Nat} (hz : xs.length ≤ sizeLine) (ha : EvA X es env (xs.map Opd.val) env1) : Ev X (.Tuple es k pos) env (.val (.tup xs)) env1 := fun Z H σ Q hH kk => by
  refine wp_pe (pe_tup (pa_wp es)) ?_
  refine ha Z H σ _ hH fun Z1 H1 ws s1 h1 r1 => ?_
  have r2 := repOs_vals r1
  have hz' : ws.length ≤ sizeLine := by rw [← r2.length]; exact hz
  refine ⟨hz', fun pa np => ?_⟩
  obtain ⟨h2, s2⟩ := h1.newZ (o := .tup ws) np
  refine kk _ _ _ (s1.trans s2) h2 ?_
  show Rep _ _ _ _ _
  simp only [Rep]
  exact ⟨pa, ws, rfl, .inl ⟨.inr rfl, upd_same, hz'⟩, RepL.st s2.zm (h1.zk s2) _ r2⟩
theorem en_lst (hz : xs.length ≤ sizeLine) (ha : EvA X es env (xs.map Opd.val) env1) : EvN X (.List es pos) env (.lst xs) env1 := fun Z H σ Q hH kk => by
  refine wp_pe (pe_lst (pa_wp es)) ?_
  refine ha Z H σ _ hH fun Z1 H1 ws s1 h1 r1 => ?_
  have r2 := repOs_vals r1
  have hz' : ws.length ≤ sizeLine := by rw [← r2.length]; exact hz
  refine ⟨hz', fun pa np => ?_⟩
  obtain ⟨h2, s2, nz, no⟩ := h1.newO (o := .lst ws) np
  exact kk _ _ _ (s1.trans s2) h2 ⟨ws, ⟨upd_same, hz'⟩, RepL.st s2.zm (h1.zk s2) _ r2⟩ nz no (s1.back np)

/-! ### calls of what is built in -/
def Cal (K : PySem.W.Frag) (r : List V → Hp → VK → Prop) (env : En) (os : List Opd) (v : Val) : Prop := ∀ (Z : ZS) (H : Hp) (σ : Stt) (Q : VK) (ws : List V), Hld K Z H σ env → RepOs K Z H σ os ws →
  (∀ Z' H' w, Stp Z H (Own env σ) Z' H' (Own env σ) → Hld K Z' H' σ env → Rep K Z' H' v w → Q w H') → r ws H Q
def CalN (K : PySem.W.Frag) (r : List V → Hp → VK → Prop) (env : En) (os : List Opd) (v : Val) : Prop := ∀ (Z : ZS) (H : Hp) (σ : Stt) (Q : VK) (ws : List V), Hld K Z H σ env → RepOs K Z H σ os ws →
  (∀ Z' H' p, Stp Z H (Own env σ) Z' H' (Own env σ) → Hld K Z' H' σ env → Top K Z' H' v p → ¬ Z' p → ¬ Own env σ p → H p = none → Q (.ref p) H') → r ws H Q
variable {os : List Opd}
theorem ev_cal {r : List V → Hp → VK → Prop} (p : PE X e (tCB r (wpA X es))) (ha : EvA X es env os env1) (hr : Cal X.K r env1 os v) : Ev X e env (.val v) env1 := fun Z H σ Q hH k => by
  refine wp_pe p ?_
  refine ha Z H σ _ hH fun Z1 H1 ws s1 h1 r1 => ?_
  exact hr Z1 H1 σ Q ws h1 r1 fun Z2 H2 w s2 h2 r2 => k Z2 H2 w (s1.trans s2) h2 r2
theorem en_cal {r : List V → Hp → VK → Prop} (p : PE X e (tCB r (wpA X es))) (ha : EvA X es env os env1) (hr : CalN X.K r env1 os v) : EvN X e env v env1 := fun Z H σ Q hH k => by
  refine wp_pe p ?_
  refine ha Z H σ _ hH fun Z1 H1 ws s1 h1 r1 => ?_
  exact hr Z1 H1 σ Q ws h1 r1 fun Z2 H2 p s2 h2 t nz no fr => k Z2 H2 p (s1.trans s2) h2 t nz no (s1.back fr)
theorem rep1 {K : PySem.W.Frag} {Z : ZS} {H : Hp} {σ : Stt} {o : Opd} {ws : List V} (h : RepOs K Z H σ [o] ws) : ∃ w, ws = [w] ∧ RepO K Z H σ o w := by
  obtain ⟨w, r, e, h1, h2⟩ := h
  have h2' : r = [] := h2
  subst h2'
  exact ⟨w, e, h1⟩
theorem rep2 {K : PySem.W.Frag} {Z : ZS} {H : Hp} {σ : Stt} {o o' : Opd} {ws : List V} (h : RepOs K Z H σ [o, o'] ws) : ∃ w w', ws = [w, w'] ∧ RepO K Z H σ o w ∧ RepO K Z H σ o' w' := by
  obtain ⟨w, r, e, h1, h2⟩ := h
  obtain ⟨w', rfl, h3⟩ := rep1 h2
  exact ⟨w, w', e, h1, h3⟩
section
variable {p' : Pos}
theorem ev_len (hm : X.mg "len" = none) (ha : Ev X a env oa env1) (hc : Cont env1 oa va) (hs : SeqV va xs) (hg : Gl X "len" := by rfl) (hst : starEach [a] X.env = [(false, eval a X.env)] := by rfl) :
    Ev X (.Call (.Name "len" p') [a] [] pos) env (.val (.int xs.length)) env1 :=
  ev_cal (pe_callB call_len_seq hg hm PySem.boot_len (pa_wp _) (by decide) (by decide) (by rw [hst]; rfl) rfl) (ea_cons ha ea_nil (by rw [hst]; rfl)) fun Z H σ Q ws hH rs k => by
    obtain ⟨w, rfl, r⟩ := rep1 rs
    obtain ⟨q, us, rfl, n, r⟩ := (hc.rep hH r).seq hs
    refine ⟨q, us, rfl, n, ?_⟩
    rw [← r.length]
    exact k Z H _ (Stp.refl ..) hH (rep_int _)
theorem ev_int1 (hm : X.mg "int" = none) (ha : Ev X a env (.val (.int i)) env1) (hg : Gl X "int" := by rfl) (hst : starEach [a] X.env = [(false, eval a X.env)] := by rfl) : Ev X (.Call (.Name "int" p') [a] [] pos) env (.val (.int i)) env1 :=
  ev_cal (pe_callTy call_int1 hg hm PyProof.Rows.boot_int (pa_wp _) (by decide) (by decide) (by rw [hst]; rfl) rfl) (ea_cons ha ea_nil (by rw [hst]; rfl)) fun Z H σ Q ws hH rs k => by
    obtain ⟨w, rfl, r⟩ := rep1 rs
    exact .inl ⟨i, by rw [rep_int' (K := X.K) (Z := Z) (H := H) r], k Z H _ (Stp.refl ..) hH (rep_int _)⟩
theorem ev_intb (hm : X.mg "int" = none) (ha : Ev X a env (.val (.bl p)) env1) (hg : Gl X "int" := by rfl) (hst : starEach [a] X.env = [(false, eval a X.env)] := by rfl) : Ev X (.Call (.Name "int" p') [a] [] pos) env (.val (.int (if p then 1 else 0))) env1 :=
  ev_cal (pe_callTy call_int1 hg hm PyProof.Rows.boot_int (pa_wp _) (by decide) (by decide) (by rw [hst]; rfl) rfl) (ea_cons ha ea_nil (by rw [hst]; rfl)) fun Z H σ Q ws hH rs k => by
    obtain ⟨w, rfl, r⟩ := rep1 rs
    exact .inr ⟨p, by rw [rep_bl' (K := X.K) (Z := Z) (H := H) r], k Z H _ (Stp.refl ..) hH (rep_int _)⟩
theorem ev_abs (hm : X.mg "abs" = none) (ha : Ev X a env (.val (.int i)) env1) (hg : Gl X "abs" := by rfl) (hst : starEach [a] X.env = [(false, eval a X.env)] := by rfl) : Ev X (.Call (.Name "abs" p') [a] [] pos) env (.val (.int i.natAbs)) env1 :=
  ev_cal (pe_callB call_abs hg hm (by decide +kernel) (pa_wp _) (by decide) (by decide) (by rw [hst]; rfl) rfl) (ea_cons ha ea_nil (by rw [hst]; rfl)) fun Z H σ Q ws hH rs k => by
    obtain ⟨w, rfl, r⟩ := rep1 rs
    refine ⟨i, by rw [rep_int' (K := X.K) (Z := Z) (H := H) r], ?_⟩
    have e : (if i < 0 then -i else i) = (i.natAbs : Int) := by split <;> omega
    rw [e]
    exact k Z H _ (Stp.refl ..) hH (rep_int _)
theorem ev_max2 (hc : X.calm = true) (hm : X.mg "max" = none) (ha : Ev X a env (.val (.int i)) env1) (hb : Ev X b env1 (.val (.int j)) env2) (hg : Gl X "max" := by rfl) (hst : starEach [a, b] X.env = [(false, eval a X.env), (false, eval b X.env)] := by rfl) (hst2 : starEach [b] X.env = [(false, eval b X.env)] := by rfl) :
    Ev X (.Call (.Name "max" p') [a, b] [] pos) env (.val (.int (max i j))) env2 :=
  ev_cal (pe_callB (call_max2 hc) hg hm (by decide +kernel) (pa_wp _) (by decide) (by decide) (by rw [hst, hst2]) (by rw [hst2]; rfl)) (ea_cons ha (ea_cons hb ea_nil (by rw [hst2]; rfl)) (by rw [hst, hst2])) fun Z H σ Q ws hH rs k => by
    obtain ⟨w, w', rfl, r, r'⟩ := rep2 rs
    refine ⟨i, j, by rw [rep_int' (K := X.K) (Z := Z) (H := H) r, rep_int' (K := X.K) (Z := Z) (H := H) r'], ?_⟩
    have e : (if j > i then j else i) = max i j := by omega
    rw [e]
    exact k Z H _ (Stp.refl ..) hH (rep_int _)
theorem ev_min2 (hc : X.calm = true) (hm : X.mg "min" = none) (ha : Ev X a env (.val (.int i)) env1) (hb : Ev X b env1 (.val (.int j)) env2) (hg : Gl X "min" := by rfl) (hst : starEach [a, b] X.env = [(false, eval a X.env), (false, eval b X.env)] := by rfl) (hst2 : starEach [b] X.env = [(false, eval b X.env)] := by rfl) :
    Ev X (.Call (.Name "min" p') [a, b] [] pos) env (.val (.int (min i j))) env2 :=
  ev_cal (pe_callB (call_min2 hc) hg hm (by decide +kernel) (pa_wp _) (by decide) (by decide) (by rw [hst, hst2]) (by rw [hst2]; rfl)) (ea_cons ha (ea_cons hb ea_nil (by rw [hst2]; rfl)) (by rw [hst, hst2])) fun Z H σ Q ws hH rs k => by
    obtain ⟨w, w', rfl, r, r'⟩ := rep2 rs
    refine ⟨i, j, by rw [rep_int' (K := X.K) (Z := Z) (H := H) r, rep_int' (K := X.K) (Z := Z) (H := H) r'], ?_⟩
    have e : (if j < i then j else i) = min i j := by omega
    rw [e]
    exact k Z H _ (Stp.refl ..) hH (rep_int _)
theorem repL_ints {K : PySem.W.Frag} {Z : ZS} {H : Hp} : ∀ {ns : List Int} {ws : List V}, RepL K Z H (ns.map Val.int) ws → ws = ns.map V.int
  | [], ws, h => by simpa only [List.map_nil, RepL] using h
  | n :: ns, ws, h => by
    simp only [List.map_cons, RepL] at h
    obtain ⟨w, r, rfl, h1, h2⟩ := h
    rw [repL_ints h2, rep_int' h1]; rfl
theorem repL_bls {K : PySem.W.Frag} {Z : ZS} {H : Hp} : ∀ {ns : List Bool} {ws : List V}, RepL K Z H (ns.map Val.bl) ws → ws = ns.map V.bl
  | [], ws, h => by simpa only [List.map_nil, RepL] using h
  | n :: ns, ws, h => by
    simp only [List.map_cons, RepL] at h
    obtain ⟨w, r, rfl, h1, h2⟩ := h
    rw [repL_bls h2, rep_bl' h1]; rfl
theorem RepL.ints {K : PySem.W.Frag} {Z : ZS} {H : Hp} : ∀ (ns : List Int), RepL K Z H (ns.map Val.int) (ns.map V.int)
  | [] => RepL.nil
  | n :: ns => RepL.cons (rep_int n) (RepL.ints ns)
theorem ev_sum (hc : X.calm = true) (hm : X.mg "sum" = none) {ns : List Int} (ha : Ev X a env oa env1) (hC : Cont env1 oa (.lst (ns.map Val.int))) (hg : Gl X "sum" := by rfl) (hst : starEach [a] X.env = [(false, eval a X.env)] := by rfl) :
    Ev X (.Call (.Name "sum" p') [a] [] pos) env (.val (.int ns.sum)) env1 :=
  ev_cal (pe_callB (cr_sum hc) hg hm (by decide +kernel) (pa_wp _) (by decide) (by decide) (by rw [hst]; rfl) rfl) (ea_cons ha ea_nil (by rw [hst]; rfl)) fun Z H σ Q ws hH rs k => by
    obtain ⟨w, rfl, r⟩ := rep1 rs
    obtain ⟨q, us, rfl, n, r⟩ := (hC.rep hH r).lst
    rw [repL_ints r] at n
    exact ⟨q, ns, rfl, n, k Z H _ (Stp.refl ..) hH (rep_int _)⟩
theorem ev_any (hc : X.calm = true) (hm : X.mg "any" = none) {bs : List Bool} (ha : Ev X a env oa env1) (hC : Cont env1 oa (.lst (bs.map Val.bl))) (hg : Gl X "any" := by rfl) (hst : starEach [a] X.env = [(false, eval a X.env)] := by rfl) :
    Ev X (.Call (.Name "any" p') [a] [] pos) env (.val (.bl (bs.any id))) env1 :=
  ev_cal (pe_callB (cr_any hc) hg hm (by decide +kernel) (pa_wp _) (by decide) (by decide) (by rw [hst]; rfl) rfl) (ea_cons ha ea_nil (by rw [hst]; rfl)) fun Z H σ Q ws hH rs k => by
    obtain ⟨w, rfl, r⟩ := rep1 rs
    obtain ⟨q, us, rfl, n, r⟩ := (hC.rep hH r).lst
    rw [repL_bls r] at n
    exact ⟨q, bs, rfl, n, k Z H _ (Stp.refl ..) hH (rep_bl _)⟩
theorem ev_all (hc : X.calm = true) (hm : X.mg "all" = none) {bs : List Bool} (ha : Ev X a env oa env1) (hC : Cont env1 oa (.lst (bs.map Val.bl))) (hg : Gl X "all" := by rfl) (hst : starEach [a] X.env = [(false, eval a X.env)] := by rfl) :
    Ev X (.Call (.Name "all" p') [a] [] pos) env (.val (.bl (bs.all id))) env1 :=
  ev_cal (pe_callB (cr_all hc) hg hm (by decide +kernel) (pa_wp _) (by decide) (by decide) (by rw [hst]; rfl) rfl) (ea_cons ha ea_nil (by rw [hst]; rfl)) fun Z H σ Q ws hH rs k => by
    obtain ⟨w, rfl, r⟩ := rep1 rs
    obtain ⟨q, us, rfl, n, r⟩ := (hC.rep hH r).lst
    rw [repL_bls r] at n
    exact ⟨q, bs, rfl, n, k Z H _ (Stp.refl ..) hH (rep_bl _)⟩
/-- tuple(list) -/
theorem ev_tuple (hm : X.mg "tuple" = none) (ha : Ev X a env oa env1) (hC : Cont env1 oa (.lst xs)) (hg : Gl X "tuple" := by rfl) (hst : starEach [a] X.env = [(false, eval a X.env)] := by rfl) : Ev X (.Call (.Name "tuple" p') [a] [] pos) env (.val (.tup xs)) env1 :=
  ev_cal (pe_callTy call_tuple_of hg hm (by decide +kernel) (pa_wp _) (by decide) (by decide) (by rw [hst]; rfl) rfl) (ea_cons ha ea_nil (by rw [hst]; rfl)) fun Z H σ Q ws hH rs k => by
    obtain ⟨w, rfl, r⟩ := rep1 rs
    have hz := (hC.rep hH r).szL
    obtain ⟨q, us, rfl, n, r⟩ := (hC.rep hH r).lst
    refine ⟨q, us, rfl, .inl ⟨n, fun l hl => ?_⟩⟩
    obtain ⟨h2, s2⟩ := hH.newZ (o := .tup us) hl
    refine k _ _ _ s2 h2 ?_
    simp only [Rep]
    exact ⟨l, us, rfl, .inl ⟨.inr rfl, upd_same, by rw [← r.length]; exact hz⟩, RepL.st s2.zm (hH.zk s2) _ r⟩
/-- tuple(tuple) -/
theorem ev_tupleT (hm : X.mg "tuple" = none) (ha : Ev X a env (.val (.tup xs)) env1) (hg : Gl X "tuple" := by rfl) (hst : starEach [a] X.env = [(false, eval a X.env)] := by rfl) : Ev X (.Call (.Name "tuple" p') [a] [] pos) env (.val (.tup xs)) env1 :=
  ev_cal (pe_callTy call_tuple_of hg hm (by decide +kernel) (pa_wp _) (by decide) (by decide) (by rw [hst]; rfl) rfl) (ea_cons ha ea_nil (by rw [hst]; rfl)) fun Z H σ Q ws hH rs k => by
    obtain ⟨w, rfl, r⟩ := rep1 rs
    obtain ⟨q, us, rfl, n, _⟩ := (show RepT X.K Z H (.tup xs) w from .inl r).tup
    exact ⟨q, us, rfl, .inr ⟨n, k _ _ _ (Stp.refl ..) hH r⟩⟩
/-- list(seq) -/
theorem en_list (hm : X.mg "list" = none) (ha : Ev X a env oa env1) (hC : Cont env1 oa va) (hS : SeqV va xs) (hg : Gl X "list" := by rfl) (hst : starEach [a] X.env = [(false, eval a X.env)] := by rfl) : EvN X (.Call (.Name "list" p') [a] [] pos) env (.lst xs) env1 :=
  en_cal (pe_callTy call_list_of hg hm (by decide +kernel) (pa_wp _) (by decide) (by decide) (by rw [hst]; rfl) rfl) (ea_cons ha ea_nil (by rw [hst]; rfl)) fun Z H σ Q ws hH rs k => by
    obtain ⟨w, rfl, r⟩ := rep1 rs
    have hz := (hC.rep hH r).szS hS
    obtain ⟨q, us, rfl, n, r⟩ := (hC.rep hH r).seq hS
    refine ⟨q, us, rfl, n, fun l hl => ?_⟩
    obtain ⟨h2, s2, nz, no⟩ := hH.newO (o := .lst us) hl
    exact k _ _ _ s2 h2 ⟨us, ⟨upd_same, by rw [← r.length]; exact hz⟩, RepL.st s2.zm (hH.zk s2) _ r⟩ nz no hl
/-- sorted of ints -/
theorem en_sortedI (hm : X.mg "sorted" = none) {ns ms : List Int} (ha : Ev X a env oa env1) (hC : Cont env1 oa (.lst (ns.map Val.int))) (hp : ms.Perm ns) (ho : ms.Pairwise (· ≤ ·)) (hg : Gl X "sorted" := by rfl) (hst : starEach [a] X.env = [(false, eval a X.env)] := by rfl) :
    EvN X (.Call (.Name "sorted" p') [a] [] pos) env (.lst (ms.map Val.int)) env1 :=
  en_cal (pe_callB cr_sortedI hg hm (by decide +kernel) (pa_wp _) (by decide) (by decide) (by rw [hst]; rfl) rfl) (ea_cons ha ea_nil (by rw [hst]; rfl)) fun Z H σ Q ws hH rs k => by
    obtain ⟨w, rfl, r⟩ := rep1 rs
    have hz := (hC.rep hH r).szL
    obtain ⟨q, us, rfl, n, r⟩ := (hC.rep hH r).lst
    rw [repL_ints r] at n
    refine ⟨q, ns, rfl, n, fun ns' l hp' ho' hl => ?_⟩
    have e : ns' = ms := (hp'.trans hp.symm).eq_of_pairwise (fun a b _ _ h1 h2 => Int.le_antisymm h1 h2) ho' ho
    subst e
    obtain ⟨h2, s2, nz, no⟩ := hH.newO (o := .lst (ns'.map V.int)) hl
    exact k _ _ _ s2 h2 ⟨_, ⟨upd_same, by rw [List.length_map, hp'.length_eq]; rw [List.length_map] at hz; exact hz⟩, RepL.ints ns'⟩ nz no hl
/-- isinstance -/
def isTy : Val → String
  | .non => "NoneType" | .bl _ => "bool" | .int _ => "int" | .str _ => "str" | .tup _ => "tuple" | .lst _ => "list" | .dic _ => "dict"
theorem tyX_of {K : PySem.W.Frag} {Z : ZS} {H : Hp} {v : Val} {w : V} (r : Rep K Z H v w) : TyX K H w (.type (isTy v)) := by
  cases v with
  | non => simp only [Rep] at r; subst r; exact .base .non
  | bl b => simp only [Rep] at r; subst r; exact .base (.bl b)
  | int b => simp only [Rep] at r; subst r; exact .base (.int b)
  | str b => simp only [Rep] at r; subst r; exact .base (.str b)
  | tup xs =>
    simp only [Rep] at r
    obtain ⟨a, ws, rfl, n, _⟩ := r
    rcases n with ⟨_, e, _⟩ | ⟨o, its, n, e, c, _⟩
    · exact .base (.tup e)
    · exact .kTuple e c
  | lst xs =>
    simp only [Rep] at r
    obtain ⟨a, ws, rfl, n, _⟩ := r
    rcases n with ⟨_, e | ⟨o, e⟩, _⟩ | ⟨o, its, n, e, c, _⟩
    · exact .base (.lst e)
    · exact .base (.frz e)
    · exact .kList e c
  | dic kvs =>
    simp only [Rep] at r
    obtain ⟨a, ps, rfl, _, n, _⟩ := r
    rcases n with ⟨qs, e, _⟩ | ⟨qs, e, _⟩
    · exact .base (.dK e)
    · exact .base (.dT e)
/-- isinstance(a, T): T a built-in type's name -/
theorem ev_isi {T : String} {x : Str} (hm : X.mg "isinstance" = none) (hmT : X.mg x = none) (hvT : bootBuiltins x = some (.type T)) (hk : kitB (isTy v) T = some p) (ha : Ev X a env (.val v) env1) (hg : Gl X "isinstance" := by rfl) (hgT : Gl X x := by rfl)
    (hst : starEach [a, .Name x pos'] X.env = [(false, eval a X.env), (false, eval (.Name x pos') X.env)] := by rfl) (hnT : x ≠ "__name__" := by decide) (hdT : (x == ("__debug__" : Str)) = false := by decide) : Ev X (.Call (.Name "isinstance" p') [a, .Name x pos'] [] pos) env (.val (.bl p)) env1 := fun Z H σ Q hH k => by
  refine wp_pe (pe_callB call_isi hg hm (by decide +kernel) (pa_cons (pe_wp a) (pa_cons (pe_bltn hgT hmT hvT (v := .ty T) (r := rfl) hnT hdT) pa_nil rfl) (by rw [hst]; rfl)) (by decide) (by decide) (by rw [hst]; rfl) rfl) ?_
  refine ha Z H σ _ hH fun Z1 H1 w1 s1 h1 r1 => ?_
  exact ⟨w1, .ty T, .type (isTy v), .type T, p, rfl, .ty T, tyX_of r1, kit_ty hk, k Z1 H1 (.bl p) s1 h1 (rep_bl (K := X.K) (Z := Z1) (H := H1) p)⟩
end
end
end VL

/-! VL4: subscripts, slices, sums of sequences, comparisons, tests. -/
namespace VL
open PySem PySem.Spec PyProof.Rows L2

section
variable {X : Cx} {a b c e : Expr} {es rest : List Expr} {env env1 env2 env3 : En} {oa ob oc : Opd} {v va vb vc : Val} {pos pos' : Pos} {xs ys : List Val} {i j : Int} {p q r : Bool}
/-! ### a[i] -/
theorem atI_rep {K : PySem.W.Frag} {Z : ZS} {H : Hp} {xs : List Val} {ws : List V} (r : RepL K Z H xs ws) {i : Int} {v : Val} (h : atI xs i = some v) : ∃ w, atI ws i = some w ∧ Rep K Z H v w := by
  unfold atI at h ⊢
  rw [← r.length]
  cases e : ixN xs.length i with
  | none => rw [e] at h; cases h
  | some j =>
    rw [e] at h
    exact r.get h
theorem ev_ix (h : atI xs i = some v) (ha : Ev X a env oa env1) (hb : Ev X b env1 (.val (.int i)) env2) (hc : Cont env2 oa va) (hs : SeqV va xs) (hpl : PlainIx b := by exact fun _ _ => rfl) : Ev X (.Subscript a b pos) env (.val v) env2 := by
  cases hs with
  | tup xs =>
    refine ev_op2 (pe_ix ix_tup (pe_wp a) (pe_wp b) hpl) ha hb fun Z H σ Q x y hH rx ry k => ?_
    obtain ⟨q, us, rfl, n, r⟩ := (hc.rep hH rx).tup
    obtain ⟨w, e, rw'⟩ := atI_rep r h
    exact ⟨q, us, i, w, rfl, rep_int' (K := X.K) (Z := Z) (H := H) ry, n, e, k Z H w (Stp.refl ..) hH rw'⟩
  | lst xs =>
    refine ev_op2 (pe_ix ix_list (pe_wp a) (pe_wp b) hpl) ha hb fun Z H σ Q x y hH rx ry k => ?_
    obtain ⟨q, us, rfl, n, r⟩ := (hc.rep hH rx).lst
    obtain ⟨w, e, rw'⟩ := atI_rep r h
    exact ⟨q, us, i, w, rfl, rep_int' (K := X.K) (Z := Z) (H := H) ry, n, e, k Z H w (Stp.refl ..) hH rw'⟩
/-! ### slices -/
inductive EvP (X : Cx) : Option Expr → En → Option Int → En → Prop
  | none {en : En} : EvP X none en none en
  | some {ex : Expr} {en en1 : En} {n : Int} (h : Ev X ex en (.val (.int n)) en1) : EvP X (some ex) en (some n) en1
def tP (X : Cx) : Option Expr → TO
  | .none => tNoPart
  | .some e => tPart (wpE X e)
theorem po_wp : ∀ lo : Option Expr, PO X lo (tP X lo)
  | .none => po_none
  | .some e => po_some (pe_wp e)
theorem EvP.go {lo : Option Expr} {o : Option Int} (h : EvP X lo env o env1) {Z : ZS} {H : Hp} {σ : Stt} {Q : Option Int → Hp → Prop} (hH : Hld X.K Z H σ env)
    (k : ∀ Z' H', Stp Z H (Own env σ) Z' H' (Own env1 σ) → Hld X.K Z' H' σ env1 → Q o H') : tP X lo σ H Q := by
  cases h with
  | none => exact k Z H (Stp.refl ..) hH
  | some h => exact h Z H σ _ hH fun Z1 H1 w s h1 r => ⟨_, rep_int' (K := X.K) (Z := Z1) (H := H1) r, k Z1 H1 s h1⟩
theorem cut_rep {K : PySem.W.Frag} {Z : ZS} {H : Hp} {xs : List Val} {ws : List V} (r : RepL K Z H xs ws) (lo hi : Option Int) : RepL K Z H ((xs.drop (HT.sIx xs.length 0 lo)).take (HT.sIx xs.length xs.length hi - HT.sIx xs.length 0 lo)) (cutV ws lo hi) := by
  unfold cutV
  rw [← r.length]
  exact RepL.take _ (RepL.drop _ r)
def cutL {α : Type} (xs : List α) (lo hi : Option Int) : List α := (xs.drop (HT.sIx xs.length 0 lo)).take (HT.sIx xs.length xs.length hi - HT.sIx xs.length 0 lo)
theorem cutL_len {α : Type} (xs : List α) (lo hi : Option Int) : (cutL xs lo hi).length ≤ xs.length := by
  unfold cutL
  rw [List.length_take, List.length_drop]
  omega
theorem cutV_len (xs : List V) (lo hi : Option Int) : (cutV xs lo hi).length ≤ xs.length := cutL_len xs lo hi
theorem cutL_map {α β : Type} (f : α → β) (xs : List α) (lo hi : Option Int) : cutL (xs.map f) lo hi = (cutL xs lo hi).map f := by
  unfold cutL
  rw [List.length_map, ← List.map_drop, ← List.map_take]
variable {lo hi : Option Expr} {ol oh : Option Int} {p2 : Pos}
theorem en_slL (ha : Ev X a env oa env1) (hl : EvP X lo env1 ol env2) (hh : EvP X hi env2 oh env3) (hc : Cont env3 oa (.lst xs)) : EvN X (.Subscript a (.Slice lo hi none p2) pos) env (.lst (cutL xs ol oh)) env3 := fun Z H σ Q hH k => by
  refine wp_pe (pe_slice sl_list (pe_wp a) (po_wp lo) (po_wp hi)) ?_
  refine ha Z H σ _ hH fun Z1 H1 w1 s1 h1 r1 => ?_
  refine hl.go h1 fun Z2 H2 s2 h2 => hh.go h2 fun Z3 H3 s3 h3 => ?_
  have hz := (hc.rep h3 ((r1.st h1 s2).st h2 s3)).szL
  obtain ⟨q, us, rfl, n, r⟩ := (hc.rep h3 ((r1.st h1 s2).st h2 s3)).lst
  refine ⟨q, us, rfl, n, fun l hl => ?_⟩
  obtain ⟨h4, s4, nz, no⟩ := h3.newO (o := .lst (cutV us ol oh)) hl
  exact k _ _ _ (((s1.trans s2).trans s3).trans s4) h4 ⟨_, ⟨upd_same, Nat.le_trans (cutV_len us ol oh) (by rw [← r.length]; exact hz)⟩, RepL.st s4.zm (h3.zk s4) _ (cut_rep r ol oh)⟩ nz no (((s1.trans s2).trans s3).back hl)
theorem ev_slT (ha : Ev X a env (.val (.tup xs)) env1) (hl : EvP X lo env1 ol env2) (hh : EvP X hi env2 oh env3) : Ev X (.Subscript a (.Slice lo hi none p2) pos) env (.val (.tup (cutL xs ol oh))) env3 := fun Z H σ Q hH k => by
  refine wp_pe (pe_slice sl_tupA (pe_wp a) (po_wp lo) (po_wp hi)) ?_
  refine ha Z H σ _ hH fun Z1 H1 w1 s1 h1 r1 => ?_
  refine hl.go h1 fun Z2 H2 s2 h2 => hh.go h2 fun Z3 H3 s3 h3 => ?_
  have r1' : Rep X.K Z3 H3 (.tup xs) w1 := (r1.st h1 s2).st h2 s3
  have hz := (show RepT X.K Z3 H3 (.tup xs) w1 from .inl r1').szT
  obtain ⟨q, us, rfl, n, r⟩ := (show RepT X.K Z3 H3 (.tup xs) w1 from .inl r1').tup
  refine ⟨q, us, rfl, n, fun hw => ?_, fun _ l hl => ?_⟩
  · have e : cutL xs ol oh = xs := by
      rw [← r.length] at hw
      unfold cutL
      rw [hw.1, hw.2]
      simp
    exact k _ _ _ ((s1.trans s2).trans s3) h3 (by rw [e]; exact r1')
  · obtain ⟨h4, s4⟩ := h3.newZ (o := .tup (cutV us ol oh)) hl
    refine k _ _ _ (((s1.trans s2).trans s3).trans s4) h4 ?_
    show Rep _ _ _ _ _
    simp only [Rep]
    exact ⟨l, _, rfl, .inl ⟨.inr rfl, upd_same, Nat.le_trans (cutV_len us ol oh) (by rw [← r.length]; exact hz)⟩, RepL.st s4.zm (h3.zk s4) _ (cut_rep r ol oh)⟩
/-- a[::-1] of a list -/
theorem en_revL {k : Nat} {p1 p3 : Pos} (ha : Ev X a env oa env1) (hc : Cont env1 oa (.lst xs)) : EvN X (.Subscript a (.Slice none none (some (.UnaryOp .USub (.Constant (.int 1) k p1) p2)) p3) pos) env (.lst xs.reverse) env1 := fun Z H σ Q hH kk => by
  refine wp_pe (pe_revL (pe_wp a)) ?_
  refine ha Z H σ _ hH fun Z1 H1 w1 s1 h1 r1 => ?_
  have hz := (hc.rep h1 r1).szL
  obtain ⟨q, us, rfl, n, r⟩ := (hc.rep h1 r1).lst
  refine ⟨q, us, rfl, n, fun l hl => ?_⟩
  obtain ⟨h4, s4, nz, no⟩ := h1.newO (o := .lst us.reverse) hl
  exact kk _ _ _ (s1.trans s4) h4 ⟨_, ⟨upd_same, by rw [List.length_reverse, ← r.length]; exact hz⟩, RepL.st s4.zm (h1.zk s4) _ r.reverse⟩ nz no (s1.back hl)
/-! ### sequences put together -/
/-- l + m: what HandS asks is that both stand as lists; the script's list is only read -/
theorem en_cat (hz : xs.length + ys.length ≤ sizeLine) (ha : Ev X a env oa env1) (hb : Ev X b env1 ob env2) (hca : Cont env2 oa (.lst xs)) (hcb : Cont env2 ob (.lst ys))
    (hcat : OpR X (binaryOp .Add) (fun x y H Q => ∃ l b xs zs, x = .ref l ∧ y = .ref b ∧ SqL X.K H l xs ∧ SqL X.K H b zs ∧ xs.length + zs.length ≤ sizeLine ∧ ∀ p, H p = none → Q (.ref p) (upd H p (.lst (xs ++ zs))))) : EvN X (.BinOp a .Add b pos) env (.lst (xs ++ ys)) env2 :=
  ev_binN hcat ha hb fun Z H σ Q x y hH rx ry k => by
    obtain ⟨q, us, rfl, n, r⟩ := (hca.rep hH rx).lst
    obtain ⟨q', us', rfl, n', r'⟩ := (hcb.rep hH ry).lst
    have hz' : us.length + us'.length ≤ sizeLine := by rw [← r.length, ← r'.length]; exact hz
    refine ⟨q, q', us, us', rfl, rfl, n, n', hz', fun l hl => ?_⟩
    obtain ⟨h2, s2, nz, no⟩ := hH.newO (o := .lst (us ++ us')) hl
    exact k _ _ _ s2 h2 ⟨_, ⟨upd_same, by rw [List.length_append]; exact hz'⟩, RepL.st s2.zm (hH.zk s2) _ (r.append r')⟩ nz no hl
theorem ev_catT (hz : xs.length + ys.length ≤ sizeLine) (ha : Ev X a env (.val (.tup xs)) env1) (hb : Ev X b env1 (.val (.tup ys)) env2) : Ev X (.BinOp a .Add b pos) env (.val (.tup (xs ++ ys))) env2 :=
  ev_bin op_catA ha hb fun Z H σ Q x y hH rx ry k => by
    have rx' : Rep X.K Z H (.tup xs) x := rx
    have ry' : Rep X.K Z H (.tup ys) y := ry
    obtain ⟨q, us, rfl, n, r⟩ := (show RepT X.K Z H (.tup xs) x from .inl rx').tup
    obtain ⟨q', us', rfl, n', r'⟩ := (show RepT X.K Z H (.tup ys) y from .inl ry').tup
    have hz' : us.length + us'.length ≤ sizeLine := by rw [← r.length, ← r'.length]; exact hz
    refine ⟨q, q', us, us', rfl, rfl, n, n', hz', fun e => ?_, fun _ e => ?_, fun _ _ l hl => ?_⟩
    · have e' : xs = [] := List.eq_nil_of_length_eq_zero (by rw [r.length, e]; rfl)
      exact k _ _ _ (Stp.refl ..) hH (by rw [e', List.nil_append]; exact ry')
    · have e' : ys = [] := List.eq_nil_of_length_eq_zero (by rw [r'.length, e]; rfl)
      exact k _ _ _ (Stp.refl ..) hH (by rw [e', List.append_nil]; exact rx')
    · obtain ⟨h2, s2⟩ := hH.newZ (o := .tup (us ++ us')) hl
      refine k _ _ _ s2 h2 ?_
      simp only [Rep]
      exact ⟨l, _, rfl, .inl ⟨.inr rfl, upd_same, by rw [List.length_append]; exact hz'⟩, RepL.st s2.zm (hH.zk s2) _ (r.append r')⟩
/-! ### == and in -/
theorem bin_eq {K : PySem.W.Frag} (da : Cont env oa va) (db : Cont env ob vb) (ga : Good va) (gb : Good vb) : Bin K (rEqD K) env oa ob (.bl (veq va vb)) := fun Z H σ Q x y hH rx ry k =>
  ⟨dat va, dat vb, (da.rep hH rx).dp ga.1, (db.rep hH ry).dp gb.1, ga.2, gb.2, k Z H _ (Stp.refl ..) hH (rep_bl _)⟩
theorem bin_ne {K : PySem.W.Frag} (da : Cont env oa va) (db : Cont env ob vb) (ga : Good va) (gb : Good vb) : Bin K (rNeD K) env oa ob (.bl (!veq va vb)) := fun Z H σ Q x y hH rx ry k =>
  ⟨dat va, dat vb, (da.rep hH rx).dp ga.1, (db.rep hH ry).dp gb.1, ga.2, gb.2, k Z H _ (Stp.refl ..) hH (rep_bl _)⟩
def rInS (K : PySem.W.Frag) (neg : Bool) : R2 := fun x y H Q => ∃ d ds, Dp K H x d ∧ (Dp K H y (.list ds) ∨ Dp K H y (.tuple ds)) ∧ SeqAt.shaped d = true ∧ SeqAt.shaped (.list ds) = true ∧ Q (.bl (if neg then !(ds.any fun z => PyData.eqv z d) else ds.any fun z => PyData.eqv z d)) H
theorem op_inS (hu : X.A.units + 65 < cLine) : OpR X (compareOp .In) (rInS X.K false) := by
  intro pins s σ H x y v u Q I rx ry h
  obtain ⟨d, ds, hd, he, sd, se, q⟩ := h
  obtain ⟨as, r1⟩ := Dp.reads I d x v hd rx
  rcases he with he | he
  · obtain ⟨bs, r2⟩ := Dp.reads I (.list ds) y u he ry
    exact SeqAt.in_list_reads r2 r1 (SeqAt.canLay_of_shaped se) (SeqAt.canLay_of_shaped sd) (room_in_shaped sd hu) ⟨.bl _, H, I, rfl, q⟩
  · obtain ⟨bs, r2⟩ := Dp.reads I (.tuple ds) y u he ry
    exact SeqAt.in_tuple_reads r2 r1 (SeqAt.canLay_of_shaped se) (SeqAt.canLay_of_shaped sd) (room_in_shaped sd hu) ⟨.bl _, H, I, rfl, q⟩
theorem op_ninS (hu : X.A.units + 65 < cLine) : OpR X (compareOp .NotIn) (rInS X.K true) := by
  intro pins s σ H x y v u Q I rx ry h
  obtain ⟨d, ds, hd, he, sd, se, q⟩ := h
  obtain ⟨as, r1⟩ := Dp.reads I d x v hd rx
  rcases he with he | he
  · obtain ⟨bs, r2⟩ := Dp.reads I (.list ds) y u he ry
    exact SeqAt.notIn_list_reads r2 r1 (SeqAt.canLay_of_shaped se) (SeqAt.canLay_of_shaped sd) (room_in_shaped sd hu) ⟨.bl _, H, I, rfl, q⟩
  · obtain ⟨bs, r2⟩ := Dp.reads I (.tuple ds) y u he ry
    exact SeqAt.notIn_tuple_reads r2 r1 (SeqAt.canLay_of_shaped se) (SeqAt.canLay_of_shaped sd) (room_in_shaped sd hu) ⟨.bl _, H, I, rfl, q⟩
theorem bin_in {K : PySem.W.Frag} {neg : Bool} (da : Cont env oa va) (db : Cont env ob vb) (hs : SeqV vb xs) (ga : Good va) (gb : Good (.lst xs)) : Bin K (rInS K neg) env oa ob (.bl (if neg then !(xs.any fun z => veq z va) else xs.any fun z => veq z va)) := fun Z H σ Q x y hH rx ry k => by
  have e : (datL xs).any (fun z => PyData.eqv z (dat va)) = xs.any fun z => veq z va := by
    rw [datL_map, List.any_map]; rfl
  refine ⟨dat va, datL xs, (da.rep hH rx).dp ga.1, ?_, ga.2, by have := gb.2; simpa only [dat] using this, ?_⟩
  · cases hs with
    | tup xs => have := (db.rep hH ry).dp (by have := gb.1; simpa only [pl] using this); simp only [dat] at this; exact .inr this
    | lst xs => have := (db.rep hH ry).dp gb.1; simp only [dat] at this; exact .inl this
  · rw [e]; exact k Z H _ (Stp.refl ..) hH (rep_bl _)
theorem ev_eq (hu : X.A.units + 64 < cLine) (ga : Good va) (gb : Good vb) (ha : Ev X a env oa env1) (hb : Ev X b env1 ob env2) (ca : Cont env2 oa va) (cb : Cont env2 ob vb) : Ev X (.Compare a [.Eq] [b] pos) env (.val (.bl (veq va vb))) env2 := ev_cmp (op_eqD hu) (nomark _) ha hb (bin_eq ca cb ga gb)
theorem ev_ne (hu : X.A.units + 64 < cLine) (ga : Good va) (gb : Good vb) (ha : Ev X a env oa env1) (hb : Ev X b env1 ob env2) (ca : Cont env2 oa va) (cb : Cont env2 ob vb) : Ev X (.Compare a [.NotEq] [b] pos) env (.val (.bl (!veq va vb))) env2 := ev_cmp (op_neD hu) (nomark _) ha hb (bin_ne ca cb ga gb)
theorem et_eq (hu : X.A.units + 64 < cLine) (ga : Good va) (gb : Good vb) (ha : Ev X a env oa env1) (hb : Ev X b env1 ob env2) (ca : Cont env2 oa va) (cb : Cont env2 ob vb) : EvT X (.Compare a [.Eq] [b] pos) env (veq va vb) env2 := et_cmp (op_eqD hu) (nomark _) ha hb (bin_eq ca cb ga gb)
theorem et_ne (hu : X.A.units + 64 < cLine) (ga : Good va) (gb : Good vb) (ha : Ev X a env oa env1) (hb : Ev X b env1 ob env2) (ca : Cont env2 oa va) (cb : Cont env2 ob vb) : EvT X (.Compare a [.NotEq] [b] pos) env (!veq va vb) env2 := et_cmp (op_neD hu) (nomark _) ha hb (bin_ne ca cb ga gb)
theorem ev_in (hu : X.A.units + 65 < cLine) (ga : Good va) (gb : Good (.lst xs)) (ha : Ev X a env oa env1) (hb : Ev X b env1 ob env2) (ca : Cont env2 oa va) (cb : Cont env2 ob vb) (hs : SeqV vb xs) (hm : behindInMarks .In b = false := by with_unfolding_all rfl) :
    Ev X (.Compare a [.In] [b] pos) env (.val (.bl (xs.any fun z => veq z va))) env2 := ev_cmp (op_inS hu) hm ha hb (bin_in (neg := false) ca cb hs ga gb)
theorem ev_ni (hu : X.A.units + 65 < cLine) (ga : Good va) (gb : Good (.lst xs)) (ha : Ev X a env oa env1) (hb : Ev X b env1 ob env2) (ca : Cont env2 oa va) (cb : Cont env2 ob vb) (hs : SeqV vb xs) (hm : behindInMarks .NotIn b = false := by with_unfolding_all rfl) :
    Ev X (.Compare a [.NotIn] [b] pos) env (.val (.bl (!xs.any fun z => veq z va))) env2 := ev_cmp (op_ninS hu) hm ha hb (bin_in (neg := true) ca cb hs ga gb)
theorem et_in (hu : X.A.units + 65 < cLine) (ga : Good va) (gb : Good (.lst xs)) (ha : Ev X a env oa env1) (hb : Ev X b env1 ob env2) (ca : Cont env2 oa va) (cb : Cont env2 ob vb) (hs : SeqV vb xs) (hm : behindInMarks .In b = false := by with_unfolding_all rfl) :
    EvT X (.Compare a [.In] [b] pos) env (xs.any fun z => veq z va) env2 := et_cmp (op_inS hu) hm ha hb (bin_in (neg := false) ca cb hs ga gb)
theorem et_ni (hu : X.A.units + 65 < cLine) (ga : Good va) (gb : Good (.lst xs)) (ha : Ev X a env oa env1) (hb : Ev X b env1 ob env2) (ca : Cont env2 oa va) (cb : Cont env2 ob vb) (hs : SeqV vb xs) (hm : behindInMarks .NotIn b = false := by with_unfolding_all rfl) :
    EvT X (.Compare a [.NotIn] [b] pos) env (!xs.any fun z => veq z va) env2 := et_cmp (op_ninS hu) hm ha hb (bin_in (neg := true) ca cb hs ga gb)
/-! ### is None -/
def isNon : Val → Bool | .non => true | _ => false
theorem isNon_rep {K : PySem.W.Frag} {Z : ZS} {H : Hp} {w : V} (r : Rep K Z H v w) : decide (w = .non) = isNon v := by
  cases v with
  | non => simp only [Rep] at r; subst r; rfl
  | bl _ => simp only [Rep] at r; subst r; rfl
  | int _ => simp only [Rep] at r; subst r; rfl
  | str _ => simp only [Rep] at r; subst r; rfl
  | tup _ => simp only [Rep] at r; obtain ⟨_, _, rfl, _⟩ := r; rfl
  | lst _ => simp only [Rep] at r; obtain ⟨_, _, rfl, _⟩ := r; rfl
  | dic _ => simp only [Rep] at r; obtain ⟨_, _, rfl, _⟩ := r; rfl
theorem bin_isN {K : PySem.W.Frag} : Bin K (fun x y H Q => y = .non ∧ Q (.bl (decide (x = .non))) H) env (.val v) (.val .non) (.bl (isNon v)) := fun Z H σ Q x y hH rx ry k =>
  ⟨rep_non' (K := K) (Z := Z) (H := H) ry, by rw [isNon_rep (K := K) (Z := Z) (H := H) rx]; exact k Z H _ (Stp.refl ..) hH (rep_bl _)⟩
theorem bin_notN {K : PySem.W.Frag} : Bin K (fun x y H Q => y = .non ∧ Q (.bl (!decide (x = .non))) H) env (.val v) (.val .non) (.bl (!isNon v)) := fun Z H σ Q x y hH rx ry k =>
  ⟨rep_non' (K := K) (Z := Z) (H := H) ry, by rw [isNon_rep (K := K) (Z := Z) (H := H) rx]; exact k Z H _ (Stp.refl ..) hH (rep_bl _)⟩
theorem ev_isN {k : Nat} (ha : Ev X a env (.val v) env1) : Ev X (.Compare a [.Is] [.Constant .none k pos'] pos) env (.val (.bl (isNon v))) env1 := ev_cmp op_isN (nomark _) ha ev_non bin_isN
theorem ev_notN {k : Nat} (ha : Ev X a env (.val v) env1) : Ev X (.Compare a [.IsNot] [.Constant .none k pos'] pos) env (.val (.bl (!isNon v))) env1 := ev_cmp op_notN (nomark _) ha ev_non bin_notN
theorem et_isN {k : Nat} (ha : Ev X a env (.val v) env1) : EvT X (.Compare a [.Is] [.Constant .none k pos'] pos) env (isNon v) env1 := et_cmp op_isN (nomark _) ha ev_non bin_isN
theorem et_notN {k : Nat} (ha : Ev X a env (.val v) env1) : EvT X (.Compare a [.IsNot] [.Constant .none k pos'] pos) env (!isNon v) env1 := et_cmp op_notN (nomark _) ha ev_non bin_notN
/-- is True, of a bool -/
theorem bin_isB {K : PySem.W.Frag} : Bin K rIsB env (.val (.bl p)) (.val (.bl q)) (.bl (p == q)) := fun Z H σ Q x y hH rx ry k =>
  ⟨p, q, rep_bl' (K := K) (Z := Z) (H := H) rx, rep_bl' (K := K) (Z := Z) (H := H) ry, by
    have e : decide (p = q) = (p == q) := by cases p <;> cases q <;> rfl
    rw [e]; exact k Z H _ (Stp.refl ..) hH (rep_bl _)⟩
theorem bin_notB {K : PySem.W.Frag} : Bin K rNotB env (.val (.bl p)) (.val (.bl q)) (.bl (p != q)) := fun Z H σ Q x y hH rx ry k =>
  ⟨p, q, rep_bl' (K := K) (Z := Z) (H := H) rx, rep_bl' (K := K) (Z := Z) (H := H) ry, by
    have e : (!decide (p = q)) = (p != q) := by cases p <;> cases q <;> rfl
    rw [e]; exact k Z H _ (Stp.refl ..) hH (rep_bl _)⟩
theorem ev_isB (ha : Ev X a env (.val (.bl p)) env1) (hb : Ev X b env1 (.val (.bl q)) env2) : Ev X (.Compare a [.Is] [b] pos) env (.val (.bl (p == q))) env2 := ev_cmp op_isBl (nomark _) ha hb bin_isB
theorem ev_notB (ha : Ev X a env (.val (.bl p)) env1) (hb : Ev X b env1 (.val (.bl q)) env2) : Ev X (.Compare a [.IsNot] [b] pos) env (.val (.bl (p != q))) env2 := ev_cmp op_notBl (nomark _) ha hb bin_notB
theorem et_isB (ha : Ev X a env (.val (.bl p)) env1) (hb : Ev X b env1 (.val (.bl q)) env2) : EvT X (.Compare a [.Is] [b] pos) env (p == q) env2 := et_cmp op_isBl (nomark _) ha hb bin_isB
theorem et_notB (ha : Ev X a env (.val (.bl p)) env1) (hb : Ev X b env1 (.val (.bl q)) env2) : EvT X (.Compare a [.IsNot] [b] pos) env (p != q) env2 := et_cmp op_notBl (nomark _) ha hb bin_notB
/-! ### chains of int comparisons -/
theorem ev_chain {op op' : CmpOp} {k : Int} {P P' : Int → Int → Bool} (ho : OpR X (compareOp op) (rI0 fun i j => .bl (P i j))) (ho' : OpR X (compareOp op') (rI0 fun i j => .bl (P' i j))) (ha : Ev X a env (.val (.int i)) env1) (hb : Ev X b env1 (.val (.int j)) env2) (hc : Ev X c env2 (.val (.int k)) env2)
    (hm : lastMarks [op, op'] [b, c] = false := by with_unfolding_all rfl) : Ev X (.Compare a [op, op'] [b, c] pos) env (.val (.bl (P i j && P' j k))) env2 := fun Z H σ Q hH kk => by
  refine wp_pe (pe_chain ho ho' (pe_wp a) (pe_wp b) (pe_wp c) hm) ?_
  refine ha Z H σ _ hH fun Z1 H1 w1 s1 h1 r1 => ?_
  refine hb Z1 H1 σ _ h1 fun Z2 H2 w2 s2 h2 r2 => ?_
  refine ⟨i, j, rep_int' (K := X.K) (Z := Z1) (H := H1) r1, rep_int' (K := X.K) (Z := Z2) (H := H2) r2, P i j, rfl, ?_⟩
  cases e : P i j with
  | false =>
    rw [if_neg (by decide)]
    have q := kk Z2 H2 (.bl false) (s1.trans s2) h2
    rw [e, Bool.false_and] at q
    exact q (rep_bl (K := X.K) (Z := Z2) (H := H2) false)
  | true =>
    rw [if_pos rfl]
    refine hc Z2 H2 σ _ h2 fun Z3 H3 w3 s3 h3 r3 => ?_
    refine ⟨j, k, rep_int' (K := X.K) (Z := Z2) (H := H2) r2, rep_int' (K := X.K) (Z := Z3) (H := H3) r3, ?_⟩
    have q := kk Z3 H3 (.bl (P' j k)) ((s1.trans s2).trans s3) h3
    rw [e, Bool.true_and] at q
    exact q (rep_bl (K := X.K) (Z := Z3) (H := H3) _)
/-! ### tests -/
/-- any expression that is a bool -/
theorem et_val (ha : Ev X a env (.val (.bl p)) env1) (he : ∀ whole, isTrue a X.env whole = (do let v ← whole; standAt a.pos; holding [v] (truthy v)) := by intro _; rfl) : EvT X a env p env1 := fun Z H σ Q hH k => by
  refine wp_pt (pt_val (pe_wp a) he) ?_
  exact ha Z H σ _ hH fun Z1 H1 w s h1 r => ⟨p, rep_bl' (K := X.K) (Z := Z1) (H := H1) r, k Z1 H1 s h1⟩
theorem et_chain {op op' : CmpOp} {k : Int} {P P' : Int → Int → Bool} (ho : OpR X (compareOp op) (rI0 fun i j => .bl (P i j))) (ho' : OpR X (compareOp op') (rI0 fun i j => .bl (P' i j))) (ha : Ev X a env (.val (.int i)) env1) (hb : Ev X b env1 (.val (.int j)) env2) (hc : Ev X c env2 (.val (.int k)) env2)
    (hm : lastMarks [op, op'] [b, c] = false := by with_unfolding_all rfl) : EvT X (.Compare a [op, op'] [b, c] pos) env (P i j && P' j k) env2 := fun Z H σ Q hH kk => by
  refine wp_pt (pt_chain ho ho' (pe_wp a) (pe_wp b) (pe_wp c) hm) ?_
  refine ha Z H σ _ hH fun Z1 H1 w1 s1 h1 r1 => ?_
  refine hb Z1 H1 σ _ h1 fun Z2 H2 w2 s2 h2 r2 => ?_
  refine ⟨i, j, rep_int' (K := X.K) (Z := Z1) (H := H1) r1, rep_int' (K := X.K) (Z := Z2) (H := H2) r2, P i j, rfl, ?_⟩
  cases e : P i j with
  | false =>
    rw [if_neg (by decide)]
    have q := kk Z2 H2 (s1.trans s2) h2
    rw [e, Bool.false_and] at q
    exact ⟨false, rfl, q⟩
  | true =>
    rw [if_pos rfl]
    refine hc Z2 H2 σ _ h2 fun Z3 H3 w3 s3 h3 r3 => ?_
    refine ⟨j, k, rep_int' (K := X.K) (Z := Z2) (H := H2) r2, rep_int' (K := X.K) (Z := Z3) (H := H3) r3, ?_⟩
    have q := kk Z3 H3 ((s1.trans s2).trans s3) h3
    rw [e, Bool.true_and] at q
    exact ⟨_, rfl, q⟩
theorem et_not (ha : EvT X a env p env1) : EvT X (.UnaryOp .Not a pos) env (!p) env1 := fun Z H σ Q hH k => by
  refine wp_pt (pt_not (pt_wp a)) ?_
  exact ha Z H σ _ hH fun Z1 H1 s h1 => k Z1 H1 s h1
theorem ev_not (ha : Ev X a env (.val (.bl p)) env1) : Ev X (.UnaryOp .Not a pos) env (.val (.bl (!p))) env1 := fun Z H σ Q hH k => by
  refine wp_pe (pe_not (pe_wp a)) ?_
  exact ha Z H σ _ hH fun Z1 H1 w s h1 r => ⟨p, rep_bl' (K := X.K) (Z := Z1) (H := H1) r, k Z1 H1 _ s h1 (rep_bl (K := X.K) (Z := Z1) (H := H1) _)⟩
/-- the tail of an and, an or, as a test -/
def wpW (X : Cx) (e : Expr) : TT := fun σ H Q => ∀ whole pins s, Inv X pins σ H s → wpAny (model X.prog X.w) X.A (isTrue e X.env whole) (TP X pins σ Q) X.xe s
theorem pw_wp (e : Expr) : PW X e (wpW X e) := ⟨fun whole pins s σ H Q I h => h whole pins s I⟩
theorem wp_pw {t : TT} {σ : Stt} {H : Hp} {Q : Bool → Hp → Prop} (p : PW X e t) (h : t σ H Q) : wpW X e σ H Q := fun whole pins s I => p.run whole pins s σ H Q I h
def EvW (X : Cx) (e : Expr) (env : En) (b : Bool) (env' : En) : Prop := ∀ (Z : ZS) (H : Hp) (σ : Stt) (Q : Bool → Hp → Prop), Hld X.K Z H σ env →
  (∀ Z' H', Stp Z H (Own env σ) Z' H' (Own env' σ) → Hld X.K Z' H' σ env' → Q b H') → wpW X e σ H Q
theorem EvW.t (h : EvW X e env p env1) : EvT X e env p env1 := fun Z H σ Q hH k pins s I => h Z H σ Q hH k _ pins s I
theorem ew_and1 (ha : EvT X a env p env1) : EvW X (.BoolOp .And [a] pos) env p env1 := fun Z H σ Q hH k => wp_pw (pw_and1 (pt_wp a)) (ha Z H σ Q hH k)
theorem ew_or1 (ha : EvT X a env p env1) : EvW X (.BoolOp .Or [a] pos) env p env1 := fun Z H σ Q hH k => wp_pw (pw_or1 (pt_wp a)) (ha Z H σ Q hH k)
theorem ew_andG (ha : EvT X a env p env1) (h1 : p = true → EvW X (.BoolOp .And (b :: rest) pos) env1 r env2) (h0 : p = false → r = false ∧ env2 = env1) : EvW X (.BoolOp .And (a :: b :: rest) pos) env r env2 := fun Z H σ Q hH k => by
  refine wp_pw (pw_and (pt_wp a) (pw_wp _)) ?_
  refine ha Z H σ _ hH fun Z1 H1 s hh => ?_
  cases p with
  | true => exact h1 rfl Z1 H1 σ Q hh fun Z2 H2 s2 h2 => k Z2 H2 (s.trans s2) h2
  | false =>
    obtain ⟨rfl, rfl⟩ := h0 rfl
    exact k Z1 H1 s hh
theorem ew_orG (ha : EvT X a env p env1) (h1 : p = false → EvW X (.BoolOp .Or (b :: rest) pos) env1 r env2) (h0 : p = true → r = true ∧ env2 = env1) : EvW X (.BoolOp .Or (a :: b :: rest) pos) env r env2 := fun Z H σ Q hH k => by
  refine wp_pw (pw_or (pt_wp a) (pw_wp _)) ?_
  refine ha Z H σ _ hH fun Z1 H1 s hh => ?_
  cases p with
  | false => exact h1 rfl Z1 H1 σ Q hh fun Z2 H2 s2 h2 => k Z2 H2 (s.trans s2) h2
  | true =>
    obtain ⟨rfl, rfl⟩ := h0 rfl
    exact k Z1 H1 s hh
/-- .. where the tail changes nothing of one's own -/
theorem ew_and (ha : EvT X a env p env1) (hb : p = true → EvW X (.BoolOp .And (b :: rest) pos) env1 q env1) : EvW X (.BoolOp .And (a :: b :: rest) pos) env (p && q) env1 :=
  ew_andG ha (fun e => by subst e; exact hb rfl) fun e => by subst e; exact ⟨rfl, rfl⟩
theorem ew_or (ha : EvT X a env p env1) (hb : p = false → EvW X (.BoolOp .Or (b :: rest) pos) env1 q env1) : EvW X (.BoolOp .Or (a :: b :: rest) pos) env (p || q) env1 :=
  ew_orG ha (fun e => by subst e; exact hb rfl) fun e => by subst e; exact ⟨rfl, rfl⟩
/-- .. as values -/
theorem ev_bo1 {op} (ha : Ev X a env oa env1) : Ev X (.BoolOp op [a] pos) env oa env1 := fun Z H σ Q hH k => wp_pe (pe_one (pe_wp a)) (ha Z H σ Q hH k)
theorem ev_andG (ha : Ev X a env (.val (.bl p)) env1) (h1 : p = true → Ev X (.BoolOp .And (b :: rest) pos) env1 (.val (.bl r)) env2) (h0 : p = false → r = false ∧ env2 = env1) : Ev X (.BoolOp .And (a :: b :: rest) pos) env (.val (.bl r)) env2 := fun Z H σ Q hH k => by
  refine wp_pe (pe_and (pe_wp a) (pe_wp _)) ?_
  refine ha Z H σ _ hH fun Z1 H1 w s hh rr => ⟨p, rep_bl' (K := X.K) (Z := Z1) (H := H1) rr, ?_⟩
  cases p with
  | true => exact h1 rfl Z1 H1 σ Q hh fun Z2 H2 w2 s2 h2 r2 => k Z2 H2 w2 (s.trans s2) h2 r2
  | false =>
    obtain ⟨rfl, rfl⟩ := h0 rfl
    exact k Z1 H1 _ s hh (rep_bl (K := X.K) (Z := Z1) (H := H1) _)
theorem ev_orG (ha : Ev X a env (.val (.bl p)) env1) (h1 : p = false → Ev X (.BoolOp .Or (b :: rest) pos) env1 (.val (.bl r)) env2) (h0 : p = true → r = true ∧ env2 = env1) : Ev X (.BoolOp .Or (a :: b :: rest) pos) env (.val (.bl r)) env2 := fun Z H σ Q hH k => by
  refine wp_pe (pe_or (pe_wp a) (pe_wp _)) ?_
  refine ha Z H σ _ hH fun Z1 H1 w s hh rr => ⟨p, rep_bl' (K := X.K) (Z := Z1) (H := H1) rr, ?_⟩
  cases p with
  | false => exact h1 rfl Z1 H1 σ Q hh fun Z2 H2 w2 s2 h2 r2 => k Z2 H2 w2 (s.trans s2) h2 r2
  | true =>
    obtain ⟨rfl, rfl⟩ := h0 rfl
    exact k Z1 H1 _ s hh (rep_bl (K := X.K) (Z := Z1) (H := H1) _)
theorem ev_and (ha : Ev X a env (.val (.bl p)) env1) (hb : p = true → Ev X (.BoolOp .And (b :: rest) pos) env1 (.val (.bl q)) env1) : Ev X (.BoolOp .And (a :: b :: rest) pos) env (.val (.bl (p && q))) env1 :=
  ev_andG ha (fun e => by subst e; exact hb rfl) fun e => by subst e; exact ⟨rfl, rfl⟩
theorem ev_or (ha : Ev X a env (.val (.bl p)) env1) (hb : p = false → Ev X (.BoolOp .Or (b :: rest) pos) env1 (.val (.bl q)) env1) : Ev X (.BoolOp .Or (a :: b :: rest) pos) env (.val (.bl (p || q))) env1 :=
  ev_orG ha (fun e => by subst e; exact hb rfl) fun e => by subst e; exact ⟨rfl, rfl⟩
/-- a if c else b -/
theorem ev_ifG {o : Opd} (hc : EvT X c env p env1) (h1 : p = true → Ev X a env1 o env2) (h0 : p = false → Ev X b env1 o env2) : Ev X (.IfExp c a b pos) env o env2 := fun Z H σ Q hH k => by
  refine wp_pe (pe_ifExp (pt_wp c) (pe_wp a) (pe_wp b)) ?_
  refine hc Z H σ _ hH fun Z1 H1 s hh => ?_
  cases p with
  | true => exact h1 rfl Z1 H1 σ Q hh fun Z2 H2 w2 s2 h2 r2 => k Z2 H2 w2 (s.trans s2) h2 r2
  | false => exact h0 rfl Z1 H1 σ Q hh fun Z2 H2 w2 s2 h2 r2 => k Z2 H2 w2 (s.trans s2) h2 r2
end
end VL

/-! VL5: statements. -/
namespace VL
open PySem PySem.Spec PyProof.Rows L2

/-! ### by readings -/
def EvR (K : PySem.W.Frag) (t : TE) (env : En) (o : Opd) (env' : En) : Prop := ∀ (Z : ZS) (H : Hp) (σ : Stt) (Q : VK), Hld K Z H σ env →
  (∀ Z' H' w, Stp Z H (Own env σ) Z' H' (Own env' σ) → Hld K Z' H' σ env' → RepO K Z' H' σ o w → Q w H') → t σ H Q
def EvNR (K : PySem.W.Frag) (t : TE) (env : En) (v : Val) (env' : En) : Prop := ∀ (Z : ZS) (H : Hp) (σ : Stt) (Q : VK), Hld K Z H σ env →
  (∀ Z' H' a, Stp Z H (Own env σ) Z' H' (Own env' σ) → Hld K Z' H' σ env' → Top K Z' H' v a → ¬ Z' a → ¬ Own env' σ a → H a = none → Q (.ref a) H') → t σ H Q
theorem Ev.r {X : Cx} {e : Expr} {env env' : En} {o : Opd} (h : Ev X e env o env') : EvR X.K (wpE X e) env o env' := h
theorem EvN.r {X : Cx} {e : Expr} {env env' : En} {v : Val} (h : EvN X e env v env') : EvNR X.K (wpE X e) env v env' := h
theorem EvR.ev {X : Cx} {e : Expr} {t : TE} {env env' : En} {o : Opd} (p : PE X e t) (h : EvR X.K t env o env') : Ev X e env o env' := fun Z H σ Q hH k => wp_pe p (h Z H σ Q hH k)
theorem EvNR.ev {X : Cx} {e : Expr} {t : TE} {env env' : En} {v : Val} (p : PE X e t) (h : EvNR X.K t env v env') : EvN X e env v env' := fun Z H σ Q hH k => wp_pe p (h Z H σ Q hH k)
theorem EvNR.frz {K : PySem.W.Frag} {t : TE} {env env1 : En} {v : Val} (h : EvNR K t env v env1) : EvR K t env (.val v) env1 := fun Z H σ Q hH k => by
  refine h Z H σ Q hH fun Z1 H1 p s h1 t nz no fr => ?_
  obtain ⟨o, e⟩ := t.there
  refine k (fun a => Z1 a ∨ a = p) H1 _ ⟨s.keep, fun a z => .inl (s.zm a z), fun a z => ?_, s.on, s.dom⟩ (h1.free e no) ?_
  · rcases z with z | rfl
    · exact s.zn a z
    · exact .inr (.inr fr)
  · exact Top.frz (.inr rfl) (Top.st (fun a z => .inl z) (fun _ _ _ e => e) (fun _ e => e) t)

/-! ### slots stored, forgotten, let go -/
section
variable {K : PySem.W.Frag} {Z Z' : ZS} {H H' : Hp} {σ : Stt} {env env' : En} {v : Val} {w : V} {i : Nat}
theorem get_set_some {α : Type} {l : List α} {i j : Nat} {x y : α} (h : (l.set i x)[j]? = some y) : (j = i ∧ y = x) ∨ (j ≠ i ∧ l[j]? = some y) := by
  by_cases e : i = j
  · subst e
    by_cases hl : i < l.length
    · rw [List.getElem?_set_self hl] at h; exact .inl ⟨rfl, (Option.some.inj h).symm⟩
    · rw [List.getElem?_eq_none (by rw [List.length_set]; omega)] at h; cases h
  · rw [List.getElem?_set_ne e] at h; exact .inr ⟨fun q => e q.symm, h⟩
theorem slOk_ne {j : Nat} {s : Sl} {x : Option V} (ne : j ≠ i) (h : SlOk K Z H σ j s) : SlOk K Z H (σ.set i x) j s := by
  have e : (σ.set i x)[j]? = σ[j]? := List.getElem?_set_ne (fun q => ne q.symm)
  cases s with
  | no => trivial
  | im v => obtain ⟨w, a, b⟩ := (show ∃ w, σ[j]? = some (some w) ∧ Rep K Z H v w from h); exact ⟨w, e.trans a, b⟩
  | ow v => obtain ⟨w, a, b⟩ := (show ∃ a, σ[j]? = some (some (V.ref a)) ∧ Top K Z H v a ∧ ¬ Z a from h); exact ⟨w, e.trans a, b⟩
theorem own_set {x : Option V} {s : Sl} (a : Addr) (o : Own (env.set i s) (σ.set i x) a) (hs : ∀ v, s ≠ .ow v) : Own env σ a := by
  obtain ⟨j, v, e, q⟩ := o
  rcases get_set_some e with ⟨_, e'⟩ | ⟨ne, e'⟩
  · exact absurd e'.symm (hs v)
  · refine ⟨j, v, e', ?_⟩
    rwa [List.getElem?_set_ne (fun q => ne q.symm)] at q
theorem Hld.setI (h : Hld K Z H σ env) (r : Rep K Z H v w) (hi : i < env.length) : Hld K Z H (σ.set i (some w)) (env.set i (.im v)) := by
  refine ⟨fun j s e => ?_, fun j l u u' a e1 e2 q1 q2 => ?_, h.zd, by simp only [List.length_set]; exact h.len⟩
  · rcases get_set_some e with ⟨rfl, rfl⟩ | ⟨ne, e⟩
    · exact ⟨w, List.getElem?_set_self (by rw [← h.len]; exact hi), r⟩
    · exact slOk_ne ne (h.sl j s e)
  · rcases get_set_some e1 with ⟨_, e1⟩ | ⟨n1, e1⟩
    · cases e1
    · rcases get_set_some e2 with ⟨_, e2⟩ | ⟨n2, e2⟩
      · cases e2
      · rw [List.getElem?_set_ne (fun q => n1 q.symm)] at q1
        rw [List.getElem?_set_ne (fun q => n2 q.symm)] at q2
        exact h.inj j l u u' a e1 e2 q1 q2
theorem Hld.setO {a : Addr} (h : Hld K Z H σ env) (t : Top K Z H v a) (nz : ¬ Z a) (no : ¬ Own env σ a) (hi : i < env.length) : Hld K Z H (σ.set i (some (.ref a))) (env.set i (.ow v)) := by
  have key : ∀ j u b, j ≠ i → env[j]? = some (Sl.ow u) → (σ.set i (some (V.ref a)))[j]? = some (some (V.ref b)) → b ≠ a := fun j u b n e q z => by
    rw [List.getElem?_set_ne (fun q => n q.symm)] at q
    subst z
    exact no ⟨j, u, e, q⟩
  have self : (σ.set i (some (V.ref a)))[i]? = some (some (V.ref a)) := List.getElem?_set_self (by rw [← h.len]; exact hi)
  refine ⟨fun j s e => ?_, fun j l u u' b e1 e2 q1 q2 => ?_, h.zd, by simp only [List.length_set]; exact h.len⟩
  · rcases get_set_some e with ⟨rfl, rfl⟩ | ⟨ne, e⟩
    · exact ⟨a, self, t, nz⟩
    · exact slOk_ne ne (h.sl j s e)
  · rcases get_set_some e1 with ⟨i1, f1⟩ | ⟨n1, f1⟩
    · rcases get_set_some e2 with ⟨i2, f2⟩ | ⟨n2, f2⟩
      · rw [i1, i2]
      · rw [i1, self] at q1; cases q1
        exact absurd rfl (key l u' _ n2 f2 q2)
    · rcases get_set_some e2 with ⟨i2, f2⟩ | ⟨n2, f2⟩
      · rw [i2, self] at q2; cases q2
        exact absurd rfl (key j u _ n1 f1 q1)
      · rw [List.getElem?_set_ne (fun q => n1 q.symm)] at q1
        rw [List.getElem?_set_ne (fun q => n2 q.symm)] at q2
        exact h.inj j l u u' b f1 f2 q1 q2
/-- env' knows no more than env -/
inductive Wk : En → En → Prop
  | nil : Wk [] []
  | s {s : Sl} {a b : En} (h : Wk a b) : Wk (s :: a) (s :: b)
  | n {s : Sl} {a b : En} (h : Wk a b) : Wk (s :: a) (.no :: b)
theorem Wk.refl : ∀ e : En, Wk e e
  | [] => .nil
  | _ :: r => .s (Wk.refl r)
theorem Wk.setNo : ∀ (e : En) (j : Nat), Wk e (e.set j .no)
  | [], _ => .nil
  | x :: l, 0 => .n (Wk.refl l)
  | x :: l, j + 1 => .s (Wk.setNo l j)
theorem Wk.get {a b : En} (h : Wk a b) : ∀ {i : Nat} {s : Sl}, b[i]? = some s → s = .no ∨ a[i]? = some s := by
  induction h with
  | nil => intro i s e; simp at e
  | s h ih =>
    intro i s e
    cases i with
    | zero => exact .inr e
    | succ i => exact ih e
  | n h ih =>
    intro i s e
    cases i with
    | zero => exact .inl (Option.some.inj e).symm
    | succ i => exact ih e
theorem Wk.len {a b : En} (h : Wk a b) : a.length = b.length := by
  induction h with
  | nil => rfl
  | s h ih => simp [ih]
  | n h ih => simp [ih]
theorem Wk.own {a b : En} (h : Wk a b) (x : Addr) (o : Own b σ x) : Own a σ x := by
  obtain ⟨i, v, e, q⟩ := o
  rcases h.get e with e | e
  · cases e
  · exact ⟨i, v, e, q⟩
theorem Hld.wk (h : Hld K Z H σ env) (k : Wk env env') : Hld K Z H σ env' := by
  refine ⟨fun j s e => ?_, fun j l u u' b e1 e2 q1 q2 => ?_, h.zd, k.len.symm.trans h.len⟩
  · rcases k.get e with rfl | e
    · trivial
    · exact h.sl j s e
  · rcases k.get e1 with e1 | e1
    · cases e1
    · rcases k.get e2 with e2 | e2
      · cases e2
      · exact h.inj j l u u' b e1 e2 q1 q2
/-- a container of one's own is known from now on -/
theorem Hld.fr (h : Hld K Z H σ env) (e : env[i]? = some (Sl.ow v)) : ∃ Z', Hld K Z' H σ (env.set i (.im v)) ∧ Stp Z H (Own env σ) Z' H (Own (env.set i (.im v)) σ) := by
  obtain ⟨a, s, t, nz⟩ := h.own e
  have hi : i < env.length := (List.getElem?_eq_some_iff.mp e).1
  have os : ∀ b, Own (env.set i (.im v)) σ b → Own env σ b ∧ b ≠ a := fun b ⟨j, u, e1, q⟩ => by
    rcases get_set_some e1 with ⟨_, e1⟩ | ⟨n1, e1⟩
    · cases e1
    · refine ⟨⟨j, u, e1, q⟩, fun z => ?_⟩
      subst z
      exact n1 (h.inj j i u v b e1 e q s)
  refine ⟨fun b => Z b ∨ b = a, ⟨fun j s1 e1 => ?_, fun j l u u' b e1 e2 q1 q2 => ?_, fun b z => ?_, by rw [List.length_set]; exact h.len⟩, ⟨fun _ _ e _ => e, fun b z => .inl z, fun b z => ?_, fun b o => .inl (os b o).1, fun _ o e => ⟨o, e⟩⟩⟩
  · rcases get_set_some e1 with ⟨rfl, rfl⟩ | ⟨ne, e1⟩
    · exact ⟨_, s, Top.frz (.inr rfl) (Top.st (fun a z => .inl z) (fun _ _ _ e => e) (fun _ e => e) t)⟩
    · have q := h.sl j s1 e1
      cases s1 with
      | no => trivial
      | im u =>
        obtain ⟨w, s2, r⟩ := (show ∃ w, σ[j]? = some (some w) ∧ Rep K Z H u w from q)
        exact ⟨w, s2, Rep.st (fun a z => .inl z) (fun _ _ _ e => e) u r⟩
      | ow u =>
        obtain ⟨b, s2, t2, nz2⟩ := (show ∃ a, σ[j]? = some (some (V.ref a)) ∧ Top K Z H u a ∧ ¬ Z a from q)
        refine ⟨b, s2, Top.st (fun a z => .inl z) (fun _ _ _ e => e) (fun _ e => e) t2, fun z => ?_⟩
        rcases z with z | z
        · exact nz2 z
        · subst z
          exact ne (h.inj j i u v b e1 e s2 s)
  · rcases get_set_some e1 with ⟨_, e1⟩ | ⟨n1, e1⟩
    · cases e1
    · rcases get_set_some e2 with ⟨_, e2⟩ | ⟨n2, e2⟩
      · cases e2
      · exact h.inj j l u u' b e1 e2 q1 q2
  · rcases z with z | rfl
    · exact h.zd b z
    · exact t.there
  · rcases z with z | rfl
    · exact .inl z
    · exact .inr (.inl ⟨i, v, e, s⟩)
end

section
variable {X : Cx} {M : List Nat} {st : Stmt} {sts rest body : List Stmt} {a b c e : Expr} {es : List Expr} {env env1 env2 env3 : En} {oa ob oc o : Opd} {v va vb vc : Val} {pos pos' : Pos} {xs ys : List Val} {p q : Bool} {out out1 out2 : Out} {te : TE} {i : Nat}
theorem Fix.refl (σ : Stt) : Fix M σ σ := fun _ _ => rfl
theorem Fix.trans {σ σ1 σ2 : Stt} (a : Fix M σ σ1) (b : Fix M σ1 σ2) : Fix M σ σ2 := fun i h => (b i h).trans (a i h)
theorem Fix.set {σ : Stt} {x : Option V} (h : i ∉ M) : Fix M σ (σ.set i x) := fun j hj => List.getElem?_set_ne fun e => h (by rw [e]; exact hj)
theorem Post.mono {X : Cx} {M : List Nat} {Z Z1 : ZS} {H H1 : Hp} {O O1 : ZS} {σ σ1 : Stt} {D : Ends} {o : Out} (s : Stp Z H O Z1 H1 O1) (f : Fix M σ σ1) (h : Post X M Z H O σ D o) : Post X M Z1 H1 O1 σ1 D o := by
  cases o with
  | nx env => exact fun Z' H' σ' s' h' f' => h Z' H' σ' (s.trans s') h' (f.trans f')
  | bk env => exact fun Z' H' σ' s' h' f' => h Z' H' σ' (s.trans s') h' (f.trans f')
  | ct env => exact fun Z' H' σ' s' h' f' => h Z' H' σ' (s.trans s') h' (f.trans f')
  | rt r env =>
    refine fun Z' H' σ' w s' h' f' r' => h Z' H' σ' w (s.trans s') h' (f.trans f') ?_
    cases r with
    | im v => exact r'
    | ow v => exact r'
/-- forgetting, letting go ahead of statements -/
theorem EvSs.wk (h : EvSs X M sts env1 out) (k : Wk env env1) : EvSs X M sts env out := fun Z H σ D hH P =>
  h Z H σ D (hH.wk k) (P.mono ((Stp.refl Z H (Own env σ)).sub fun a o => k.own a o) (Fix.refl σ))
theorem EvSs.frz (i : Nat) (e : env[i]? = some (Sl.ow v)) (h : EvSs X M sts (env.set i (.im v)) out) : EvSs X M sts env out := fun Z H σ D hH P => by
  obtain ⟨Z', h', s⟩ := hH.fr e
  exact h Z' H σ D h' (P.mono s (Fix.refl σ))
theorem EvS.frz (i : Nat) (e : env[i]? = some (Sl.ow v)) (h : EvS X M st (env.set i (.im v)) out) : EvS X M st env out := fun Z H σ D hH P => by
  obtain ⟨Z', h', s⟩ := hH.fr e
  exact h Z' H σ D h' (P.mono s (Fix.refl σ))
theorem Ev.frz (i : Nat) (q : env[i]? = some (Sl.ow v)) (h : Ev X e (env.set i (.im v)) o env1) : Ev X e env o env1 := fun Z H σ Q hH k => by
  obtain ⟨Z', h', s⟩ := hH.fr q
  exact h Z' H σ Q h' fun Z2 H2 w s2 h2 r => k Z2 H2 w (s.trans s2) h2 r
theorem EvN.frz1 (i : Nat) (q : env[i]? = some (Sl.ow va)) (h : EvN X e (env.set i (.im va)) v env1) : EvN X e env v env1 := fun Z H σ Q hH k => by
  obtain ⟨Z', h', s⟩ := hH.fr q
  exact h Z' H σ Q h' fun Z2 H2 w s2 h2 t nz no fr => k Z2 H2 w (s.trans s2) h2 t nz no fr
/-- forgetting behind -/
theorem EvS.wkN (h : EvS X M st env (.nx env1)) (k : Wk env1 env2) : EvS X M st env (.nx env2) := fun Z H σ D hH P =>
  h Z H σ D hH fun Z' H' σ' s h' f => P Z' H' σ' (s.sub fun a o => k.own a o) (h'.wk k) f
theorem EvSs.wkN (h : EvSs X M sts env (.nx env1)) (k : Wk env1 env2) : EvSs X M sts env (.nx env2) := fun Z H σ D hH P =>
  h Z H σ D hH fun Z' H' σ' s h' f => P Z' H' σ' (s.sub fun a o => k.own a o) (h'.wk k) f
theorem EvSs.wkB (h : EvSs X M sts env (.bk env1)) (k : Wk env1 env2) : EvSs X M sts env (.bk env2) := fun Z H σ D hH P =>
  h Z H σ D hH fun Z' H' σ' s h' f => P Z' H' σ' (s.sub fun a o => k.own a o) (h'.wk k) f
theorem EvSs.wkR {r : Rt} (h : EvSs X M sts env (.rt r env1)) (k : Wk env1 env2) : EvSs X M sts env (.rt r env2) := fun Z H σ D hH P =>
  h Z H σ D hH fun Z' H' σ' w s h' f rr => P Z' H' σ' w (s.sub fun a o => o.elim (fun o => .inl (k.own a o)) .inr) (h'.wk k) f (by
    cases r with
    | im v => exact rr
    | ow v => obtain ⟨a, e, t, nz, no⟩ := rr; exact ⟨a, e, t, nz, fun o => no (k.own a o)⟩)

/-! ### small statements -/
/-- name = a value -/
theorem es_set (pp : PS X st (tAsg te (gName i))) (he : EvR X.K te env (.val v) env1) (hi : i < env1.length) (hM : i ∉ M) : EvS X M st env (.nx (env1.set i (.im v))) := fun Z H σ D hH P => by
  refine wp_ps pp ?_
  refine he Z H σ _ hH fun Z1 H1 w s h1 r => ?_
  exact P Z1 H1 _ (s.sub fun a o => own_set a o fun _ z => nomatch z) (h1.setI r hi) (Fix.set hM)
/-- name = a new container, to be changed -/
theorem es_setN (pp : PS X st (tAsg te (gName i))) (he : EvNR X.K te env v env1) (hi : i < env1.length) (hM : i ∉ M) : EvS X M st env (.nx (env1.set i (.ow v))) := fun Z H σ D hH P => by
  refine wp_ps pp ?_
  refine he Z H σ _ hH fun Z1 H1 p s h1 t nz no fr => ?_
  refine P Z1 H1 _ ⟨s.keep, s.zm, s.zn, fun a o => ?_, s.dom⟩ (h1.setO t nz no hi) (Fix.set hM)
  obtain ⟨j, u, e, q⟩ := o
  rcases get_set_some e with ⟨ij, _⟩ | ⟨ne, e'⟩
  · rw [ij, List.getElem?_set_self (by rw [← h1.len]; exact hi)] at q
    cases q
    exact .inr fr
  · rw [List.getElem?_set_ne (fun q => ne q.symm)] at q
    exact s.on a ⟨j, u, e', q⟩
/-- name = a slot with a container of one's own: it moves -/
theorem es_move {j : Nat} (pp : PS X st (tAsg te (gName i))) (he : EvR X.K te env (.slot j) env1) (hj : env1[j]? = some (Sl.ow v)) (hi : i < env1.length) (hM : i ∉ M) : EvS X M st env (.nx ((env1.set j .no).set i (.ow v))) := fun Z H σ D hH P => by
  refine wp_ps pp ?_
  refine he Z H σ _ hH fun Z1 H1 w s h1 r => ?_
  obtain ⟨a, sj, t, nz⟩ := h1.own hj
  have r' : σ[j]? = some (some w) := r
  rw [sj] at r'; cases r'
  have k : Wk env1 (env1.set j .no) := Wk.setNo env1 j
  have no : ¬ Own (env1.set j .no) σ a := fun ⟨l, u, e, q⟩ => by
    rcases get_set_some e with ⟨_, e⟩ | ⟨ne, e⟩
    · cases e
    · exact ne (h1.inj l j u v a e hj q sj)
  refine P Z1 H1 _ ⟨s.keep, s.zm, s.zn, fun b o => ?_, s.dom⟩ ((h1.wk k).setO t nz no (by rw [List.length_set]; exact hi)) (Fix.set hM)
  obtain ⟨l, u, e, q⟩ := o
  rcases get_set_some e with ⟨ij, _⟩ | ⟨ne, e'⟩
  · rw [ij, List.getElem?_set_self (by rw [← h1.len]; exact hi)] at q
    cases q
    exact s.on a ⟨j, v, hj, sj⟩
  · rw [List.getElem?_set_ne (fun q => ne q.symm)] at q
    exact s.on b (k.own b ⟨l, u, e', q⟩)
theorem es_expr (he : Ev X e env o env1) (hs : swapsWith e none pos.line X.env = pure false := by rfl) : EvS X M (.Expr e pos) env (.nx env1) := fun Z H σ D hH P => by
  refine wp_ps (ps_expr (pe_wp e) hs) ?_
  exact he Z H σ _ hH fun Z1 H1 w s h1 r => P Z1 H1 σ s h1 (Fix.refl σ)
theorem es_pass : EvS X M (.Pass pos) env (.nx env) := fun Z H σ D hH P => wp_ps ps_pass (P Z H σ (Stp.refl ..) hH (Fix.refl σ))
theorem es_break : EvS X M (.Break pos) env (.bk env) := fun Z H σ D hH P => wp_ps ps_break (P Z H σ (Stp.refl ..) hH (Fix.refl σ))
theorem es_cont : EvS X M (.Continue pos) env (.ct env) := fun Z H σ D hH P => wp_ps ps_continue (P Z H σ (Stp.refl ..) hH (Fix.refl σ))
theorem es_ret (he : Ev X e env (.val v) env1) : EvS X M (.Return (some e) pos) env (.rt (.im v) env1) := fun Z H σ D hH P => by
  refine wp_ps (ps_ret (pe_wp e)) ?_
  exact he Z H σ _ hH fun Z1 H1 w s h1 r => P Z1 H1 σ w ⟨s.keep, s.zm, s.zn, (fun a o => by
    rcases o with o | ⟨_, _, o⟩
    · exact s.on a o
    · cases o), s.dom⟩ h1 (Fix.refl σ) r
theorem es_ret0 : EvS X M (.Return none pos) env (.rt (.im .non) env) := fun Z H σ D hH P =>
  wp_ps ps_retN (P Z H σ _ ⟨fun _ _ e _ => e, fun _ z => z, fun _ z => .inl z, (fun a o => by
    rcases o with o | ⟨_, _, o⟩
    · exact .inl o
    · cases o), fun _ o e => ⟨o, e⟩⟩ hH (Fix.refl σ) (show Rep _ _ _ _ _ from rep_non))
theorem es_retN (he : EvN X e env v env1) : EvS X M (.Return (some e) pos) env (.rt (.ow v) env1) := fun Z H σ D hH P => by
  refine wp_ps (ps_ret (pe_wp e)) ?_
  exact he Z H σ _ hH fun Z1 H1 p s h1 t nz no fr => P Z1 H1 σ _ ⟨s.keep, s.zm, s.zn, (fun a o => by
    rcases o with o | ⟨o, _⟩
    · exact s.on a o
    · cases o; exact .inr fr), s.dom⟩ h1 (Fix.refl σ) ⟨p, rfl, t, nz, no⟩
/-- return of a container of one's own in a slot -/
theorem es_retO {j : Nat} (he : Ev X e env (.slot j) env1) (hj : env1[j]? = some (Sl.ow v)) : EvS X M (.Return (some e) pos) env (.rt (.ow v) (env1.set j .no)) := fun Z H σ D hH P => by
  refine wp_ps (ps_ret (pe_wp e)) ?_
  refine he Z H σ _ hH fun Z1 H1 w s h1 r => ?_
  obtain ⟨a, sj, t, nz⟩ := h1.own hj
  have r' : σ[j]? = some (some w) := r
  rw [sj] at r'; cases r'
  have k : Wk env1 (env1.set j .no) := Wk.setNo env1 j
  have no : ¬ Own (env1.set j .no) σ a := fun ⟨l, u, e, q⟩ => by
    rcases get_set_some e with ⟨_, e⟩ | ⟨ne, e⟩
    · cases e
    · exact ne (h1.inj l j u v a e hj q sj)
  exact P Z1 H1 σ _ ⟨s.keep, s.zm, s.zn, (fun b o => by
    rcases o with o | ⟨o, _⟩
    · exact s.on b (k.own b o)
    · cases o; exact s.on a ⟨j, v, hj, sj⟩), s.dom⟩ (h1.wk k) (Fix.refl σ) ⟨a, rfl, t, nz, no⟩
/-- name op= e, of values -/
theorem es_aug {r : R2} (hp : PS X st (tAug i (wpE X e) r)) (hx : env[i]? = some (Sl.im va)) (hx1 : env1[i]? = some (Sl.im va)) (he : Ev X e env ob env1) (hr : Bin X.K r env1 (.val va) ob v) (hM : i ∉ M) : EvS X M st env (.nx (env1.set i (.im v))) := fun Z H σ D hH P => by
  refine wp_ps hp ?_
  obtain ⟨w, sw, rw'⟩ := hH.imm hx
  refine ⟨w, sw, ?_⟩
  refine he Z H σ _ hH fun Z1 H1 y s h1 ry => ?_
  obtain ⟨w', sw', rw2⟩ := h1.imm hx1
  rw [sw] at sw'; cases sw'
  refine hr Z1 H1 σ _ _ y h1 rw2 ry fun Z2 H2 z s2 h2 rz => ?_
  exact P Z2 H2 _ ((s.trans s2).sub fun a o => own_set a o fun _ z => nomatch z) (h2.setI rz (by rw [h2.len, ← h1.len]; exact (List.getElem?_eq_some_iff.mp hx1).1)) (Fix.set hM)
/-! ### blocks, if -/
theorem ess_nil : EvSs X M [] env (.nx env) := fun Z H σ D hH P => wp_pss pss_nil (P Z H σ (Stp.refl ..) hH (Fix.refl σ))
theorem ess_cons (h1 : EvS X M st env (.nx env1)) (h2 : EvSs X M rest env1 out) : EvSs X M (st :: rest) env out := fun Z H σ D hH P => by
  refine wp_pss (pss_cons (ps_wp st) (pss_wp rest)) ?_
  exact h1 Z H σ _ hH fun Z1 H1 σ1 s hh f => h2 Z1 H1 σ1 D hh (P.mono s f)
/-- what leaves the block -/
def Out.leaves : Out → Bool | .nx _ => false | _ => true
theorem Post.ends {Z : ZS} {H : Hp} {O : ZS} {σ : Stt} {D : Ends} {u : Stt → Hp → Prop} (hl : out.leaves = true) (P : Post X M Z H O σ D out) : Post X M Z H O σ { D with nx := u } out := by
  cases out with
  | nx env => cases hl
  | bk env => exact P
  | ct env => exact P
  | rt r env => exact P
theorem ess_last (h1 : EvS X M st env out) (hl : out.leaves = true) : EvSs X M (st :: rest) env out := fun Z H σ D hH P => by
  refine wp_pss (pss_cons (ps_wp st) (pss_wp rest)) ?_
  exact h1 Z H σ _ hH (P.ends hl)
def Then (X : Cx) (M : List Nat) (o : Out) (rest : List Stmt) (out : Out) : Prop := match o with | .nx env => EvSs X M rest env out | o => o = out
theorem Then.go (o : Out) (h : Then X M o rest out) {Z : ZS} {H : Hp} {O : ZS} {σ : Stt} {D : Ends} (P : Post X M Z H O σ D out) : Post X M Z H O σ { D with nx := wpSs X rest D } o := by
  cases o with
  | nx env => exact fun Z' H' σ' s' h' f' => h Z' H' σ' D h' (P.mono s' f')
  | bk env => have e : Out.bk env = out := h; subst e; exact P
  | ct env => have e : Out.ct env = out := h; subst e; exact P
  | rt r env => have e : Out.rt r env = out := h; subst e; exact P
theorem ess_seq (h1 : EvS X M st env out1) (h2 : Then X M out1 rest out) : EvSs X M (st :: rest) env out := fun Z H σ D hH P => by
  refine wp_pss (pss_cons (ps_wp st) (pss_wp rest)) ?_
  exact h1 Z H σ _ hH (h2.go out1 P)
theorem es_if {ts fs : List Stmt} (hc : EvT X c env p env1) (h1 : p = true → EvSs X M ts env1 out) (h0 : p = false → EvSs X M fs env1 out) : EvS X M (.If c ts fs pos) env out := fun Z H σ D hH P => by
  refine wp_ps (ps_if (pt_wp c) (pss_wp ts) (pss_wp fs)) ?_
  refine hc Z H σ _ hH fun Z1 H1 s hh => ?_
  cases p with
  | true => exact h1 rfl Z1 H1 σ D hh (P.mono s (Fix.refl σ))
  | false => exact h0 rfl Z1 H1 σ D hh (P.mono s (Fix.refl σ))
/-- an if and what follows it, each way by itself -/
theorem ess_if {ts fs : List Stmt} (hc : EvT X c env p env1) (h1 : p = true → ∃ o, EvSs X M ts env1 o ∧ Then X M o rest out) (h0 : p = false → ∃ o, EvSs X M fs env1 o ∧ Then X M o rest out) : EvSs X M (.If c ts fs pos :: rest) env out := fun Z H σ D hH P => by
  refine wp_pss (pss_cons (ps_if (pt_wp c) (pss_wp ts) (pss_wp fs)) (pss_wp rest)) ?_
  refine hc Z H σ _ hH fun Z1 H1 s hh => ?_
  have P1 := P.mono s (Fix.refl σ)
  cases p with
  | true =>
    obtain ⟨o, h, t⟩ := h1 rfl
    exact h Z1 H1 σ _ hh (t.go o P1)
  | false =>
    obtain ⟨o, h, t⟩ := h0 rfl
    exact h Z1 H1 σ _ hh (t.go o P1)
end
end VL

/-! VL6: containers of one's own changed. -/
namespace VL
open PySem PySem.Spec PyProof.Rows L2

section
variable {K : PySem.W.Frag} {Z Z' : ZS} {H H' : Hp} {σ : Stt} {env env' : En} {v v' : Val} {w : V} {i : Nat}
/-- what is one's own is changed in place -/
theorem Hld.mut (h : Hld K Z H σ env) (e : env[i]? = some (Sl.ow v)) : ∃ a, σ[i]? = some (some (V.ref a)) ∧ Top K Z H v a ∧ ¬ Z a ∧ (∀ b u, Z b → H b = some u → b ≠ a) ∧
    ∀ (o : HO) (v' : Val), (Top K Z (upd H a o) v' a) → Hld K Z (upd H a o) σ (env.set i (.ow v')) ∧ Stp Z H (Own env σ) Z (upd H a o) (Own (env.set i (.ow v')) σ) := by
  obtain ⟨a, s, t, nz⟩ := h.own e
  have za : ∀ b, Z b → b ≠ a := fun b z q => nz (q ▸ z)
  refine ⟨a, s, t, nz, fun b _ z _ => za b z, fun o v' t' => ?_⟩
  have kz : ∀ b u, Z b → H b = some u → upd H a o b = some u := fun b u z q => by rw [upd_ne (za b z)]; exact q
  have oth : ∀ j u b, j ≠ i → env[j]? = some (Sl.ow u) → σ[j]? = some (some (V.ref b)) → b ≠ a := fun j u b ne e1 q z => ne (h.inj j i u v b e1 e q (by rw [z]; exact s))
  have own : ∀ b, Own (env.set i (.ow v')) σ b → Own env σ b := fun b ⟨j, u, e1, q⟩ => by
    rcases get_set_some e1 with ⟨ij, _⟩ | ⟨ne, e1'⟩
    · rw [ij] at q; exact ⟨i, v, e, q⟩
    · exact ⟨j, u, e1', q⟩
  refine ⟨⟨fun j s1 e1 => ?_, fun j l u u' b e1 e2 q1 q2 => ?_, fun b z => ?_, by rw [List.length_set]; exact h.len⟩, ⟨fun b u q n => ?_, fun _ z => z, fun _ z => .inl z, fun b q => .inl (own b q), fun b u q => ?_⟩⟩
  · rcases get_set_some e1 with ⟨ij, es⟩ | ⟨ne, e1'⟩
    · rw [ij, es]
      exact ⟨a, s, t', nz⟩
    · have q := h.sl j s1 e1'
      cases s1 with
      | no => trivial
      | im u =>
        obtain ⟨w, s2, r⟩ := (show ∃ w, σ[j]? = some (some w) ∧ Rep K Z H u w from q)
        exact ⟨w, s2, Rep.st (fun _ z => z) kz u r⟩
      | ow u =>
        obtain ⟨b, s2, t2, nz2⟩ := (show ∃ a, σ[j]? = some (some (V.ref a)) ∧ Top K Z H u a ∧ ¬ Z a from q)
        exact ⟨b, s2, Top.st (fun _ z => z) kz (fun x q => by rw [upd_ne (oth j u b ne e1' s2)]; exact q) t2, nz2⟩
  · have get : ∀ j u b, (env.set i (Sl.ow v'))[j]? = some (Sl.ow u) → σ[j]? = some (some (V.ref b)) → ∃ u', env[j]? = some (Sl.ow u') := fun j u b e1 q => by
      rcases get_set_some e1 with ⟨ij, _⟩ | ⟨ne, e1'⟩
      · rw [ij]; exact ⟨v, e⟩
      · exact ⟨u, e1'⟩
    obtain ⟨x, e1'⟩ := get j u b e1 q1
    obtain ⟨y, e2'⟩ := get l u' b e2 q2
    exact h.inj j l x y b e1' e2' q1 q2
  · obtain ⟨u, q⟩ := h.zd b z
    exact ⟨u, kz b u z q⟩
  · rw [upd_ne (fun q => n (by rw [q]; exact ⟨i, v, e, s⟩))]; exact q
  · by_cases z : b = a
    · exact ⟨o, by rw [z]; exact upd_same⟩
    · exact ⟨u, by rw [upd_ne z]; exact q⟩
end

section
variable {X : Cx} {M : List Nat} {st : Stmt} {a b c e ob : Expr} {es : List Expr} {env env1 env2 env3 : En} {oo oa oc o : Opd} {v va vb vc : Val} {pos pos' : Pos} {xs ys : List Val} {os : List Opd} {i : Nat} {T : String} {r : V → List V → Hp → VK → Prop}
/-- a method of what is built in, at a slot of one's own: the slot's content becomes v' -/
theorem ev_bmO {v' vr : Val} (p : PE X e (tBM X.K T r (wpE X ob) (wpA X es))) (ho : Ev X ob env (.slot i) env) (ha : EvA X es env os env1) (h0 : env[i]? = some (Sl.ow va)) (h1 : env1[i]? = some (Sl.ow vb))
    (hty : ∀ Z H a, Top X.K Z H va a → tyV X.K T (.ref a) H)
    (hr : ∀ (Z : ZS) (H : Hp) (σ : Stt) (a : Addr) (ws : List V) (Q : VK), Top X.K Z H vb a → RepOs X.K Z H σ os ws → (∀ o w, (∀ Z' H', (∀ b, Z b → Z' b) → (∀ b u, Z b → H b = some u → H' b = some u) → H' a = some o → Top X.K Z' H' v' a ∧ Rep X.K Z' H' vr w) → Q w (upd H a o)) → r (.ref a) ws H Q) :
    Ev X e env (.val vr) (env1.set i (.ow v')) := fun Z H σ Q hH k => by
  refine wp_pe p ?_
  refine ho Z H σ _ hH fun Z1 H1 w s1 h1' r1 => ?_
  obtain ⟨a0, sa, t0, _⟩ := h1'.own h0
  have r1' : σ[i]? = some (some w) := r1
  rw [sa] at r1'; cases r1'
  refine ⟨hty Z1 H1 a0 t0, ?_⟩
  refine ha Z1 H1 σ _ h1' fun Z2 H2 ws s2 h2 r2 => ?_
  obtain ⟨a, sa', t, nz, zk, mt⟩ := h2.mut h1
  rw [sa] at sa'; cases sa'
  refine hr Z2 H2 σ a0 ws Q t r2 fun o w hw => ?_
  have q := hw Z2 (upd H2 a0 o) (fun _ z => z) (fun b u z e => by rw [upd_ne (zk b u z e)]; exact e) upd_same
  obtain ⟨h3, s3⟩ := mt o v' q.1
  exact k Z2 _ w ((s1.trans s2).trans s3) h3 q.2
theorem ev_bmO0 {v' vr : Val} (p : PE X e (tBM0 X.K T r (wpE X ob))) (ho : Ev X ob env (.slot i) env) (h0 : env[i]? = some (Sl.ow va))
    (hty : ∀ Z H a, Top X.K Z H va a → tyV X.K T (.ref a) H)
    (hr : ∀ (Z : ZS) (H : Hp) (a : Addr) (Q : VK), Top X.K Z H va a → (∀ o w, (∀ Z' H', (∀ b, Z b → Z' b) → (∀ b u, Z b → H b = some u → H' b = some u) → H' a = some o → Top X.K Z' H' v' a ∧ Rep X.K Z' H' vr w) → Q w (upd H a o)) → r (.ref a) [] H Q) :
    Ev X e env (.val vr) (env.set i (.ow v')) := fun Z H σ Q hH k => by
  refine wp_pe p ?_
  refine ho Z H σ _ hH fun Z1 H1 w s1 h1' r1 => ?_
  obtain ⟨a, sa, t, nz, zk, mt⟩ := h1'.mut h0
  have r1' : σ[i]? = some (some w) := r1
  rw [sa] at r1'; cases r1'
  refine ⟨hty Z1 H1 a t, ?_⟩
  refine hr Z1 H1 a Q t fun o w hw => ?_
  have q := hw Z1 (upd H1 a o) (fun _ z => z) (fun b u z e => by rw [upd_ne (zk b u z e)]; exact e) upd_same
  obtain ⟨h3, s3⟩ := mt o v' q.1
  exact k Z1 _ w (s1.trans s3) h3 q.2
theorem ty_lst {Z : ZS} {H : Hp} {a : Addr} (t : Top X.K Z H (.lst xs) a) : tyV X.K "list" (.ref a) H := by
  obtain ⟨ws, e, _⟩ := (show ∃ ws, LAt H a ws ∧ RepL X.K Z H xs ws from t)
  exact .inl ⟨rfl, ws, .inl (.inl e.1)⟩
variable {p1 p2 p3 : Pos}
/-- xs.append(e) -/
theorem ev_append (i : Nat) {x : Str} (ho : Ev X (.Name x p1) env (.slot i) env) (h0 : env[i]? = some (Sl.ow (.lst ys))) (ha : Ev X a env (.val v) env1) (h1 : env1[i]? = some (Sl.ow (.lst xs))) (hz : xs.length < sizeLine)
    (p : PE X (.Call (.Attribute (.Name x p1) "append" p2) [a] [] pos) (tBM X.K "list" rAppend (wpE X (.Name x p1)) (wpA X [a])) := by exact pe_bm PySem.F.plainAttrs_list PySem.F.slot_list_append PySem.F.type_list_append mt_append (pe_wp _) (pa_wp _)) (hst : starEach [a] X.env = [(false, eval a X.env)] := by rfl) :
    Ev X (.Call (.Attribute (.Name x p1) "append" p2) [a] [] pos) env (.val .non) (env1.set i (.ow (.lst (xs ++ [v])))) :=
  ev_bmO p ho (ea_cons ha ea_nil (by rw [hst]; rfl)) h0 h1 (fun Z H a t => ty_lst t) fun Z H σ l ws Q t rs k => by
    obtain ⟨us, e, r⟩ := (show ∃ ws, LAt H l ws ∧ RepL X.K Z H xs ws from t)
    obtain ⟨w, rfl, rw'⟩ := rep1 rs
    refine ⟨l, us, w, rfl, rfl, e.1, by rw [← r.length]; exact hz, k _ _ fun Z' H' zm zk e' => ⟨⟨_, ⟨e', by rw [List.length_append, List.length_singleton, ← r.length]; exact hz⟩, RepL.append (RepL.st zm zk _ r) (RepL.one (Rep.st zm zk v rw'))⟩, rep_non⟩⟩
/-- xs.pop() -/
theorem ev_pop (i : Nat) {x : Str} (ho : Ev X (.Name x p1) env (.slot i) env) (h0 : env[i]? = some (Sl.ow (.lst (xs ++ [v]))))
    (p : PE X (.Call (.Attribute (.Name x p1) "pop" p2) [] [] pos) (tBM0 X.K "list" rPop (wpE X (.Name x p1))) := by exact pe_bm0 PySem.F.plainAttrs_list PySem.F.slot_list_pop PySem.F.type_list_pop mt_pop (pe_wp _)) :
    Ev X (.Call (.Attribute (.Name x p1) "pop" p2) [] [] pos) env (.val v) (env.set i (.ow (.lst xs))) :=
  ev_bmO0 p ho h0 (fun Z H a t => ty_lst t) fun Z H l Q t k => by
    obtain ⟨us, e, r⟩ := (show ∃ ws, LAt H l ws ∧ RepL X.K Z H (xs ++ [v]) ws from t)
    have hl := r.length
    rw [List.length_append, List.length_singleton] at hl
    obtain ⟨w, g, rw'⟩ := r.get (i := xs.length) (x := v) (by simp)
    have e2 : us.length - 1 = xs.length := by omega
    refine ⟨l, us, w, rfl, rfl, e.1, by rw [e2]; exact g, k _ _ fun Z' H' zm zk e' => ⟨⟨_, ⟨e', by have := e.2; rw [List.length_dropLast]; omega⟩, ?_⟩, Rep.st zm zk v rw'⟩⟩
    have q := RepL.take xs.length (RepL.st zm zk _ r)
    rw [List.take_left, ← e2, ← List.dropLast_eq_take] at q
    exact q
/-- xs.pop(k) -/
theorem ev_popAt (i : Nat) {x : Str} {k : Int} {j : Nat} (ho : Ev X (.Name x p1) env (.slot i) env) (h0 : env[i]? = some (Sl.ow (.lst ys))) (ha : Ev X a env (.val (.int k)) env1) (h1 : env1[i]? = some (Sl.ow (.lst xs))) (hj : ixN xs.length k = some j) (hv : xs[j]? = some v) (hz : xs.length < 2 ^ 63)
    (p : PE X (.Call (.Attribute (.Name x p1) "pop" p2) [a] [] pos) (tBM X.K "list" rPopAt (wpE X (.Name x p1)) (wpA X [a])) := by exact pe_bm PySem.F.plainAttrs_list PySem.F.slot_list_pop PySem.F.type_list_pop mt_popAt (pe_wp _) (pa_wp _)) (hst : starEach [a] X.env = [(false, eval a X.env)] := by rfl) :
    Ev X (.Call (.Attribute (.Name x p1) "pop" p2) [a] [] pos) env (.val v) (env1.set i (.ow (.lst (xs.eraseIdx j)))) :=
  ev_bmO p ho (ea_cons ha ea_nil (by rw [hst]; rfl)) h0 h1 (fun Z H a t => ty_lst t) fun Z H σ l ws Q t rs kk => by
    obtain ⟨us, e, r⟩ := (show ∃ ws, LAt H l ws ∧ RepL X.K Z H xs ws from t)
    obtain ⟨w, rfl, rw'⟩ := rep1 rs
    obtain ⟨w', g, rv⟩ := r.get hv
    obtain ⟨q1, q2, q3, q4⟩ := ixN_seq hj
    refine ⟨l, us, k, j, w', rfl, by rw [rep_int' (K := X.K) (Z := Z) (H := H) rw'], e.1, by omega, by omega, by rw [← r.length]; exact q1, g, kk _ _ fun Z' H' zm zk e' => ⟨⟨_, ⟨e', Nat.le_trans (List.length_eraseIdx_le _ _) e.2⟩, RepL.eraseIdx j (RepL.st zm zk _ r)⟩, Rep.st zm zk v rv⟩⟩
/-- xs.reverse() -/
theorem ev_reverse (i : Nat) {x : Str} (ho : Ev X (.Name x p1) env (.slot i) env) (h0 : env[i]? = some (Sl.ow (.lst xs)))
    (p : PE X (.Call (.Attribute (.Name x p1) "reverse" p2) [] [] pos) (tBM0 X.K "list" rReverse (wpE X (.Name x p1))) := by exact pe_bm0 PySem.F.plainAttrs_list PySem.F.slot_list_reverse PySem.F.type_list_reverse mt_reverse (pe_wp _)) :
    Ev X (.Call (.Attribute (.Name x p1) "reverse" p2) [] [] pos) env (.val .non) (env.set i (.ow (.lst xs.reverse))) :=
  ev_bmO0 p ho h0 (fun Z H a t => ty_lst t) fun Z H l Q t k => by
    obtain ⟨us, e, r⟩ := (show ∃ ws, LAt H l ws ∧ RepL X.K Z H xs ws from t)
    exact ⟨l, us, rfl, rfl, e.1, k _ _ fun Z' H' zm zk e' => ⟨⟨_, ⟨e', by rw [List.length_reverse]; exact e.2⟩, (RepL.st zm zk _ r).reverse⟩, rep_non⟩⟩
/-- xs[k] = e -/
theorem es_setIx (i : Nat) {k : Int} {j : Nat} (pp : PS X st (tAsg (wpE X e) (gSub (wpE X a) (wpE X b) rSetL))) (he : Ev X e env (.val v) env1) (ho : Ev X a env1 (.slot i) env1) (hb : Ev X b env1 (.val (.int k)) env2) (h1 : env2[i]? = some (Sl.ow (.lst xs))) (hj : ixN xs.length k = some j) :
    EvS X M st env (.nx (env2.set i (.ow (.lst (xs.set j v))))) := fun Z H σ D hH P => by
  refine wp_ps pp ?_
  refine he Z H σ _ hH fun Z1 H1 w s1 hh1 r1 => ?_
  refine ho Z1 H1 σ _ hh1 fun Z2 H2 wo s2 hh2 ro => ?_
  refine hb Z2 H2 σ _ hh2 fun Z3 H3 wb s3 hh3 rb => ?_
  obtain ⟨l, sl, t, nz, zk, mt⟩ := hh3.mut h1
  have ro' : σ[i]? = some (some wo) := ro
  rw [sl] at ro'; cases ro'
  obtain ⟨us, e, r⟩ := (show ∃ ws, LAt H3 l ws ∧ RepL X.K Z3 H3 xs ws from t)
  have r3 : Rep X.K Z3 H3 v w := (r1.st hh1 s2).st hh2 s3
  refine ⟨l, us, k, j, rfl, rep_int' (K := X.K) (Z := Z3) (H := H3) rb, e.1, by rw [← r.length]; exact hj, ?_⟩
  have kz : ∀ b u, Z3 b → H3 b = some u → upd H3 l (.lst (us.set j w)) b = some u := fun b u z q => by rw [upd_ne (zk b u z q)]; exact q
  obtain ⟨h4, s4⟩ := mt (.lst (us.set j w)) (.lst (xs.set j v)) ⟨_, ⟨upd_same, by rw [List.length_set]; exact e.2⟩, RepL.set (Rep.st (fun _ z => z) kz v r3) j (RepL.st (fun _ z => z) kz _ r)⟩
  exact P Z3 _ σ (((s1.trans s2).trans s3).trans s4) h4 (Fix.refl σ)
end

/-! ### targets -/
section
variable {X : Cx} {M : List Nat} {env env1 env2 : En} {v : Val} {pos : Pos} {tg : Expr}
theorem eg_name (i : Nat) (pp : PG X tg (gName i)) (hi : i < env.length) (hM : i ∉ M) : EvG X M tg v env (env.set i (.im v)) := fun Z H σ Q w hH r k => by
  refine wp_pg pp ?_
  exact k Z H _ ((Stp.refl Z H (Own env σ)).sub fun a o => own_set a o fun _ z => nomatch z) (hH.setI r hi) (Fix.set hM)
def wpGs (X : Cx) (ts : List Expr) : TGs := fun vs σ H Q => ∀ pins s us, Inv X pins σ H s → Vals vs us → wpAny (model X.prog X.w) X.A (assignInOrder ((assignEach ts X.env).map (·.2)) us) (fun _ s' => ∃ σ' H', Inv X pins σ' H' s' ∧ Q σ' H') X.xe s
theorem pgs_wp (ts : List Expr) : PGs X ts (wpGs X ts) := ⟨fun pins s σ H vs us Q I r h => h pins s us I r⟩
def EvGs (X : Cx) (M : List Nat) (ts : List Expr) (vs : List Val) (env env' : En) : Prop := ∀ (Z : ZS) (H : Hp) (σ : Stt) (Q : Stt → Hp → Prop) (ws : List V), Hld X.K Z H σ env → RepL X.K Z H vs ws →
  (∀ Z' H' σ', Stp Z H (Own env σ) Z' H' (Own env' σ') → Hld X.K Z' H' σ' env' → Fix M σ σ' → Q σ' H') → wpGs X ts ws σ H Q
theorem egs_nil : EvGs X M [] [] env env := fun Z H σ Q ws hH r k pins s us I rv => by
  simp only [RepL] at r; subst r
  exact pgs_nil.run pins s σ H [] us Q I rv ⟨rfl, k Z H σ (Stp.refl ..) hH (Fix.refl σ)⟩
theorem egs_cons {t : Expr} {ts : List Expr} {vs : List Val} (h1 : EvG X M t v env env1) (h2 : EvGs X M ts vs env1 env2) (hs : (assignEach (t :: ts) X.env).map (·.2) = assign t X.env :: (assignEach ts X.env).map (·.2) := by rfl) : EvGs X M (t :: ts) (v :: vs) env env2 := fun Z H σ Q ws hH r k pins s us I rv => by
  simp only [RepL] at r
  obtain ⟨w, q, rfl, r1, r2⟩ := r
  refine (pgs_cons (pg_wp t) (pgs_wp ts) hs).run pins s σ H _ us Q I rv ⟨w, q, rfl, ?_⟩
  refine h1 Z H σ _ w hH r1 fun Z1 H1 σ1 s1 hh1 f1 => ?_
  exact h2 Z1 H1 σ1 Q q hh1 (RepL.st s1.zm (hH.zk s1) _ r2) fun Z2 H2 σ2 s2 hh2 f2 => k Z2 H2 σ2 (s1.trans s2) hh2 (f1.trans f2)
theorem eg_tup {es : List Expr} {k n : Nat} {vs : List Val} (hc : X.calm = true) (h : EvGs X M es vs env env1) (hn : vs.length = n) (hn2 : (assignEach es X.env).length = n := by rfl) (hst : (assignEach es X.env).findIdx? (·.1) = none := by rfl) : EvG X M (.Tuple es k pos) (.tup vs) env env1 := fun Z H σ Q w hH r kk => by
  refine wp_pg (pg_tup hc (pgs_wp es) hn2 hst) ?_
  obtain ⟨a, ws, rfl, q, r'⟩ := (show RepT X.K Z H (.tup vs) w from .inl r).tup
  exact ⟨a, ws, rfl, q, by rw [← r'.length]; exact hn, h Z H σ Q ws hH r' kk⟩
/-- target = value -/
theorem es_asg {st : Stmt} {te : TE} (pp : PS X st (tAsg te (wpG X tg))) (he : EvR X.K te env (.val v) env1) (hg : EvG X M tg v env1 env2) : EvS X M st env (.nx env2) := fun Z H σ D hH P => by
  refine wp_ps pp ?_
  refine he Z H σ _ hH fun Z1 H1 w s h1 r => ?_
  exact hg Z1 H1 σ _ w h1 r fun Z2 H2 σ2 s2 h2 f2 => P Z2 H2 σ2 (s.trans s2) h2 f2
/-- a, b = x, y: both names local -/
theorem es_par {st : Stmt} {i j : Nat} {es : List Expr} {vb : Val} (pp : PS X st (tPar i j (wpA X es))) (ha : EvA X es env [.val v, .val vb] env1) (hi : i < env1.length) (hj : j < env1.length) (hMi : i ∉ M) (hMj : j ∉ M) : EvS X M st env (.nx ((env1.set i (.im v)).set j (.im vb))) := fun Z H σ D hH P => by
  refine wp_ps pp ?_
  refine ha Z H σ _ hH fun Z1 H1 ws s h1 r => ?_
  obtain ⟨w, w', rfl, r1, r2⟩ := rep2 r
  refine ⟨w, w', rfl, ?_⟩
  have h2 := h1.setI (v := v) (w := w) (i := i) r1 hi
  have h3 := h2.setI (v := vb) (w := w') (i := j) r2 (by rw [List.length_set]; exact hj)
  exact P Z1 H1 _ (s.sub fun a o => own_set a (own_set a o fun _ z => nomatch z) fun _ z => nomatch z) h3 ((Fix.set hMi).trans (Fix.set hMj))
end
end VL

/-! VL7: loops. -/
namespace VL
open PySem PySem.Spec PyProof.Rows L2

/-- what a turn ends with: a state; a state behind a break; a return -/
inductive LO (S : Type) (R : Type) where | nx (s : S) | bk (s : S) | rt (r : R)
def loopL {α S R : Type} (f : S → α → LO S R) : S → List α → S ⊕ R
  | s, [] => .inl s
  | s, x :: xs => match f s x with
    | .nx s' => loopL f s' xs
    | .bk s' => .inl s'
    | .rt r => .inr r
def loopOk {α S R : Type} (f : S → α → LO S R) (ok : S → α → Prop) : S → List α → Prop
  | _, [] => True
  | s, x :: xs => ok s x ∧ match f s x with
    | .nx s' => loopOk f ok s' xs
    | _ => True
def foldOk {α S : Type} (f : S → α → S) (ok : S → α → Prop) : S → List α → Prop
  | _, [] => True
  | s, x :: xs => ok s x ∧ foldOk f ok (f s x) xs
theorem loopL_nx {α S R : Type} (f : S → α → S) : ∀ (s : S) (xs : List α), loopL (R := R) (fun s x => .nx (f s x)) s xs = .inl (xs.foldl f s)
  | s, [] => rfl
  | s, x :: xs => loopL_nx f (f s x) xs
theorem loopOk_nx {α S R : Type} {f : S → α → S} {ok : S → α → Prop} : ∀ {s : S} {xs : List α}, foldOk f ok s xs → loopOk (R := R) (fun s x => .nx (f s x)) ok s xs
  | s, [], _ => trivial
  | s, x :: xs, h => ⟨h.1, loopOk_nx h.2⟩
inductive Lo {S R : Type} (envS : S → En) (outR : R → Out) : Out → LO S R → Prop
  | nx (s : S) : Lo envS outR (.nx (envS s)) (.nx s)
  | bk (s : S) : Lo envS outR (.bk (envS s)) (.bk s)
  | rt (r : R) (h : (outR r).leaves = true) (h2 : ∀ e, outR r ≠ .bk e) (h3 : ∀ e, outR r ≠ .ct e) : Lo envS outR (outR r) (.rt r)
def outL {S R : Type} (envS : S → En) (outR : R → Out) : S ⊕ R → Out
  | .inl s => .nx (envS s)
  | .inr r => outR r

section
variable {X : Cx} {M : List Nat} {body : List Stmt} {tg iter c : Expr} {env env1 : En} {va : Val} {pos : Pos} {xs : List Val} {α S R : Type}
theorem Post.rtD {Z : ZS} {H : Hp} {O : ZS} {σ : Stt} {D : Ends} {n b k : Stt → Hp → Prop} {o : Out} (hl : o.leaves = true) (h2 : ∀ e, o ≠ .bk e) (h3 : ∀ e, o ≠ .ct e) (P : Post X M Z H O σ D o) : Post X M Z H O σ { D with nx := n, ct := k, bk := b } o := by
  cases o with
  | nx e => cases hl
  | bk e => exact absurd rfl (h2 e)
  | ct e => exact absurd rfl (h3 e)
  | rt r e => exact P
/-- for over a list or a tuple that is known -/
theorem es_for {envS : S → En} {outR : R → Out} (f : S → α → LO S R) (ok : S → α → Prop) (enc : α → Val) (l : List α) (s0 : S) (hcalm : X.calm = true) (hp : PassesOwn (model X.prog X.w) X.A X.env X.xe)
    (hi : Ev X iter env (.val va) (envS s0)) (hs : SeqV va (l.map enc)) (hok : loopOk f ok s0 l)
    (hb : ∀ s x, x ∈ l → ok s x → ∃ envt o, EvG X M tg (enc x) (envS s) envt ∧ EvSs X M body envt o ∧ Lo envS outR o (f s x))
    (hf : ∀ x, foldedSetIterable iter X.env x = pure x := by intro _; rfl) : EvS X M (.For tg iter body [] pos) env (outL envS outR (loopL f s0 l)) := fun Z H σ D hH P => by
  -- what holds ahead of a turn
  have Pv_start : ∀ {Z1 H1}, Stp Z H (Own env σ) Z1 H1 (Own (envS s0) σ) → Hld X.K Z1 H1 σ (envS s0) →
      ∃ s Z', loopL f s0 l = loopL f s (l.drop 0) ∧ loopOk f ok s (l.drop 0) ∧ Stp Z H (Own env σ) Z' H1 (Own (envS s) σ) ∧ Hld X.K Z' H1 σ (envS s) ∧ Fix M σ σ ∧ Stp Z1 H1 (Own (envS s0) σ) Z' H1 (Own (envS s) σ) :=
    fun {Z1 H1} s1 h1 => ⟨s0, Z1, rfl, hok, s1, h1, Fix.refl σ, Stp.refl ..⟩
  have turn : ∀ (Z1 : ZS) (H1 : Hp) (ws : List V), Hld X.K Z1 H1 σ (envS s0) → RepL X.K Z1 H1 (l.map enc) ws → ∀ (i : Nat) (x : V) (σ' : Stt) (H' : Hp), ws[i]? = some x →
      (∃ s Z', loopL f s0 l = loopL f s (l.drop i) ∧ loopOk f ok s (l.drop i) ∧ Stp Z H (Own env σ) Z' H' (Own (envS s) σ') ∧ Hld X.K Z' H' σ' (envS s) ∧ Fix M σ σ' ∧ Stp Z1 H1 (Own (envS s0) σ) Z' H' (Own (envS s) σ')) →
      wpG X tg x σ' H' fun σ2 H2 => wpSs X body { D with
        nx := fun σ'' H'' => ∃ s Z', loopL f s0 l = loopL f s (l.drop (i + 1)) ∧ loopOk f ok s (l.drop (i + 1)) ∧ Stp Z H (Own env σ) Z' H'' (Own (envS s) σ'') ∧ Hld X.K Z' H'' σ'' (envS s) ∧ Fix M σ σ'' ∧ Stp Z1 H1 (Own (envS s0) σ) Z' H'' (Own (envS s) σ''),
        ct := fun σ'' H'' => ∃ s Z', loopL f s0 l = loopL f s (l.drop (i + 1)) ∧ loopOk f ok s (l.drop (i + 1)) ∧ Stp Z H (Own env σ) Z' H'' (Own (envS s) σ'') ∧ Hld X.K Z' H'' σ'' (envS s) ∧ Fix M σ σ'' ∧ Stp Z1 H1 (Own (envS s0) σ) Z' H'' (Own (envS s) σ''),
        bk := D.nx } σ2 H2 := by
    intro Z1 H1 ws h1 rw1 i x σ' H' hx ⟨s, Z', e1, e2, st, hh, fx, st1⟩
    obtain ⟨v, hv, _⟩ := rw1.get' hx
    rw [List.getElem?_map] at hv
    obtain ⟨y, hy, rfl⟩ := Option.map_eq_some_iff.mp hv
    have hy' := List.getElem?_eq_some_iff.mp hy
    have ed : l.drop i = y :: l.drop (i + 1) := by rw [List.drop_eq_getElem_cons hy'.1, hy'.2]
    have hmem : y ∈ l := by rw [← hy'.2]; exact List.getElem_mem hy'.1
    rw [ed] at e1 e2
    obtain ⟨w', g, rv⟩ := rw1.get (i := i) (x := enc y) (by rw [List.getElem?_map, hy]; rfl)
    rw [hx] at g; cases g
    obtain ⟨envt, o, hg, hbd, lo⟩ := hb s y hmem e2.1
    have rv' : Rep X.K Z' H' (enc y) x := Rep.st st1.zm (h1.zk st1) _ rv
    refine hg Z' H' σ' _ x hh rv' fun Z2 H2 σ2 s2 h2 f2 => ?_
    refine hbd Z2 H2 σ2 _ h2 ?_
    have e3 : loopL f s0 l = (match f s y with | .nx s' => loopL f s' (l.drop (i + 1)) | .bk s' => .inl s' | .rt r => .inr r) := e1
    have e4 : (match f s y with | .nx s' => loopOk f ok s' (l.drop (i + 1)) | _ => True) := e2.2
    generalize hfy : f s y = z at lo e3 e4
    cases lo with
    | nx s' => exact fun Z3 H3 σ3 s3 h3 f3 => ⟨s', Z3, e3, e4, (st.trans s2).trans s3, h3, (fx.trans f2).trans f3, (st1.trans s2).trans s3⟩
    | bk s' =>
      rw [e3] at P
      exact fun Z3 H3 σ3 s3 h3 f3 => P Z3 H3 σ3 ((st.trans s2).trans s3) h3 ((fx.trans f2).trans f3)
    | rt r hl h2' h3' =>
      rw [e3] at P
      exact Post.rtD hl h2' h3' (P.mono (st.trans s2) (fx.trans f2))
  have fin : ∀ (Z1 : ZS) (H1 : Hp) (ws : List V), RepL X.K Z1 H1 (l.map enc) ws → ∀ (σ' : Stt) (H' : Hp), (∃ s Z', loopL f s0 l = loopL f s (l.drop ws.length) ∧ loopOk f ok s (l.drop ws.length) ∧ Stp Z H (Own env σ) Z' H' (Own (envS s) σ') ∧ Hld X.K Z' H' σ' (envS s) ∧ Fix M σ σ' ∧ Stp Z1 H1 (Own (envS s0) σ) Z' H' (Own (envS s) σ')) → D.nx σ' H' := by
    intro Z1 H1 ws rw1 σ' H' ⟨s, Z', e1, e2, st, hh, fx, _⟩
    have hl := rw1.length
    rw [List.length_map] at hl
    rw [← hl, List.drop_length] at e1
    rw [e1] at P
    exact P Z' H' σ' st hh fx
  cases hs with
  | tup xs =>
    refine wp_ps (ps_for hp hcalm (pi_tup (pe_wp iter)) (pg_wp tg) (pss_wp body) hf) ?_
    refine hi Z H σ _ hH fun Z1 H1 w s1 h1 r1 => ?_
    have r1' : Rep X.K Z1 H1 (.tup (l.map enc)) w := r1
    simp only [Rep] at r1'
    obtain ⟨a, ws, rfl, n, rr⟩ := r1'
    refine ⟨a, rfl, ⟨ws, n.sq⟩, ?_⟩
    exact for_tup (xs := ws) (fun i σ' H' => ∃ s Z', loopL f s0 l = loopL f s (l.drop i) ∧ loopOk f ok s (l.drop i) ∧ Stp Z H (Own env σ) Z' H' (Own (envS s) σ') ∧ Hld X.K Z' H' σ' (envS s) ∧ Fix M σ σ' ∧ Stp Z1 H1 (Own (envS s0) σ) Z' H' (Own (envS s) σ')) (Pv_start s1 h1)
      (fun i σ' H' _ ⟨s, Z', _, _, _, _, _, st1⟩ => (n.st st1.zm (h1.zk st1)).sq) (turn Z1 H1 ws h1 rr) (fin Z1 H1 ws rr)
  | lst xs =>
    refine wp_ps (ps_for hp hcalm (pi_list (pe_wp iter)) (pg_wp tg) (pss_wp body) hf) ?_
    refine hi Z H σ _ hH fun Z1 H1 w s1 h1 r1 => ?_
    have r1' : Rep X.K Z1 H1 (.lst (l.map enc)) w := r1
    simp only [Rep] at r1'
    obtain ⟨a, ws, rfl, n, rr⟩ := r1'
    refine ⟨a, rfl, ⟨ws, n.sq⟩, ?_⟩
    exact for_list (xs := ws) (fun i σ' H' => ∃ s Z', loopL f s0 l = loopL f s (l.drop i) ∧ loopOk f ok s (l.drop i) ∧ Stp Z H (Own env σ) Z' H' (Own (envS s) σ') ∧ Hld X.K Z' H' σ' (envS s) ∧ Fix M σ σ' ∧ Stp Z1 H1 (Own (envS s0) σ) Z' H' (Own (envS s) σ')) (Pv_start s1 h1)
      (fun i σ' H' _ ⟨s, Z', _, _, _, _, _, st1⟩ => (n.st st1.zm (h1.zk st1)).sq) (turn Z1 H1 ws h1 rr) (fin Z1 H1 ws rr)
/-- the ints of a range -/
def irange (lo hi : Int) : List Int := (List.range (hi - lo).toNat).map fun (k : Nat) => lo + (k : Int)
theorem irange_get {lo hi : Int} {i : Nat} (h : i < (hi - lo).toNat) : (irange lo hi)[i]? = some (lo + i) := by
  unfold irange
  rw [List.getElem?_map, List.getElem?_range h]; rfl
theorem irange_len (lo hi : Int) : (irange lo hi).length = (hi - lo).toNat := by unfold irange; simp
/-- for over a range -/
theorem for_rangeE {envS : S → En} {outR : R → Out} (f : S → Int → LO S R) (ok : S → Int → Prop) (lo hi : Int) (s0 : S) {Z Z1 : ZS} {H H1 : Hp} {σ : Stt} {D : Ends} (P : Post X M Z H (Own env σ) σ D (outL envS outR (loopL f s0 (irange lo hi))))
    (s1 : Stp Z H (Own env σ) Z1 H1 (Own (envS s0) σ)) (h1 : Hld X.K Z1 H1 σ (envS s0)) (hok : loopOk f ok s0 (irange lo hi))
    (hb : ∀ s x, x ∈ irange lo hi → ok s x → ∃ envt o, EvG X M tg (.int x) (envS s) envt ∧ EvSs X M body envt o ∧ Lo envS outR o (f s x)) :
    ∃ W : Nat → Nat → Stt → Hp → Prop, (∃ m, W 0 m σ H1) ∧ ∀ i m σ H, W i m σ H →
      ((Itr lo (hi - lo).toNat).stop i H ∧ D.nx σ H) ∨ ((Itr lo (hi - lo).toNat).go i H ∧ ∃ N : Stt → Hp → Prop, (∀ σ' H', N σ' H' → ∃ m', m' < m ∧ W (i + 1) m' σ' H') ∧ ∀ x H', (Itr lo (hi - lo).toNat).yld i H x H' → wpG X tg x σ H' fun σ2 H2 => wpSs X body { D with nx := N, ct := N, bk := D.nx } σ2 H2) := by
  refine for_range (fun i σ' H' => ∃ s Z', loopL f s0 (irange lo hi) = loopL f s ((irange lo hi).drop i) ∧ loopOk f ok s ((irange lo hi).drop i) ∧ Stp Z H (Own env σ) Z' H' (Own (envS s) σ') ∧ Hld X.K Z' H' σ' (envS s) ∧ Fix M σ σ') ⟨s0, Z1, rfl, hok, s1, h1, Fix.refl σ⟩ ?_ ?_
  · intro i σ' H' hlt ⟨s, Z', e1, e2, st, hh, fx⟩
    have hy := irange_get hlt
    have hy' := List.getElem?_eq_some_iff.mp hy
    have ed : (irange lo hi).drop i = (lo + i) :: (irange lo hi).drop (i + 1) := by rw [List.drop_eq_getElem_cons hy'.1, hy'.2]
    have hmem : lo + i ∈ irange lo hi := by rw [← hy'.2]; exact List.getElem_mem hy'.1
    rw [ed] at e1 e2
    obtain ⟨envt, o, hg, hbd, lo'⟩ := hb s _ hmem e2.1
    refine hg Z' H' σ' _ (.int (lo + i)) hh (rep_int _) fun Z2 H2 σ2 s2 h2 f2 => ?_
    refine hbd Z2 H2 σ2 _ h2 ?_
    have e3 : loopL f s0 (irange lo hi) = (match f s (lo + i) with | .nx s' => loopL f s' ((irange lo hi).drop (i + 1)) | .bk s' => .inl s' | .rt r => .inr r) := e1
    have e4 : (match f s (lo + i) with | .nx s' => loopOk f ok s' ((irange lo hi).drop (i + 1)) | _ => True) := e2.2
    generalize hfy : f s (lo + i) = z at lo' e3 e4
    cases lo' with
    | nx s' => exact fun Z3 H3 σ3 s3 h3 f3 => ⟨s', Z3, e3, e4, (st.trans s2).trans s3, h3, (fx.trans f2).trans f3⟩
    | bk s' =>
      rw [e3] at P
      exact fun Z3 H3 σ3 s3 h3 f3 => P Z3 H3 σ3 ((st.trans s2).trans s3) h3 ((fx.trans f2).trans f3)
    | rt r hl h2' h3' =>
      rw [e3] at P
      exact Post.rtD hl h2' h3' (P.mono (st.trans s2) (fx.trans f2))
  · intro σ' H' ⟨s, Z', e1, e2, st, hh, fx⟩
    rw [← irange_len, List.drop_length] at e1
    rw [e1] at P
    exact P Z' H' σ' st hh fx
theorem es_forR1 {envS : S → En} {outR : R → Out} {a : Expr} {p p' : Pos} (f : S → Int → LO S R) (ok : S → Int → Prop) (n : Int) (s0 : S) (hcalm : X.calm = true) (hp : PassesOwn (model X.prog X.w) X.A X.env X.xe) (hm : X.mg "range" = none)
    (ha : Ev X a env (.val (.int n)) (envS s0)) (hn : -(2 ^ 62) ≤ n ∧ n < 2 ^ 62) (hok : loopOk f ok s0 (irange 0 n))
    (hb : ∀ s x, x ∈ irange 0 n → ok s x → ∃ envt o, EvG X M tg (.int x) (envS s) envt ∧ EvSs X M body envt o ∧ Lo envS outR o (f s x)) (hg : Gl X "range" := by rfl) (hst : starEach [a] X.env = [(false, eval a X.env)] := by rfl)
    (hf : ∀ x, foldedSetIterable (.Call (.Name "range" p) [a] [] p') X.env x = pure x := by intro _; rfl) : EvS X M (.For tg (.Call (.Name "range" p) [a] [] p') body [] pos) env (outL envS outR (loopL f s0 (irange 0 n))) := fun Z H σ D hH P => by
  refine wp_ps (ps_for hp hcalm (pi_range1 hg hm (pa_wp [a]) hst) (pg_wp tg) (pss_wp body) hf) ?_
  refine (ea_cons ha ea_nil (by rw [hst]; rfl) : EvA X [a] env [.val (.int n)] (envS s0)) Z H σ _ hH fun Z1 H1 ws s1 h1 rs => ?_
  obtain ⟨w, rfl, r1⟩ := rep1 rs
  refine ⟨n, by rw [rep_int' (K := X.K) (Z := Z1) (H := H1) r1], hn.1, hn.2, ?_⟩
  have e : (n - 0).toNat = n.toNat := by rw [Int.sub_zero]
  have q := for_rangeE (X := X) (tg := tg) (body := body) f ok 0 n s0 P s1 h1 hok hb
  rw [e] at q
  exact q
theorem es_forR2 {envS : S → En} {outR : R → Out} {a b : Expr} {p p' : Pos} (f : S → Int → LO S R) (ok : S → Int → Prop) (m n : Int) (s0 : S) (hcalm : X.calm = true) (hp : PassesOwn (model X.prog X.w) X.A X.env X.xe) (hm : X.mg "range" = none)
    (ha : Ev X a env (.val (.int m)) env1) (hb' : Ev X b env1 (.val (.int n)) (envS s0)) (hn : (-(2 ^ 62) ≤ m ∧ m < 2 ^ 62) ∧ -(2 ^ 62) ≤ n ∧ n < 2 ^ 62) (hok : loopOk f ok s0 (irange m n))
    (hb : ∀ s x, x ∈ irange m n → ok s x → ∃ envt o, EvG X M tg (.int x) (envS s) envt ∧ EvSs X M body envt o ∧ Lo envS outR o (f s x)) (hg : Gl X "range" := by rfl) (hst : starEach [a, b] X.env = [(false, eval a X.env), (false, eval b X.env)] := by rfl) (hst2 : starEach [b] X.env = [(false, eval b X.env)] := by rfl)
    (hf : ∀ x, foldedSetIterable (.Call (.Name "range" p) [a, b] [] p') X.env x = pure x := by intro _; rfl) : EvS X M (.For tg (.Call (.Name "range" p) [a, b] [] p') body [] pos) env (outL envS outR (loopL f s0 (irange m n))) := fun Z H σ D hH P => by
  refine wp_ps (ps_for hp hcalm (pi_range2 hg hm (pa_wp [a, b]) hst hst2) (pg_wp tg) (pss_wp body) hf) ?_
  refine (ea_cons ha (ea_cons hb' ea_nil (by rw [hst2]; rfl)) (by rw [hst, hst2]) : EvA X [a, b] env [.val (.int m), .val (.int n)] (envS s0)) Z H σ _ hH fun Z1 H1 ws s1 h1 rs => ?_
  obtain ⟨w, w', rfl, r1, r2⟩ := rep2 rs
  refine ⟨m, n, by rw [rep_int' (K := X.K) (Z := Z1) (H := H1) r1, rep_int' (K := X.K) (Z := Z1) (H := H1) r2], ⟨hn.1.1, hn.1.2, hn.2.1, hn.2.2⟩, ?_⟩
  exact for_rangeE (X := X) (tg := tg) (body := body) f ok m n s0 P s1 h1 hok hb

/-! ### while -/
/-- so many turns at most; what leaves, or the state when the test fails -/
def whileL {S R : Type} (c : S → Bool) (f : S → LO S R) : Nat → S → S ⊕ R
  | 0, s => .inl s
  | n + 1, s => if c s = true then (match f s with
    | .nx s' => whileL c f n s'
    | .bk s' => .inl s'
    | .rt r => .inr r) else .inl s
/-- it comes to an end within so many turns, each of which is allowed -/
def whileOk {S R : Type} (c : S → Bool) (f : S → LO S R) (okc ok : S → Prop) : Nat → S → Prop
  | 0, s => okc s ∧ c s = false
  | n + 1, s => okc s ∧ (c s = true → ok s ∧ match f s with
    | .nx s' => whileOk c f okc ok n s'
    | _ => True)
theorem es_while {envS : S → En} {outR : R → Out} (cs : S → Bool) (f : S → LO S R) (okc ok : S → Prop) (n : Nat) (s0 : S) (hp : PassesOwn (model X.prog X.w) X.A X.env X.xe) (hok : whileOk cs f okc ok n s0)
    (hc : ∀ s, okc s → EvT X c (envS s) (cs s) (envS s)) (hb : ∀ s, ok s → cs s = true → ∃ o, EvSs X M body (envS s) o ∧ Lo envS outR o (f s)) : EvS X M (.While c body [] pos) (envS s0) (outL envS outR (whileL cs f n s0)) := fun Z H σ D hH P => by
  refine wp_ps (ps_while hp (pt_wp c) (pss_wp body)) ?_
  refine ⟨fun m σ' H' => ∃ s Z', whileL cs f n s0 = whileL cs f m s ∧ whileOk cs f okc ok m s ∧ Stp Z H (Own (envS s0) σ) Z' H' (Own (envS s) σ') ∧ Hld X.K Z' H' σ' (envS s) ∧ Fix M σ σ', ⟨n, s0, Z, rfl, hok, Stp.refl .., hH, Fix.refl σ⟩, ?_⟩
  rintro m σ' H' ⟨s, Z', e1, e2, st, hh, fx⟩
  have okc_s : okc s := by cases m with | zero => exact e2.1 | succ m => exact e2.1
  refine hc s okc_s Z' H' σ' _ hh fun Z2 H2 s2 h2 => ?_
  cases hcs : cs s with
  | false =>
    rw [if_neg (by decide)]
    have e3 : whileL cs f m s = .inl s := by
      cases m with
      | zero => rfl
      | succ m => show (if cs s = true then _ else _) = _; rw [hcs]; rfl
    rw [e1, e3] at P
    exact P Z2 H2 σ' (st.trans s2) h2 fx
  | true =>
    rw [if_pos rfl]
    cases m with
    | zero => have q := e2.2; rw [hcs] at q; cases q
    | succ m =>
      have e3 : whileL cs f (m + 1) s = (match f s with | .nx s' => whileL cs f m s' | .bk s' => .inl s' | .rt r => .inr r) := by
        show (if cs s = true then _ else _) = _
        rw [hcs]; rfl
      obtain ⟨ok_s, e4⟩ := e2.2 hcs
      refine ⟨fun σ'' H'' => ∃ s Z', whileL cs f n s0 = whileL cs f m s ∧ whileOk cs f okc ok m s ∧ Stp Z H (Own (envS s0) σ) Z' H'' (Own (envS s) σ'') ∧ Hld X.K Z' H'' σ'' (envS s) ∧ Fix M σ σ'', fun σ'' H'' q => ⟨m, Nat.lt_succ_self m, q⟩, ?_⟩
      obtain ⟨o, hbd, lo⟩ := hb s ok_s hcs
      refine hbd Z2 H2 σ' _ h2 ?_
      rw [e3] at e1
      generalize hfy : f s = z at lo e1 e4
      cases lo with
      | nx s' => exact fun Z3 H3 σ3 s3 h3 f3 => ⟨s', Z3, e1, e4, (st.trans s2).trans s3, h3, fx.trans f3⟩
      | bk s' =>
        rw [e1] at P
        exact fun Z3 H3 σ3 s3 h3 f3 => P Z3 H3 σ3 ((st.trans s2).trans s3) h3 (fx.trans f3)
      | rt r hl h2' h3' =>
        rw [e1] at P
        exact Post.rtD hl h2' h3' (P.mono (st.trans s2) fx)
end
end VL

/-! VL8: list comprehensions. -/
namespace VL
open PySem PySem.Spec PyProof.Rows L2

theorem Stp.more {Z : ZS} {H : Hp} {O Z' : ZS} {H' : Hp} {O' : ZS} (P : ZS) (s : Stp Z H O Z' H' O') : Stp Z H (fun a => O a ∨ P a) Z' H' (fun a => O' a ∨ P a) :=
  ⟨fun a o e n => s.keep a o e fun h => n (.inl h), s.zm, fun a z => by
    rcases s.zn a z with h | h | h
    · exact .inl h
    · exact .inr (.inl (.inl h))
    · exact .inr (.inr h), fun a z => by
    rcases z with z | z
    · rcases s.on a z with h | h
      · exact .inl (.inl h)
      · exact .inr h
    · exact .inl (.inr z), s.dom⟩
/-! ### slots wiped -/
def wipeE (env : En) : List Nat → En
  | [] => env
  | v :: vs => (wipeE env vs).set v .no
theorem wipeE_len (env : En) : ∀ vs : List Nat, (wipeE env vs).length = env.length
  | [] => rfl
  | v :: vs => by unfold wipeE; rw [List.length_set, wipeE_len env vs]
theorem wipeE_in {env : En} {i : Nat} {s : Sl} : ∀ {vs : List Nat}, i ∈ vs → (wipeE env vs)[i]? = some s → s = .no
  | v :: vs, h, e => by
    unfold wipeE at e
    by_cases q : v = i
    · rcases get_set_some e with ⟨_, e'⟩ | ⟨n, _⟩
      · exact e'
      · exact absurd q.symm n
    · rw [List.getElem?_set_ne q] at e
      rcases List.mem_cons.mp h with h | h
      · exact absurd h.symm q
      · exact wipeE_in h e
theorem wipeE_out {env : En} {i : Nat} : ∀ {vs : List Nat}, i ∉ vs → (wipeE env vs)[i]? = env[i]?
  | [], _ => rfl
  | v :: vs, h => by
    unfold wipeE
    rw [List.getElem?_set_ne (fun q => h (by rw [q]; exact List.mem_cons_self))]
    exact wipeE_out fun q => h (List.mem_cons_of_mem _ q)
theorem wipe_out {σ : Stt} {i : Nat} : ∀ {vs : List Nat}, i ∉ vs → (wipe σ vs)[i]? = σ[i]?
  | [], _ => rfl
  | v :: vs, h => by
    unfold wipe
    rw [List.getElem?_set_ne (fun q => h (by rw [q]; exact List.mem_cons_self))]
    exact wipe_out fun q => h (List.mem_cons_of_mem _ q)
theorem wipe_in {σ : Stt} {i : Nat} : ∀ {vs : List Nat}, i ∈ vs → i < σ.length → (wipe σ vs)[i]? = some none
  | v :: vs, h, hi => by
    unfold wipe
    by_cases q : v = i
    · rw [q]; exact List.getElem?_set_self (by rw [wipe_length]; exact hi)
    · rw [List.getElem?_set_ne q]
      rcases List.mem_cons.mp h with h | h
      · exact absurd h.symm q
      · exact wipe_in h hi
def oth (n : Nat) (vs : List Nat) : List Nat := (List.range n).filter fun i => decide (i ∉ vs)
theorem wipe_fix {σ σ' : Stt} {vs : List Nat} (hl : σ'.length = σ.length) (f : Fix (oth σ.length vs) (wipe σ vs) σ') : wipe σ' vs = wipe σ vs := by
  refine List.ext_getElem? fun i => ?_
  by_cases hi : i < σ.length
  · by_cases hv : i ∈ vs
    · rw [wipe_in hv hi, wipe_in hv (by omega)]
    · rw [wipe_out hv, f i (List.mem_filter.mpr ⟨List.mem_range.mpr hi, decide_eq_true hv⟩)]
  · rw [List.getElem?_eq_none (by rw [wipe_length]; omega), List.getElem?_eq_none (by rw [wipe_length]; omega)]
section
variable {K : PySem.W.Frag} {Z Z' : ZS} {H H' : Hp} {σ σ' : Stt} {env env' envt : En} {vs : List Nat}
theorem wipe_own {a : Addr} (o : Own (wipeE env vs) (wipe σ vs) a) : ∃ i v, i ∉ vs ∧ env[i]? = some (Sl.ow v) ∧ σ[i]? = some (some (V.ref a)) := by
  obtain ⟨i, v, e, q⟩ := o
  by_cases hv : i ∈ vs
  · exact absurd (wipeE_in hv e) (by intro z; cases z)
  · rw [wipeE_out hv] at e
    rw [wipe_out hv] at q
    exact ⟨i, v, hv, e, q⟩
theorem Hld.wipe (h : Hld K Z H σ env) (vs : List Nat) : Hld K Z H (wipe σ vs) (wipeE env vs) := by
  refine ⟨fun i s e => ?_, fun i j v u a e1 e2 q1 q2 => ?_, h.zd, by rw [wipeE_len, wipe_length]; exact h.len⟩
  · by_cases hv : i ∈ vs
    · rw [wipeE_in hv e]; trivial
    · rw [wipeE_out hv] at e
      have q := h.sl i s e
      cases s with
      | no => trivial
      | im v => obtain ⟨w, s, r⟩ := (show ∃ w, σ[i]? = some (some w) ∧ Rep K Z H v w from q); exact ⟨w, (wipe_out hv).trans s, r⟩
      | ow v => obtain ⟨a, s, r⟩ := (show ∃ a, σ[i]? = some (some (V.ref a)) ∧ Top K Z H v a ∧ ¬ Z a from q); exact ⟨a, (wipe_out hv).trans s, r⟩
  · by_cases h1 : i ∈ vs
    · exact absurd (wipeE_in h1 e1) (by intro z; cases z)
    · by_cases h2 : j ∈ vs
      · exact absurd (wipeE_in h2 e2) (by intro z; cases z)
      · rw [wipeE_out h1] at e1
        rw [wipeE_out h2] at e2
        rw [wipe_out h1] at q1
        rw [wipe_out h2] at q2
        exact h.inj i j v u a e1 e2 q1 q2
/-- behind a block: its own names forgotten, what they held outside is there again -/
theorem Hld.unwipe (h : Hld K Z H σ env) (s : Stp Z H (Own (wipeE env vs) (L2.wipe σ vs)) Z' H' (Own envt σ')) (h' : Hld K Z' H' σ' envt) (f : Fix (oth σ.length vs) (L2.wipe σ vs) σ') (hw : wipeE envt vs = wipeE env' vs) (hv : ∀ i ∈ vs, env'[i]? = env[i]?) (hl : env'.length = env.length) :
    Hld K Z' H' σ env' ∧ Stp Z H (Own env σ) Z' H' (Own env' σ) := by
  have ow : ∀ a, Own (wipeE env vs) (L2.wipe σ vs) a → Own env σ a := fun a o => by
    obtain ⟨i, v, _, e, q⟩ := wipe_own o
    exact ⟨i, v, e, q⟩
  -- an address outside stays outside
  have out : ∀ i v a, i ∈ vs → env[i]? = some (Sl.ow v) → σ[i]? = some (some (V.ref a)) → ¬ Own (wipeE env vs) (L2.wipe σ vs) a := fun i v a hi e q o => by
    obtain ⟨j, u, hj, e', q'⟩ := wipe_own o
    exact hj (by rw [h.inj j i u v a e' e q' q]; exact hi)
  have blk : ∀ i v, i ∉ vs → env'[i]? = some (Sl.ow v) → envt[i]? = some (Sl.ow v) := fun i v hi e => by
    have g : (wipeE envt vs)[i]? = (wipeE env' vs)[i]? := by rw [hw]
    rw [wipeE_out hi, wipeE_out hi] at g
    rw [g]; exact e
  have sig : ∀ i v, i ∉ vs → env'[i]? = some v → σ'[i]? = σ[i]? := fun i v hi e => by
    have lt : i < σ.length := by rw [← h.len, ← hl]; exact (List.getElem?_eq_some_iff.mp e).1
    rw [f i (List.mem_filter.mpr ⟨List.mem_range.mpr lt, decide_eq_true hi⟩), wipe_out hi]
  have own' : ∀ a, Own env' σ a → Own env σ a ∨ H a = none := fun a ⟨i, v, e, q⟩ => by
    by_cases hi : i ∈ vs
    · rw [hv i hi] at e
      exact .inl ⟨i, v, e, q⟩
    · rcases s.on a ⟨i, v, blk i v hi e, by rw [sig i _ hi e]; exact q⟩ with o | o
      · exact .inl (ow a o)
      · exact .inr o
  have kz : ∀ b u, Z b → H b = some u → H' b = some u := fun b u z e => s.keep b u e fun o => h.oz (ow b o) z
  refine ⟨⟨fun i sl e => ?_, fun i j v u a e1 e2 q1 q2 => ?_, h'.zd, hl.trans h.len⟩, ⟨fun a o e n => s.keep a o e fun q => n (ow a q), s.zm, fun a z => ?_, own', s.dom⟩⟩
  · by_cases hi : i ∈ vs
    · rw [hv i hi] at e
      have q := h.sl i sl e
      cases sl with
      | no => trivial
      | im v => obtain ⟨w, sw, r⟩ := (show ∃ w, σ[i]? = some (some w) ∧ Rep K Z H v w from q); exact ⟨w, sw, Rep.st s.zm kz v r⟩
      | ow v =>
        obtain ⟨a, sa, t, nz⟩ := (show ∃ a, σ[i]? = some (some (V.ref a)) ∧ Top K Z H v a ∧ ¬ Z a from q)
        have no := out i v a hi e sa
        refine ⟨a, sa, Top.st s.zm kz (fun o x => s.keep a o x no) t, fun z => ?_⟩
        rcases s.zn a z with z | z | z
        · exact nz z
        · exact no z
        · obtain ⟨o, x⟩ := t.there; rw [z] at x; cases x
    · have g : (wipeE envt vs)[i]? = (wipeE env' vs)[i]? := by rw [hw]
      rw [wipeE_out hi, wipeE_out hi, e] at g
      have q := h'.sl i sl g
      have es := sig i sl hi e
      cases sl with
      | no => trivial
      | im v => obtain ⟨w, sw, r⟩ := (show ∃ w, σ'[i]? = some (some w) ∧ Rep K Z' H' v w from q); exact ⟨w, es.symm.trans sw, r⟩
      | ow v => obtain ⟨a, sa, r⟩ := (show ∃ a, σ'[i]? = some (some (V.ref a)) ∧ Top K Z' H' v a ∧ ¬ Z' a from q); exact ⟨a, es.symm.trans sa, r⟩
  · by_cases hi : i ∈ vs
    · rw [hv i hi] at e1
      by_cases hj : j ∈ vs
      · rw [hv j hj] at e2
        exact h.inj i j v u a e1 e2 q1 q2
      · exfalso
        rcases s.on a ⟨j, u, blk j u hj e2, by rw [sig j _ hj e2]; exact q2⟩ with o | o
        · exact out i v a hi e1 q1 o
        · obtain ⟨o', x⟩ := h.od ⟨i, v, e1, q1⟩; rw [o] at x; cases x
    · by_cases hj : j ∈ vs
      · rw [hv j hj] at e2
        exfalso
        rcases s.on a ⟨i, v, blk i v hi e1, by rw [sig i _ hi e1]; exact q1⟩ with o | o
        · exact out j u a hj e2 q2 o
        · obtain ⟨o', x⟩ := h.od ⟨j, u, e2, q2⟩; rw [o] at x; cases x
      · exact h'.inj i j v u a (blk i v hi e1) (blk j u hj e2) (by rw [sig i _ hi e1]; exact q1) (by rw [sig j _ hj e2]; exact q2)
  · rcases s.zn a z with z | z | z
    · exact .inl z
    · exact .inr (.inl (ow a z))
    · exact .inr (.inr z)
/-- a tracked object that nobody's slot has and that is not known is changed -/
theorem Hld.bump {D : Addr} {o u : HO} (h : Hld K Z H σ env) (e : H D = some u) (nz : ¬ Z D) (no : ¬ Own env σ D) : Hld K Z (upd H D o) σ env ∧ (∀ b x, Z b → H b = some x → upd H D o b = some x) := by
  have zk : ∀ b x, Z b → H b = some x → upd H D o b = some x := fun b x z q => by
    rw [upd_ne (fun y : b = D => nz (by rw [← y]; exact z))]; exact q
  refine ⟨⟨fun i s q => ?_, h.inj, fun a z => ?_, h.len⟩, zk⟩
  · have r := h.sl i s q
    cases s with
    | no => trivial
    | im v => obtain ⟨w, sw, r⟩ := (show ∃ w, σ[i]? = some (some w) ∧ Rep K Z H v w from r); exact ⟨w, sw, Rep.st (fun _ z => z) zk v r⟩
    | ow v =>
      obtain ⟨a, sa, t, nz'⟩ := (show ∃ a, σ[i]? = some (some (V.ref a)) ∧ Top K Z H v a ∧ ¬ Z a from r)
      exact ⟨a, sa, Top.st (fun _ z => z) zk (fun x y => by rw [upd_ne (fun w => no (by rw [← w]; exact ⟨i, v, q, sa⟩))]; exact y) t, nz'⟩
  · obtain ⟨x, q⟩ := h.zd a z
    exact ⟨x, zk a x z q⟩
end
/-! ### what is gone through -/
def KeepZ (Z : ZS) (H H' : Hp) : Prop := ∀ b u, Z b → H b = some u → H' b = some u
structure ItV (K : PySem.W.Frag) (Z : ZS) (H : Hp) (J : It) (vals : List Val) : Prop where
  stop : ∀ H', KeepZ Z H H' → J.stop vals.length H'
  go : ∀ i H', i < vals.length → KeepZ Z H H' → J.go i H'
  yld : ∀ (i : Nat) (x : V) (Z' : ZS) (H' H'' : Hp) (σ : Stt) (env : En), (∀ b, Z b → Z' b) → KeepZ Z H H' → Hld K Z' H' σ env → J.yld i H' x H'' → ∀ v, vals[i]? = some v →
    ∃ Z'', Stp Z' H' (Own env σ) Z'' H'' (Own env σ) ∧ Hld K Z'' H'' σ env ∧ Rep K Z'' H'' v x
  keepD : ∀ (i : Nat) (x : V) (H' H'' : Hp), J.yld i H' x H'' → ∀ b u, H' b = some u → H'' b = some u
def SrcR (K : PySem.W.Frag) (wi : TI) (env : En) (vals : List Val) (env1 : En) : Prop := ∀ (Z : ZS) (H : Hp) (σ : Stt) (R : It → Hp → Prop), Hld K Z H σ env →
  (∀ Z1 H1 J, Stp Z H (Own env σ) Z1 H1 (Own env1 σ) → Hld K Z1 H1 σ env1 → ItV K Z1 H1 J vals → vals.length ≤ sizeLine → R J H1) → wi σ H R
section
variable {K : PySem.W.Frag} {Z Z' : ZS} {H H' : Hp}
theorem itv_tup {a : Addr} {ws : List V} {vals : List Val} (n : NT K Z H a ws) (r : RepL K Z H vals ws) (zd : ∀ a, Z a → ∃ o, H a = some o) : ItV K Z H (Itt K a) vals where
  stop := fun H' k => ⟨ws, (n.st (Z' := Z) (fun _ z => z) k).sq, by rw [r.length]; exact Nat.le_refl _⟩
  go := fun i H' hi k => ⟨ws, ws[i]'(by rw [← r.length]; exact hi), (n.st (Z' := Z) (fun _ z => z) k).sq, List.getElem?_eq_getElem _⟩
  yld := fun i x Z' H' H'' σ env zm k h y v hv => by
    obtain ⟨rfl, y⟩ := y
    refine ⟨Z', Stp.refl .., h, ?_⟩
    obtain ⟨w, g, rv⟩ := r.get hv
    have e := y ws (n.st (Z' := Z) (fun _ z => z) k).sq
    rw [g] at e; cases e
    exact Rep.st zm k v rv
  keepD := fun i x H' H'' y b u e => by rw [y.1]; exact e
theorem itv_lst {a : Addr} {ws : List V} {vals : List Val} (n : NL K Z H a ws) (r : RepL K Z H vals ws) (zd : ∀ a, Z a → ∃ o, H a = some o) : ItV K Z H (Itl K a) vals where
  stop := fun H' k => ⟨ws, (n.st (Z' := Z) (fun _ z => z) k).sq, by rw [r.length]; exact Nat.le_refl _⟩
  go := fun i H' hi k => ⟨ws, ws[i]'(by rw [← r.length]; exact hi), (n.st (Z' := Z) (fun _ z => z) k).sq, List.getElem?_eq_getElem _⟩
  yld := fun i x Z' H' H'' σ env zm k h y v hv => by
    obtain ⟨rfl, y⟩ := y
    refine ⟨Z', Stp.refl .., h, ?_⟩
    obtain ⟨w, g, rv⟩ := r.get hv
    have e := y ws (n.st (Z' := Z) (fun _ z => z) k).sq
    rw [g] at e; cases e
    exact Rep.st zm k v rv
  keepD := fun i x H' H'' y b u e => by rw [y.1]; exact e
theorem itv_rng {lo hi : Int} : ItV K Z H (Itr lo (hi - lo).toNat) ((irange lo hi).map Val.int) where
  stop := fun H' k => by rw [List.length_map, irange_len]; exact Nat.le_refl _
  go := fun i H' hi k => by rw [List.length_map, irange_len] at hi; exact hi
  yld := fun i x Z' H' H'' σ env zm k h y v hv => by
    obtain ⟨rfl, rfl⟩ := y
    refine ⟨Z', Stp.refl .., h, ?_⟩
    rw [List.getElem?_map] at hv
    obtain ⟨z, hz, rfl⟩ := Option.map_eq_some_iff.mp hv
    have hlt := (List.getElem?_eq_some_iff.mp hz).1
    rw [irange_len] at hlt
    rw [irange_get hlt] at hz
    cases hz
    exact rep_int _
  keepD := fun i x H' H'' y b u e => by rw [y.1]; exact e
end
section
variable {X : Cx} {tg iter a b : Expr} {env env1 env2 : En} {xs : List Val} {m n : Int} {p pos : Pos}
theorem src_tup (h : Ev X iter env (.val (.tup xs)) env1) : SrcR X.K (iTup X.K (wpE X iter)) env xs env1 := fun Z H σ R hH k =>
  h Z H σ _ hH fun Z1 H1 w s h1 r => by
    have hz := (show RepT X.K Z1 H1 (.tup xs) w from .inl r).szT
    have r' : Rep X.K Z1 H1 (.tup xs) w := r
    simp only [Rep] at r'
    obtain ⟨a, ws, rfl, n, rr⟩ := r'
    exact ⟨a, rfl, ⟨ws, n.sq⟩, k Z1 H1 _ s h1 (itv_tup n rr h1.zd) hz⟩
theorem src_lst (h : Ev X iter env (.val (.lst xs)) env1) : SrcR X.K (iList X.K (wpE X iter)) env xs env1 := fun Z H σ R hH k =>
  h Z H σ _ hH fun Z1 H1 w s h1 r => by
    have hz := (show RepT X.K Z1 H1 (.lst xs) w from .inl r).szL
    have r' : Rep X.K Z1 H1 (.lst xs) w := r
    simp only [Rep] at r'
    obtain ⟨a, ws, rfl, n, rr⟩ := r'
    exact ⟨a, rfl, ⟨ws, n.sq⟩, k Z1 H1 _ s h1 (itv_lst n rr h1.zd) hz⟩
theorem src_r1 (ha : Ev X a env (.val (.int n)) env1) (hn : n ≤ 16777216 ∧ -(2 ^ 62) ≤ n) (hst : starEach [a] X.env = [(false, eval a X.env)] := by rfl) : SrcR X.K (iRng1 (wpA X [a])) env ((irange 0 n).map Val.int) env1 := fun Z H σ R hH k =>
  (ea_cons ha ea_nil (by rw [hst]; rfl) : EvA X [a] env [.val (.int n)] env1) Z H σ _ hH fun Z1 H1 ws s h1 rs => by
    obtain ⟨w, rfl, r1⟩ := rep1 rs
    refine ⟨n, by rw [rep_int' (K := X.K) (Z := Z1) (H := H1) r1], hn.2, by omega, ?_⟩
    have q := k Z1 H1 (Itr 0 (n - 0).toNat) s h1 itv_rng (by rw [List.length_map, irange_len, sizeLine_eq]; omega)
    rw [Int.sub_zero] at q
    exact q
theorem src_r2 (ha : Ev X a env (.val (.int m)) env1) (hb : Ev X b env1 (.val (.int n)) env2) (hn : n ≤ m + 16777216 ∧ -(2 ^ 62) ≤ n ∧ n < 2 ^ 62 ∧ -(2 ^ 62) ≤ m ∧ m < 2 ^ 62) (hst : starEach [a, b] X.env = [(false, eval a X.env), (false, eval b X.env)] := by rfl) (hst2 : starEach [b] X.env = [(false, eval b X.env)] := by rfl) :
    SrcR X.K (iRng2 (wpA X [a, b])) env ((irange m n).map Val.int) env2 := fun Z H σ R hH k =>
  (ea_cons ha (ea_cons hb ea_nil (by rw [hst2]; rfl)) (by rw [hst, hst2]) : EvA X [a, b] env [.val (.int m), .val (.int n)] env2) Z H σ _ hH fun Z1 H1 ws s h1 rs => by
    obtain ⟨w, w', rfl, r1, r2⟩ := rep2 rs
    exact ⟨m, n, by rw [rep_int' (K := X.K) (Z := Z1) (H := H1) r1, rep_int' (K := X.K) (Z := Z1) (H := H1) r2], ⟨hn.2.2.2.1, hn.2.2.2.2, hn.2.1, hn.2.2.1⟩, k Z1 H1 _ s h1 itv_rng (by rw [List.length_map, irange_len, sizeLine_eq]; omega)⟩
end
/-! ### a comprehension's block -/
abbrev Bk (X : Cx) (scope : Scope) (s : Shared) (H : Hp) (C : Addr) (cl : List (Str × Addr)) (fp : List Addr) : Cx := X.blk s H scope (compEnvC scope cl C X.env) fp
def gA (X : Cx) (scope : Scope) (tg : Expr) : TG := fun v σ H Q => ∀ s H0 C cl fp, wpG (Bk X scope s H0 C cl fp) tg v σ H Q
def tA (X : Cx) (scope : Scope) : List Expr → TT
  | [] => tYes
  | c :: _ => fun σ H Q => ∀ s H0 C cl fp, wpT (Bk X scope s H0 C cl fp) c σ H Q
def eA (X : Cx) (scope : Scope) (e : Expr) : TE := fun σ H Q => ∀ s H0 C cl fp, wpE (Bk X scope s H0 C cl fp) e σ H Q
theorem pg_A (X : Cx) (scope : Scope) (tg : Expr) (s : Shared) (H : Hp) (C : Addr) (cl : List (Str × Addr)) (fp : List Addr) : PG (Bk X scope s H C cl fp) tg (gA X scope tg) := ⟨fun pins s' σ H' v u Q I r h => h s H C cl fp pins s' u I r⟩
theorem pe_A (X : Cx) (scope : Scope) (e : Expr) (s : Shared) (H : Hp) (C : Addr) (cl : List (Str × Addr)) (fp : List Addr) : PE (Bk X scope s H C cl fp) e (eA X scope e) := ⟨fun pins s' σ H' Q I h => h s H C cl fp pins s' I⟩
theorem pts_A0 (X : Cx) (scope : Scope) (s : Shared) (H : Hp) (C : Addr) (cl : List (Str × Addr)) (fp : List Addr) : PTs (Bk X scope s H C cl fp) [] (tA X scope []) := pts_nil
theorem pts_A1 (X : Cx) (scope : Scope) (c : Expr) (s : Shared) (H : Hp) (C : Addr) (cl : List (Str × Addr)) (fp : List Addr) : PTs (Bk X scope s H C cl fp) [c] (tA X scope [c]) := pts_one ⟨fun pins s' σ H' Q I h => h s H C cl fp pins s' I⟩
/-- a test of a clause; none is True -/
def EvTA (X : Cx) (scope : Scope) (ifs : List Expr) (env : En) (b : Bool) (env' : En) : Prop := ∀ (Z : ZS) (H : Hp) (σ : Stt) (Q : Bool → Hp → Prop), Hld X.K Z H σ env →
  (∀ Z' H', Stp Z H (Own env σ) Z' H' (Own env' σ) → Hld X.K Z' H' σ env' → Q b H') → tA X scope ifs σ H Q
theorem eta_nil {X : Cx} {scope : Scope} {env : En} : EvTA X scope [] env true env := fun Z H σ Q hH k => k Z H (Stp.refl ..) hH
theorem eta_one {X : Cx} {scope : Scope} {c : Expr} {env env' : En} {b : Bool} (h : ∀ s H0 C cl fp, EvT (Bk X scope s H0 C cl fp) c env b env') : EvTA X scope [c] env b env' := fun Z H σ Q hH k s H0 C cl fp => h s H0 C cl fp Z H σ Q hH k

/-- what a comprehension gathers: p tells whether an item is in, g gives its value and the state behind it -/
def lcL {α β S : Type} (p : S → α → Bool) (g : S → α → β × S) : S → List α → List β × S
  | s, [] => ([], s)
  | s, x :: xs => if p s x = true then ((g s x).1 :: (lcL p g (g s x).2 xs).1, (lcL p g (g s x).2 xs).2) else lcL p g s xs
def lcOk {α β S : Type} (p : S → α → Bool) (g : S → α → β × S) (okp okg : S → α → Prop) : S → List α → Prop
  | _, [] => True
  | s, x :: xs => okp s x ∧ if p s x = true then okg s x ∧ lcOk p g okp okg (g s x).2 xs else lcOk p g okp okg s xs
theorem lcL_pure {α β : Type} (p : α → Bool) (g : α → β) : ∀ (xs : List α), lcL (S := Unit) (fun _ x => p x) (fun _ x => (g x, ())) () xs = ((xs.filter p).map g, ())
  | [] => rfl
  | x :: xs => by
    have ih := lcL_pure p g xs
    unfold lcL
    by_cases h : p x = true
    · rw [if_pos h, ih, List.filter_cons_of_pos h]; rfl
    · rw [if_neg h, ih, List.filter_cons_of_neg h]
theorem lcOk_pure {α β : Type} {p : α → Bool} {g : α → β} {okp okg : α → Prop} : ∀ {xs : List α}, (∀ x ∈ xs, okp x ∧ (p x = true → okg x)) → lcOk (S := Unit) (fun _ x => p x) (fun _ x => (g x, ())) (fun _ x => okp x) (fun _ x => okg x) () xs
  | [], _ => trivial
  | x :: xs, h => by
    refine ⟨(h x List.mem_cons_self).1, ?_⟩
    have ih := lcOk_pure (g := g) (xs := xs) fun y hy => h y (List.mem_cons_of_mem _ hy)
    by_cases hp : p x = true
    · rw [if_pos hp]; exact ⟨(h x List.mem_cons_self).2 hp, ih⟩
    · rw [if_neg hp]; exact ih
section
variable {X : Cx} {scope : Scope} {tg elt : Expr} {ifs : List Expr} {wi : TI} {env : En} {vs : List Nat} {α β S : Type}
/-- the reading of a comprehension -/
theorem lcN (envS : S → En) (s0 : S) (encA : α → Val) (encB : β → Val) (l : List α) (p : S → α → Bool) (g : S → α → β × S) (okp okg : S → α → Prop) (N : Nat) (hsrc : SrcR X.K wi env (l.map encA) (envS s0)) (hok : lcOk p g okp okg s0 l) (hN : ∀ s, (envS s).length = N)
    (ht : ∀ s x, x ∈ l → okp s x → ∃ envx, (∀ s' H0 C cl fp, EvG (Bk X scope s' H0 C cl fp) (oth N vs) tg (encA x) (wipeE (envS s) vs) envx) ∧ wipeE envx vs = wipeE (envS s) vs ∧ EvTA X scope ifs envx (p s x) envx ∧
      (p s x = true → okg s x → ∃ envy, (∀ s' H0 C cl fp, Ev (Bk X scope s' H0 C cl fp) elt envx (.val (encB (g s x).1)) envy) ∧ wipeE envy vs = wipeE (envS (g s x).2) vs ∧ ∀ i ∈ vs, (envS (g s x).2)[i]? = (envS s)[i]?)) :
    EvNR X.K (tLc wi (gA X scope tg) (tA X scope ifs) (eA X scope elt) vs) env (.lst ((lcL p g s0 l).1.map encB)) (envS (lcL p g s0 l).2) := fun Z H σ Q hH k => by
  refine hsrc Z H σ _ hH fun Z1 H1 J s1 h1 it hz D hD => ?_
  rw [List.length_map] at hz
  have hDz : ¬ Z1 D := h1.fz hD
  have hDo : ¬ Own (envS s0) σ D := h1.fo hD
  have hD0 : H D = none := s1.back hD
  let Pv : Nat → Hp → Prop := fun i H' => ∃ (s : S) (Z' : ZS) (dn : List β) (acc : List V), (lcL p g s0 l) = (dn ++ (lcL p g s (l.drop i)).1, (lcL p g s (l.drop i)).2) ∧ lcOk p g okp okg s (l.drop i) ∧ dn.length ≤ i ∧
    Stp Z H (Own env σ) Z' H' (fun a => Own (envS s) σ a ∨ a = D) ∧ (∀ a, Z1 a → Z' a) ∧ KeepZ Z1 H1 H' ∧ Hld X.K Z' H' σ (envS s) ∧ H' D = some (.lst acc) ∧ RepL X.K Z' H' (dn.map encB) acc ∧ ¬ Z' D ∧ ¬ Own (envS s) σ D
  have start : Pv 0 (upd H1 D (.lst [])) := by
    obtain ⟨h2, s2, nz, no⟩ := h1.newO (o := .lst []) hD
    refine ⟨s0, Z1, [], [], rfl, hok, Nat.le_refl _, ⟨(s1.trans s2).keep, s1.zm, s1.zn, fun a o => ?_, (s1.trans s2).dom⟩, fun _ z => z, fun b u z e => by rw [upd_ne (fun q : b = D => hDz (by rw [← q]; exact z))]; exact e, h2, upd_same, RepL.nil, nz, no⟩
    rcases o with o | rfl
    · exact s1.on a o
    · exact .inr hD0
  refine ⟨fun i m H' => m = l.length - i ∧ i ≤ l.length ∧ Pv i H', ⟨l.length, by simp, Nat.zero_le _, start⟩, ?_⟩
  rintro i m H' ⟨rfl, hi, s, Z', dn, acc, e1, e2, hdn, st, zm1, kz1, hh, hacc, racc, nzD, noD⟩
  by_cases hlt : i < l.length
  · right
    refine ⟨it.go i H' (by rw [List.length_map]; exact hlt) kz1, Pv (i + 1), fun H'' q => ⟨l.length - (i + 1), by omega, rfl, hlt, q⟩, fun x H'' y => ?_⟩
    have hx : l[i]? = some l[i] := List.getElem?_eq_getElem hlt
    have hmem : l[i] ∈ l := List.getElem_mem hlt
    have ed : l.drop i = l[i] :: l.drop (i + 1) := List.drop_eq_getElem_cons hlt
    generalize l[i] = xi at hx hmem ed
    obtain ⟨Z2, s2, h2, rx⟩ := it.yld i x Z' H' H'' σ (envS s) zm1 kz1 hh y (encA xi) (by rw [List.getElem?_map, hx]; rfl)
    have hDD : H'' D = some (.lst acc) := it.keepD i x H' H'' y D _ hacc
    have nzD2 : ¬ Z2 D := fun z => by
      rcases s2.zn D z with z | z | z
      · exact nzD z
      · exact noD z
      · rw [hacc] at z; cases z
    have kz2 : KeepZ Z' H' H'' := fun b u z e => it.keepD i x H' H'' y b u e
    rw [ed] at e1 e2
    obtain ⟨envx, hg, hwx, htst, hel⟩ := ht s xi hmem e2.1
    have hw := h2.wipe vs
    intro s' H0 C cl fp
    refine hg s' H0 C cl fp Z2 H'' (wipe σ vs) _ x hw rx fun Z3 H3 σ3 s3 h3 f3 => ?_
    have hN' : σ.length = N := by rw [← h2.len]; exact hN s
    have f3' : Fix (oth σ.length vs) (wipe σ vs) σ3 := by rw [hN']; exact f3
    have lenx : envx.length = (envS s).length := by
      have e := congrArg List.length hwx
      rwa [wipeE_len, wipeE_len] at e
    have lens : σ3.length = σ.length := by rw [← h3.len, lenx, h2.len]
    refine ⟨wipe_fix lens f3', ?_⟩
    -- an address that is not in the block's hands stays
    have dStay : ∀ {Za : ZS} {Ha : Hp} {Oa Zb : ZS} {Hb : Hp} {Ob : ZS}, Stp Za Ha Oa Zb Hb Ob → ¬ Oa D → ¬ Za D → Ha D = some (.lst acc) → Hb D = some (.lst acc) ∧ ¬ Zb D ∧ ¬ Ob D := fun {Za Ha Oa Zb Hb Ob} q no nz e => ⟨q.keep D _ e no, (fun z => by
      rcases q.zn D z with z | z | z
      · exact nz z
      · exact no z
      · rw [e] at z; cases z), (fun o => by
      rcases q.on D o with o | o
      · exact no o
      · rw [e] at o; cases o)⟩
    have noW : ¬ Own (wipeE (envS s) vs) (wipe σ vs) D := fun o => by
      obtain ⟨j, u, _, e, q⟩ := wipe_own o
      exact noD ⟨j, u, e, q⟩
    obtain ⟨d3, nz3, no3⟩ := dStay s3 noW nzD2 hDD
    refine htst Z3 H3 σ3 _ h3 fun Z4 H4 s4 h4 => ?_
    obtain ⟨d4, nz4, no4⟩ := dStay s4 no3 nz3 d3
    -- back outside
    have back : ∀ {Zy : ZS} {Hy : Hp} {envy : En} {sy : S}, Stp Z2 H'' (Own (wipeE (envS s) vs) (wipe σ vs)) Zy Hy (Own envy σ3) → Hld X.K Zy Hy σ3 envy → wipeE envy vs = wipeE (envS sy) vs → (∀ i ∈ vs, (envS sy)[i]? = (envS s)[i]?) →
        Hld X.K Zy Hy σ (envS sy) ∧ Stp Z2 H'' (Own (envS s) σ) Zy Hy (Own (envS sy) σ) := fun {Zy Hy envy sy} q hy w v => h2.unwipe q hy f3' w v (by rw [hN, hN])
    have kz3 : ∀ {Zy : ZS} {Hy : Hp} {Oy : ZS}, Stp Z2 H'' (Own (envS s) σ) Zy Hy Oy → KeepZ Z1 H1 Hy ∧ ∀ a, Z1 a → Zy a := fun {Zy Hy Oy} q =>
      ⟨fun b u z e => q.keep b u (kz2 b u (zm1 b z) (kz1 b u z e)) fun o => h2.oz o (s2.zm b (zm1 b z)), fun a z => q.zm a (s2.zm a (zm1 a z))⟩
    cases hp : p s xi with
    | false =>
      rw [if_neg (by decide)]
      obtain ⟨h5, s5⟩ := back (sy := s) (s3.trans s4) h4 hwx fun _ _ => rfl
      obtain ⟨d5, nz5, no5⟩ := dStay s5 noD nzD2 hDD
      obtain ⟨kz5, zm5⟩ := kz3 s5
      refine ⟨s, Z4, dn, acc, ?_, ?_, by omega, ?_, zm5, kz5, h5, d5, ?_, nz5, no5⟩
      · have q : lcL p g s (xi :: l.drop (i + 1)) = lcL p g s (l.drop (i + 1)) := by
          show (if p s xi = true then _ else _) = _
          rw [hp]; rfl
        rw [e1, q]
      · have q := e2.2
        rw [if_neg (by rw [hp]; decide)] at q
        exact q
      · exact st.trans ((s2.trans s5).more fun a => a = D)
      · exact RepL.st (fun a z => s5.zm a (s2.zm a z)) (fun b u z e => s5.keep b u (kz2 b u z e) fun o => h2.oz o (s2.zm b z)) _ racc
    | true =>
      rw [if_pos rfl]
      have e22 := e2.2
      rw [if_pos hp] at e22
      obtain ⟨envy, hev, hwy, hvy⟩ := hel hp e22.1
      intro s'' H0' C' cl' fp'
      refine hev s'' H0' C' cl' fp' Z4 H4 σ3 _ h4 fun Z5 H5 w s5 h5 rw5 => ?_
      obtain ⟨h6, s6⟩ := back (sy := (g s xi).2) ((s3.trans s4).trans s5) h5 hwy hvy
      obtain ⟨d6, nz6, no6⟩ := dStay s6 noD nzD2 hDD
      obtain ⟨kz6, zm6⟩ := kz3 s6
      have racc5 : RepL X.K Z5 H5 (dn.map encB) acc := RepL.st (fun a z => s6.zm a (s2.zm a z)) (fun b u z e => s6.keep b u (kz2 b u z e) fun o => h2.oz o (s2.zm b z)) _ racc
      have hlen := racc5.length
      rw [List.length_map] at hlen
      have hsz : acc.length < sizeLine := by omega
      refine ⟨acc, d6, hsz, ?_⟩
      obtain ⟨h7, zk7⟩ := h6.bump (o := .lst (acc ++ [w])) d6 nz6 no6
      refine ⟨(g s xi).2, Z5, dn ++ [(g s xi).1], acc ++ [w], ?_, e22.2, by rw [List.length_append, List.length_singleton]; omega, ?_, zm6, fun b u z e => zk7 b u (zm6 b z) (kz6 b u z e), h7, upd_same, ?_, nz6, no6⟩
      · have q : lcL p g s (xi :: l.drop (i + 1)) = ((g s xi).1 :: (lcL p g (g s xi).2 (l.drop (i + 1))).1, (lcL p g (g s xi).2 (l.drop (i + 1))).2) := by
          show (if p s xi = true then _ else _) = _
          rw [if_pos hp]
        rw [e1, q, List.append_assoc]; rfl
      · have q := st.trans ((s2.trans s6).more fun a => a = D)
        exact q.trans ⟨fun a o e n => by rw [upd_ne (fun z => n (.inr z))]; exact e, fun _ z => z, fun _ z => .inl z, fun _ z => .inl z, fun a o e => by
          by_cases z : a = D
          · exact ⟨_, by rw [z]; exact upd_same⟩
          · exact ⟨o, by rw [upd_ne z]; exact e⟩⟩
      · rw [List.map_append]
        have racc7 := RepL.st (fun _ z => z) zk7 _ racc5
        exact RepL.append racc7 (RepL.one (Rep.st (fun _ z => z) zk7 _ rw5))
  · left
    have ei : i = l.length := by omega
    subst ei
    refine ⟨by have := it.stop H' kz1; rwa [List.length_map] at this, ?_⟩
    rw [List.drop_length] at e1
    have e3 : lcL p g s0 l = (dn, s) := by rw [e1]; simp [lcL]
    rw [e3] at k
    exact k Z' H' D (st.sub fun a o => .inl o) hh ⟨acc, ⟨hacc, by have := racc.length; rw [List.length_map] at this; omega⟩, racc⟩ nzD noD hD0
end
end VL

/-! VL9: defs, their calls, the law. -/
namespace VL
open PySem PySem.Spec PyProof.Rows L2

/-- an argument: a value, or a container that is lent -/
inductive Arg where | im (v : Val) | mu (v : Val)
def ArgRep (K : PySem.W.Frag) (Z : ZS) (H : Hp) : Arg → V → Prop
  | .im v, w => Rep K Z H v w
  | .mu v, w => ∃ b, w = .ref b ∧ Top K Z H v b ∧ ¬ Z b
def MuA (args : List Arg) (ws : List V) : ZS := fun a => ∃ (i : Nat) (v : Val), args[i]? = some (Arg.mu v) ∧ ws[i]? = some (V.ref a)
structure ArgsOk (K : PySem.W.Frag) (Z : ZS) (H : Hp) (args : List Arg) (ws : List V) : Prop where
  len : args.length = ws.length
  rel : ∀ (i : Nat) (a : Arg) (w : V), args[i]? = some a → ws[i]? = some w → ArgRep K Z H a w
  inj : ∀ (i j : Nat) (v u : Val) (a : Addr), args[i]? = some (Arg.mu v) → args[j]? = some (Arg.mu u) → ws[i]? = some (V.ref a) → ws[j]? = some (V.ref a) → i = j
  zd : ∀ a, Z a → ∃ o, H a = some o
/-- what a def does: arguments, what is handed back, the arguments behind it -/
abbrev Rel := List Arg → Rt → List Arg → Prop
def Backs (K : PySem.W.Frag) (Z : ZS) (H : Hp) (outs : List Arg) (ws : List V) : Prop := ∀ (i : Nat) (v : Val) (a : Addr), outs[i]? = some (Arg.mu v) → ws[i]? = some (V.ref a) → Top K Z H v a ∧ ¬ Z a
/-- the places of outs that are lent are those of args -/
def SameMu (args outs : List Arg) : Prop := ∀ (i : Nat) (v : Val), args[i]? = some (Arg.mu v) → ∃ v', outs[i]? = some (Arg.mu v')
def SpOf (K : PySem.W.Frag) (R : Rel) : Sp := fun ws H Q E => ∃ (Z : ZS) (args : List Arg) (r : Rt) (outs : List Arg), R args r outs ∧ ArgsOk K Z H args ws ∧
  ∀ Z' H' w, Stp Z H (MuA args ws) Z' H' (fun a => MuA args ws a ∨ (w = .ref a ∧ ∃ v, r = .ow v)) → (∀ a, Z' a → ∃ o, H' a = some o) → Backs K Z' H' outs ws → RepR K Z' H' H (MuA args ws) r w → Q w H'

/-! ### a def's body -/
def slA : Arg → Sl | .im v => .im v | .mu v => .ow v
def env0 (n : Nat) (args : List Arg) : En := args.map slA ++ List.replicate (n - args.length) .no
def muI (args : List Arg) : List Nat := (List.range args.length).filter fun i => match args[i]? with | some (.mu _) => true | _ => false
def OutOk (args : List Arg) (r : Rt) (outs : List Arg) : Out → Prop
  | .rt r' env => r' = r ∧ ∀ (i : Nat) (v : Val), outs[i]? = some (Arg.mu v) → env[i]? = some (Sl.ow v)
  | .nx env => r = .im .non ∧ ∀ (i : Nat) (v : Val), outs[i]? = some (Arg.mu v) → env[i]? = some (Sl.ow v)
  | _ => False
theorem start_get {N : List Str} {ws : List V} {i : Nat} {w : V} (h : ws[i]? = some w) : (L2.start N ws)[i]? = some (some w) := by
  unfold L2.start
  have hi := (List.getElem?_eq_some_iff.mp h).1
  rw [List.getElem?_append_left (by rw [List.length_map]; exact hi), List.getElem?_map, h]; rfl
theorem env0_get {n : Nat} {args : List Arg} {i : Nat} {s : Sl} (h : (env0 n args)[i]? = some s) : (∃ a, args[i]? = some a ∧ s = slA a) ∨ s = .no := by
  unfold env0 at h
  by_cases hi : i < (args.map slA).length
  · rw [List.getElem?_append_left hi, List.getElem?_map] at h
    obtain ⟨a, e, q⟩ := Option.map_eq_some_iff.mp h
    exact .inl ⟨a, e, q.symm⟩
  · rw [List.getElem?_append_right (by omega)] at h
    rw [List.getElem?_replicate] at h
    split at h
    · exact .inr (Option.some.inj h).symm
    · cases h
section
variable {P : Program} {w : World} {K : PySem.W.Frag} {mg : Str → Option Value} {base : Heap}
theorem ArgsOk.hld {Z : ZS} {H : Hp} {args : List Arg} {ws : List V} {N : List Str} (h : ArgsOk K Z H args ws) (hn : args.length ≤ N.length) : Hld K Z H (L2.start N ws) (env0 N.length args) ∧ (∀ a, Own (env0 N.length args) (L2.start N ws) a ↔ MuA args ws a) := by
  have wsOf : ∀ {i : Nat} {a : Arg}, args[i]? = some a → ∃ w, ws[i]? = some w := fun {i a} e => by
    have hi := (List.getElem?_eq_some_iff.mp e).1
    exact ⟨_, List.getElem?_eq_getElem (by rw [← h.len]; exact hi)⟩
  have own : ∀ {i : Nat} {v : Val}, (env0 N.length args)[i]? = some (Sl.ow v) → args[i]? = some (Arg.mu v) := fun {i v} e => by
    rcases env0_get e with ⟨a, e1, e2⟩ | e1
    · cases a with
      | im u => cases e2
      | mu u => cases e2; exact e1
    · cases e1
  have gs : ∀ {i : Nat} {a : Addr} {v : Val}, args[i]? = some (Arg.mu v) → (L2.start N ws)[i]? = some (some (V.ref a)) → ws[i]? = some (V.ref a) := fun {i a v} e q => by
    obtain ⟨w, hw⟩ := wsOf e
    rw [start_get hw] at q
    cases q; exact hw
  refine ⟨⟨fun i s e => ?_, fun i j v u a e1 e2 q1 q2 => ?_, h.zd, ?_⟩, fun a => ⟨fun ⟨i, v, e, q⟩ => ⟨i, v, own e, gs (own e) q⟩, fun ⟨i, v, e, q⟩ => ⟨i, v, ?_, start_get q⟩⟩⟩
  · rcases env0_get e with ⟨a, e1, e2⟩ | e1
    · obtain ⟨w, hw⟩ := wsOf e1
      have r := h.rel i a w e1 hw
      cases a with
      | im v => cases e2; exact ⟨w, start_get hw, r⟩
      | mu v =>
        cases e2
        obtain ⟨b, rfl, t, nz⟩ := r
        exact ⟨b, start_get hw, t, nz⟩
    · cases e1; trivial
  · exact h.inj i j v u a (own e1) (own e2) (gs (own e1) q1) (gs (own e2) q2)
  · unfold env0 L2.start
    rw [List.length_append, List.length_append, List.length_map, List.length_map, List.length_replicate, List.length_replicate, h.len]
  · unfold env0
    have hi := (List.getElem?_eq_some_iff.mp e).1
    rw [List.getElem?_append_left (by rw [List.length_map]; exact hi), List.getElem?_map, e]; rfl
theorem muI_mem {args : List Arg} {i : Nat} {v : Val} (e : args[i]? = some (Arg.mu v)) : i ∈ muI args := by
  have hi := (List.getElem?_eq_some_iff.mp e).1
  refine List.mem_filter.mpr ⟨List.mem_range.mpr hi, ?_⟩
  rw [e]
/-- THE RULE for a def: what its body does for each arguments that its relation speaks of -/
theorem def_ok {x qual : Str} {st : Stmt} {f : Addr} {fd : FuncData} {N ps : List Str} {k : Nat} {R : Rel} (F : Fun K x qual st f fd) (S : FnScope N ps (defScope st)) (hps : ps.length ≤ N.length) (hlen : ∀ args r outs, R args r outs → args.length = ps.length ∧ outs.length = args.length ∧ SameMu args outs ∧ SameMu outs args)
    (hb : ∀ (cdv : Value) (A : Around) (outer : List Env) (s : Shared) (H : Hp) (E : XK), Room k (A.deeper (envOfC qual (defScope st) s.heap.objs.size f cdv)) → ∀ args r outs, R args r outs →
      ∃ out, EvSs (cxOf CX0 P w K mg base N qual (defScope st) f cdv A outer s H E).nox (muI args) (defBody st) (env0 N.length args) out ∧ OutOk args r outs out) :
    FnOk P w K mg base CX0 (k + 1) f fd ps (SpOf K R) := by
  refine F.ok S (fun ws H Q E h => ?_) (fun cdv A outer s H ws Q E hr h => ?_)
  · obtain ⟨Z, args, r, outs, hR, ha, _⟩ := h
    rw [← ha.len]; exact (hlen args r outs hR).1
  · obtain ⟨Z, args, r, outs, hR, ha, q⟩ := h
    obtain ⟨l1, l2, sm, sm2⟩ := hlen args r outs hR
    obtain ⟨out, hbd, ho⟩ := hb cdv A outer s H E hr args r outs hR
    refine ⟨_, pss_wp _, ?_⟩
    obtain ⟨hh, ow⟩ := ha.hld (N := N) (by omega)
    have backs : ∀ {Z' : ZS} {H' : Hp} {σ' : Stt} {env' : En}, Hld K Z' H' σ' env' → Fix (muI args) (L2.start N ws) σ' → (∀ (i : Nat) (v : Val), outs[i]? = some (Arg.mu v) → env'[i]? = some (Sl.ow v)) → Backs K Z' H' outs ws ∧ ∀ a, MuA args ws a → Own env' σ' a := fun {Z' H' σ' env'} h' f' o' => by
      have sg : ∀ (i : Nat) (a : Addr) (v : Val), args[i]? = some (Arg.mu v) → ws[i]? = some (V.ref a) → σ'[i]? = some (some (V.ref a)) := fun i a v e z => by
        rw [f' i (muI_mem e)]; exact start_get z
      refine ⟨fun i v a e z => ?_, fun a ⟨i, v, e, z⟩ => ?_⟩
      · obtain ⟨v0, e0⟩ := sm2 i v e
        obtain ⟨b, s', t, nz⟩ := h'.own (o' i v e)
        rw [sg i a v0 e0 z] at s'; cases s'
        exact ⟨t, nz⟩
      · obtain ⟨v', e'⟩ := sm i v e
        exact ⟨i, v', o' i v' e', sg i a v e z⟩
    refine hbd Z H _ _ hh ?_
    cases out with
    | bk env => exact ho.elim
    | ct env => exact ho.elim
    | nx env' =>
      obtain ⟨rfl, o'⟩ := ho
      refine fun Z' H' σ' s' h' f' => ?_
      obtain ⟨bk, mo⟩ := backs h' f' o'
      refine q Z' H' .non ⟨fun a o e n => s'.keep a o e fun z => n ((ow a).mp z), s'.zm, fun a z => ?_, fun a z => ?_, s'.dom⟩ h'.zd bk (show Rep _ _ _ _ _ from rep_non)
      · rcases s'.zn a z with z | z | z
        · exact .inl z
        · exact .inr (.inl ((ow a).mp z))
        · exact .inr (.inr z)
      · rcases z with z | ⟨z, _⟩
        · exact .inl z
        · cases z
    | rt r' env' =>
      obtain ⟨rfl, o'⟩ := ho
      refine fun Z' H' σ' w' s' h' f' rr => ?_
      obtain ⟨bk, mo⟩ := backs h' f' o'
      refine q Z' H' w' ⟨fun a o e n => s'.keep a o e fun z => n ((ow a).mp z), s'.zm, fun a z => ?_, fun a z => ?_, s'.dom⟩ h'.zd bk ?_
      · rcases s'.zn a z with z | z | z
        · exact .inl z
        · exact .inr (.inl ((ow a).mp z))
        · exact .inr (.inr z)
      · rcases z with z | z
        · exact .inl z
        · rcases s'.on a (.inr z) with y | y
          · exact .inl ((ow a).mp y)
          · exact .inr y
      · cases r' with
        | im v => exact rr
        | ow v => obtain ⟨a, e, t, nz, no⟩ := rr; exact ⟨a, e, t, nz, fun m => no (mo a m)⟩
end

/-! ### a call -/
/-- the operands as arguments; the slots behind the call -/
inductive AF : En → List Opd → List Arg → List Arg → En → Prop
  | nil {env : En} : AF env [] [] [] env
  | im {env env2 : En} {os : List Opd} {args outs : List Arg} {v : Val} (h : AF env os args outs env2) : AF env (.val v :: os) (.im v :: args) (.im v :: outs) env2
  | mu {env env2 : En} {os : List Opd} {args outs : List Arg} {j : Nat} {v v' : Val} (e : env[j]? = some (Sl.ow v)) (n : ∀ o ∈ os, o ≠ .slot j) (h : AF env os args outs env2) : AF env (.slot j :: os) (.mu v :: args) (.mu v' :: outs) (env2.set j (.ow v'))
section
variable {K : PySem.W.Frag} {Z Z' : ZS} {H H' : Hp} {σ : Stt} {env env2 : En} {os : List Opd} {args outs : List Arg} {ws : List V}
theorem AF.len (h : AF env os args outs env2) : env2.length = env.length := by
  induction h with
  | nil => rfl
  | im h ih => exact ih
  | mu e n h ih => rw [List.length_set]; exact ih
/-- slots: lent ones, others -/
theorem AF.get (h : AF env os args outs env2) : ∀ (i : Nat), (∃ (k : Nat) (v v' : Val), os[k]? = some (Opd.slot i) ∧ args[k]? = some (Arg.mu v) ∧ outs[k]? = some (Arg.mu v') ∧ env[i]? = some (Sl.ow v) ∧ env2[i]? = some (Sl.ow v')) ∨ ((∀ k : Nat, os[k]? ≠ some (Opd.slot i)) ∧ env2[i]? = env[i]?) := by
  induction h with
  | nil => exact fun i => .inr ⟨fun k => by simp, rfl⟩
  | im h ih =>
    intro i
    rcases ih i with ⟨k, v, v', a, b, c, d⟩ | ⟨a, b⟩
    · exact .inl ⟨k + 1, v, v', a, b, c, d⟩
    · refine .inr ⟨fun k => ?_, b⟩
      cases k with
      | zero => intro z; cases z
      | succ k => exact a k
  | @mu env2 os args outs j v v' e n h ih =>
    intro i
    by_cases hij : j = i
    · subst hij
      refine .inl ⟨0, v, v', rfl, rfl, rfl, e, List.getElem?_set_self ?_⟩
      rw [h.len]; exact (List.getElem?_eq_some_iff.mp e).1
    · rw [List.getElem?_set_ne hij]
      rcases ih i with ⟨k, x, x', a, b, c, d⟩ | ⟨a, b⟩
      · exact .inl ⟨k + 1, x, x', a, b, c, d⟩
      · refine .inr ⟨fun k => ?_, b⟩
        cases k with
        | zero => intro z; cases z; exact hij rfl
        | succ k => exact a k
theorem AF.args_mu (h : AF env os args outs env2) : ∀ (k : Nat) (v : Val), args[k]? = some (Arg.mu v) → ∃ j, os[k]? = some (Opd.slot j) ∧ env[j]? = some (Sl.ow v) := by
  induction h with
  | nil => intro k v e; simp at e
  | im h ih =>
    intro k v e
    cases k with
    | zero => cases e
    | succ k => exact ih k v e
  | mu e0 n h ih =>
    intro k v e
    cases k with
    | zero => cases e; exact ⟨_, rfl, e0⟩
    | succ k => exact ih k v e
theorem AF.args_im (h : AF env os args outs env2) : ∀ (k : Nat) (v : Val), args[k]? = some (Arg.im v) → os[k]? = some (Opd.val v) := by
  induction h with
  | nil => intro k v e; simp at e
  | im h ih =>
    intro k v e
    cases k with
    | zero => cases e; rfl
    | succ k => exact ih k v e
  | mu e0 n h ih =>
    intro k v e
    cases k with
    | zero => cases e
    | succ k => exact ih k v e
theorem AF.outs_mu (h : AF env os args outs env2) : ∀ (k : Nat) (v : Val), outs[k]? = some (Arg.mu v) → ∃ v', args[k]? = some (Arg.mu v') := by
  induction h with
  | nil => intro k v e; simp at e
  | im h ih =>
    intro k v e
    cases k with
    | zero => cases e
    | succ k => exact ih k v e
  | mu e0 n h ih =>
    intro k v e
    cases k with
    | zero => exact ⟨_, rfl⟩
    | succ k => exact ih k v e
theorem AF.uniq (h : AF env os args outs env2) : ∀ (k l j : Nat), os[k]? = some (Opd.slot j) → os[l]? = some (Opd.slot j) → k = l := by
  induction h with
  | nil => intro k l j e; simp at e
  | im h ih =>
    intro k l j e1 e2
    cases k with
    | zero => cases e1
    | succ k =>
      cases l with
      | zero => cases e2
      | succ l => rw [ih k l j e1 e2]
  | mu e0 n h ih =>
    intro k l j e1 e2
    cases k with
    | zero =>
      cases e1
      cases l with
      | zero => rfl
      | succ l => exact absurd rfl (n _ (List.mem_of_getElem? e2))
    | succ k =>
      cases l with
      | zero => cases e2; exact absurd rfl (n _ (List.mem_of_getElem? e1))
      | succ l => rw [ih k l j e1 e2]
theorem AF.lens (h : AF env os args outs env2) : os.length = args.length ∧ outs.length = args.length := by
  induction h with
  | nil => exact ⟨rfl, rfl⟩
  | im h ih => simp [ih.1, ih.2]
  | mu e n h ih => simp [ih.1, ih.2]
theorem RepOs.get : ∀ {os : List Opd} {ws : List V} {k : Nat} {o : Opd}, RepOs K Z H σ os ws → os[k]? = some o → ∃ w, ws[k]? = some w ∧ RepO K Z H σ o w
  | [], _, _, _, _, e => by simp at e
  | p :: os, ws, 0, o, ⟨w, r, e1, h1, h2⟩, e => by cases e; exact ⟨w, by rw [e1]; rfl, h1⟩
  | p :: os, ws, k + 1, o, ⟨w, r, e1, h1, h2⟩, e => by
    obtain ⟨w', a, b⟩ := RepOs.get (k := k) (o := o) h2 (by simpa using e)
    exact ⟨w', by rw [e1]; simpa using a, b⟩
theorem RepOs.len : ∀ {os : List Opd} {ws : List V}, RepOs K Z H σ os ws → os.length = ws.length
  | [], ws, h => by have h' : ws = [] := h; subst h'; rfl
  | p :: os, ws, ⟨w, r, e1, h1, h2⟩ => by rw [e1, List.length_cons, List.length_cons, RepOs.len h2]
theorem AF.ok (h : AF env os args outs env2) (hh : Hld K Z H σ env) (r : RepOs K Z H σ os ws) : ArgsOk K Z H args ws ∧ (∀ a, MuA args ws a → Own env σ a) := by
  have at_ : ∀ {k : Nat} {v : Val} {w : V}, args[k]? = some (Arg.mu v) → ws[k]? = some w → ∃ j b, os[k]? = some (Opd.slot j) ∧ env[j]? = some (Sl.ow v) ∧ w = .ref b ∧ σ[j]? = some (some (V.ref b)) ∧ Top K Z H v b ∧ ¬ Z b := fun {k v w} e q => by
    obtain ⟨j, e1, e2⟩ := h.args_mu k v e
    obtain ⟨w', q', rr⟩ := r.get e1
    rw [q] at q'; cases q'
    obtain ⟨b, s, t, nz⟩ := hh.own e2
    have rr' : σ[j]? = some (some w) := rr
    rw [s] at rr'; cases rr'
    exact ⟨j, b, e1, e2, rfl, s, t, nz⟩
  refine ⟨⟨by rw [← h.lens.1]; exact r.len, fun i a w e q => ?_, fun i j v u a e1 e2 q1 q2 => ?_, hh.zd⟩, fun a ⟨i, v, e, q⟩ => ?_⟩
  · cases a with
    | im v =>
      obtain ⟨w', q', rr⟩ := r.get (h.args_im i v e)
      rw [q] at q'; cases q'
      exact rr
    | mu v =>
      obtain ⟨j, b, _, _, e3, _, t, nz⟩ := at_ e q
      exact ⟨b, e3, t, nz⟩
  · obtain ⟨j1, b1, o1, s1, w1, g1, _⟩ := at_ e1 q1
    obtain ⟨j2, b2, o2, s2, w2, g2, _⟩ := at_ e2 q2
    cases w1; cases w2
    have ej := hh.inj j1 j2 v u a s1 s2 g1 g2
    subst ej
    exact h.uniq i j j1 o1 o2
  · obtain ⟨j, b, _, s, w', g, _⟩ := at_ e q
    cases w'
    exact ⟨j, v, s, g⟩
theorem AF.back (h : AF env os args outs env2) (hh : Hld K Z H σ env) (r : RepOs K Z H σ os ws) {O' : ZS} (s : Stp Z H (MuA args ws) Z' H' O') (zd : ∀ a, Z' a → ∃ o, H' a = some o) (bk : Backs K Z' H' outs ws) :
    Hld K Z' H' σ env2 ∧ Stp Z H (Own env σ) Z' H' (Own env2 σ) := by
  obtain ⟨_, mo⟩ := h.ok hh r
  have kz : ∀ b u, Z b → H b = some u → H' b = some u := fun b u z e => s.keep b u e fun o => hh.oz (mo b o) z
  have wsAt : ∀ {k : Nat} {i : Nat}, os[k]? = some (Opd.slot i) → ∃ w, ws[k]? = some w ∧ σ[i]? = some (some w) := fun {k i} e => r.get e
  have lentA : ∀ {k i : Nat} {v : Val} {a : Addr}, os[k]? = some (Opd.slot i) → args[k]? = some (Arg.mu v) → σ[i]? = some (some (V.ref a)) → ws[k]? = some (V.ref a) := fun {k i v a} e1 _ q => by
    obtain ⟨w, q1, q2⟩ := wsAt e1
    rw [q] at q2; cases q2; exact q1
  have own2 : ∀ a, Own env2 σ a → Own env σ a := fun a ⟨i, v, e, q⟩ => by
    rcases h.get i with ⟨k, x, x', _, _, _, d, _⟩ | ⟨_, d⟩
    · exact ⟨i, x, d, q⟩
    · exact ⟨i, v, by rw [← d]; exact e, q⟩
  have notLent : ∀ {i : Nat} {v : Val} {a : Addr}, (∀ k : Nat, os[k]? ≠ some (Opd.slot i)) → env[i]? = some (Sl.ow v) → σ[i]? = some (some (V.ref a)) → ¬ MuA args ws a := fun {i v a} n e q ⟨k, u, e1, q1⟩ => by
    obtain ⟨j, o1, o2⟩ := h.args_mu k u e1
    obtain ⟨w, z1, z2⟩ := wsAt o1
    rw [q1] at z1; cases z1
    have ej := hh.inj i j v u a e o2 q z2
    subst ej
    exact n k o1
  refine ⟨⟨fun i sl e => ?_, fun i j v u a e1 e2 q1 q2 => ?_, zd, by rw [h.len]; exact hh.len⟩, ⟨fun a o e n => s.keep a o e fun z => n (mo a z), s.zm, fun a z => ?_, fun a z => .inl (own2 a z), s.dom⟩⟩
  · rcases h.get i with ⟨k, x, x', o1, a1, u1, d, e2⟩ | ⟨n, d⟩
    · rw [e2] at e; cases e
      obtain ⟨b, s1, _⟩ := hh.own d
      obtain ⟨t, nz⟩ := bk k x' b u1 (lentA o1 a1 s1)
      exact ⟨b, s1, t, nz⟩
    · rw [d] at e
      have q := hh.sl i sl e
      cases sl with
      | no => trivial
      | im v => obtain ⟨w, sw, rr⟩ := (show ∃ w, σ[i]? = some (some w) ∧ Rep K Z H v w from q); exact ⟨w, sw, Rep.st s.zm kz v rr⟩
      | ow v =>
        obtain ⟨a, sa, t, nz⟩ := (show ∃ a, σ[i]? = some (some (V.ref a)) ∧ Top K Z H v a ∧ ¬ Z a from q)
        have nm := notLent n e sa
        refine ⟨a, sa, Top.st s.zm kz (fun o x => s.keep a o x nm) t, fun z => ?_⟩
        rcases s.zn a z with z | z | z
        · exact nz z
        · exact nm z
        · obtain ⟨o, x⟩ := t.there; rw [z] at x; cases x
  · have get : ∀ {i : Nat} {v : Val}, env2[i]? = some (Sl.ow v) → ∃ x, env[i]? = some (Sl.ow x) := fun {i v} e => by
      rcases h.get i with ⟨k, x, x', _, _, _, d, _⟩ | ⟨_, d⟩
      · exact ⟨x, d⟩
      · exact ⟨v, by rw [← d]; exact e⟩
    obtain ⟨x, d1⟩ := get e1
    obtain ⟨y, d2⟩ := get e2
    exact hh.inj i j x y a d1 d2 q1 q2
  · rcases s.zn a z with z | z | z
    · exact .inl z
    · exact .inr (.inl (mo a z))
    · exact .inr (.inr z)
end
section
variable {X : Cx} {e : Expr} {es : List Expr} {env env1 env2 : En} {os : List Opd} {args outs : List Arg} {v : Val} {R : Rel}
/-- a call of a def that hands back a value -/
theorem ev_call (p : PE X e (tCall (SpOf X.K R) [] E0 (wpA X es))) (ha : EvA X es env os env1) (haf : AF env1 os args outs env2) (hR : R args (.im v) outs) : Ev X e env (.val v) env2 := fun Z H σ Q hH k => by
  refine wp_pe p ?_
  refine ha Z H σ _ hH fun Z1 H1 ws s1 h1 r1 => ?_
  obtain ⟨ok, mo⟩ := haf.ok h1 r1
  show SpOf X.K R (ws ++ []) H1 Q E0
  rw [List.append_nil]
  refine ⟨Z1, args, .im v, outs, hR, ok, fun Z2 H2 w s2 zd bk rr => ?_⟩
  obtain ⟨h3, s3⟩ := haf.back h1 r1 s2 zd bk
  exact k Z2 H2 w (s1.trans s3) h3 rr
/-- .. a new container -/
theorem en_call (p : PE X e (tCall (SpOf X.K R) [] E0 (wpA X es))) (ha : EvA X es env os env1) (haf : AF env1 os args outs env2) (hR : R args (.ow v) outs) : EvN X e env v env2 := fun Z H σ Q hH k => by
  refine wp_pe p ?_
  refine ha Z H σ _ hH fun Z1 H1 ws s1 h1 r1 => ?_
  obtain ⟨ok, mo⟩ := haf.ok h1 r1
  show SpOf X.K R (ws ++ []) H1 Q E0
  rw [List.append_nil]
  refine ⟨Z1, args, .ow v, outs, hR, ok, fun Z2 H2 w s2 zd bk rr => ?_⟩
  obtain ⟨h3, s3⟩ := haf.back h1 r1 s2 zd bk
  obtain ⟨a, rfl, t, nz, no⟩ := rr
  have fr : H1 a = none := by
    rcases s2.on a (.inr ⟨rfl, v, rfl⟩) with o | o
    · exact absurd o no
    · exact o
  refine k Z2 H2 a (s1.trans s3) h3 t nz (fun o => ?_) (s1.back fr)
  rcases s3.on a o with o' | _
  · obtain ⟨u, x⟩ := h1.od o'; rw [fr] at x; cases x
  · -- the call's own new object is in no slot
    obtain ⟨i, u, e1, q1⟩ := o
    rcases haf.get i with ⟨k, x, x', o1, a1, u1, d, e2⟩ | ⟨n, d⟩
    · obtain ⟨b, s', t', _⟩ := h1.own d
      rw [q1] at s'; cases s'
      obtain ⟨y, z⟩ := t'.there
      rw [fr] at z; cases z
    · rw [d] at e1
      obtain ⟨b, s', t', _⟩ := h1.own e1
      rw [q1] at s'; cases s'
      obtain ⟨y, z⟩ := t'.there
      rw [fr] at z; cases z
end

/-! ### the law -/
/-- the law's relation: a script gives True -/
def RLaw (n : Nat) : Rel := fun args r outs => ∃ ns : List Int, ns.length ≤ n ∧ args = [.im (.lst (ns.map Val.int))] ∧ r = .im (.bl true) ∧ outs = args
theorem law_sp {K : PySem.W.Frag} {n : Nat} {H : Hp} {a : Addr} {ns : List Int} (hn : n ≤ sizeLine) (hl : ns.length ≤ n) (hO : Only H) (hS : SqL K H a (ns.map V.int)) : SpOf K (RLaw n) [.ref a] H (fun v _ => v = .bl true) fun _ _ _ => False := by
  have hz : (ns.map V.int).length ≤ sizeLine := by rw [List.length_map]; omega
  have nl : NL K (fun b => b = a ∧ ∃ o, H a = some o) H a (ns.map V.int) := by
    rcases hS with (h | ⟨o', h⟩) | h
    · exact .inl ⟨⟨rfl, _, h⟩, .inl h, hz⟩
    · exact .inl ⟨⟨rfl, _, h⟩, .inr ⟨o', h⟩, hz⟩
    · exact .inr h
  refine ⟨fun b => b = a ∧ ∃ o, H a = some o, [.im (.lst (ns.map Val.int))], .im (.bl true), [.im (.lst (ns.map Val.int))], ⟨ns, hl, rfl, rfl, rfl⟩, ⟨rfl, fun i x w e q => ?_, fun i j v u b e => ?_, fun b z => by rw [z.1]; exact z.2⟩, fun Z' H' w s zd bk rr => rep_bl' (K := K) (Z := Z') (H := H') rr⟩
  · cases i with
    | zero =>
      cases e; cases q
      show Rep _ _ _ _ _
      simp only [Rep]
      exact ⟨a, _, rfl, nl, RepL.ints ns⟩
    | succ i => simp at e
  · cases i with
    | zero => cases e
    | succ i => simp at e
end VL

/-! VL10: what typed proofs use. -/
namespace VL
open PySem PySem.Spec PyProof.Rows L2

/-! ### encodings -/
def encO {α : Type} (f : α → Val) : Option α → Val
  | none => .non
  | some x => f x
def encT {α : Type} (f : α → Val) (xs : List α) : Val := .tup (xs.map f)
def encL {α : Type} (f : α → Val) (xs : List α) : Val := .lst (xs.map f)
def enc2 {α β : Type} (f : α → Val) (g : β → Val) (p : α × β) : Val := .tup [f p.1, g p.2]
def enc3 {α β γ : Type} (f : α → Val) (g : β → Val) (h : γ → Val) (p : α × β × γ) : Val := .tup [f p.1, g p.2.1, h p.2.2]
def enc4 {α β γ δ : Type} (f : α → Val) (g : β → Val) (h : γ → Val) (k : δ → Val) (p : α × β × γ × δ) : Val := .tup [f p.1, g p.2.1, h p.2.2.1, k p.2.2.2]
def encU (_ : Unit) : Val := .non

/-- an encoding that == reads rightly, of so much depth at most -/
structure Lw {α : Type} [DecidableEq α] (f : α → Val) (n : Nat) : Prop where
  eq : ∀ a b, veq (f a) (f b) = decide (a = b)
  pl : ∀ a, pl (f a) = true
  lay : ∀ a, (dat (f a)).canLay0 = true
  dep : ∀ a, (dat (f a)).depth ≤ n
theorem Lw.good {α : Type} [DecidableEq α] {f : α → Val} {n : Nat} (h : Lw f n) (hn : n ≤ 64) (a : α) : Good (f a) := ⟨h.pl a, by
  unfold SeqAt.shaped
  rw [h.lay a, Bool.true_and]
  exact decide_eq_true (Nat.le_trans (h.dep a) hn)⟩
theorem dec_and {p q : Prop} [Decidable p] [Decidable q] : (decide p && decide q) = decide (p ∧ q) := by
  by_cases h : p <;> by_cases h' : q <;> simp [h, h']
theorem lw_int : Lw Val.int 0 := ⟨fun a b => by simp only [veq, dat, PyData.eqv]; exact (Bool.beq_eq_decide_eq a b), fun _ => by simp only [VL.pl], fun _ => by simp only [dat, PyData.canLay0], fun _ => by simp only [dat, PyData.depth]; exact Nat.le_refl _⟩
theorem lw_bl : Lw Val.bl 0 := ⟨fun a b => by simp only [veq, dat, PyData.eqv]; exact (Bool.beq_eq_decide_eq a b), fun _ => by simp only [VL.pl], fun _ => by simp only [dat, PyData.canLay0], fun _ => by simp only [dat, PyData.depth]; exact Nat.le_refl _⟩
theorem eqvAll_map {α : Type} [DecidableEq α] {f : α → Val} {n : Nat} (h : Lw f n) : ∀ xs ys : List α, PyData.eqvAll (datL (xs.map f)) (datL (ys.map f)) = decide (xs = ys)
  | [], [] => by simp [datL, PyData.eqvAll]
  | [], y :: ys => by simp [datL, PyData.eqvAll]
  | x :: xs, [] => by simp [datL, PyData.eqvAll]
  | x :: xs, y :: ys => by
    simp only [List.map_cons, datL, PyData.eqvAll]
    have e : PyData.eqv (dat (f x)) (dat (f y)) = decide (x = y) := h.eq x y
    rw [e, eqvAll_map h xs ys, dec_and]
    simp only [List.cons.injEq]
theorem plL_map {α : Type} {f : α → Val} (h : ∀ a, pl (f a) = true) : ∀ xs : List α, plL (xs.map f) = true
  | [] => rfl
  | x :: xs => by simp only [List.map_cons, plL, h x, plL_map h xs, Bool.and_self]
theorem layL_map {α : Type} {f : α → Val} (h : ∀ a, (dat (f a)).canLay0 = true) : ∀ xs : List α, PyData.canLayAll0 (datL (xs.map f)) = true
  | [] => by simp only [List.map_nil, datL, PyData.canLayAll0]
  | x :: xs => by simp only [List.map_cons, datL, PyData.canLayAll0, h x, layL_map h xs, Bool.and_self]
theorem depL_map {α : Type} {f : α → Val} {n : Nat} (h : ∀ a, (dat (f a)).depth ≤ n) : ∀ xs : List α, PyData.depthAll (datL (xs.map f)) ≤ n
  | [] => by simp only [List.map_nil, datL, PyData.depthAll]; exact Nat.zero_le _
  | x :: xs => by
    have := h x
    have := depL_map h xs
    simp only [List.map_cons, datL, PyData.depthAll]
    omega
theorem lw_T {α : Type} [DecidableEq α] {f : α → Val} {n : Nat} (h : Lw f n) : Lw (encT f) (n + 1) := ⟨fun a b => by simp only [veq, encT, dat, PyData.eqv]; exact eqvAll_map h a b, fun a => by simp only [encT, VL.pl]; exact plL_map h.pl a,
  fun a => by simp only [encT, dat, PyData.canLay0]; exact layL_map h.lay a, fun a => by have := depL_map h.dep a; simp only [encT, dat, PyData.depth]; omega⟩
theorem lw_L {α : Type} [DecidableEq α] {f : α → Val} {n : Nat} (h : Lw f n) : Lw (encL f) (n + 1) := ⟨fun a b => by simp only [veq, encL, dat, PyData.eqv]; exact eqvAll_map h a b, fun a => by simp only [encL, VL.pl]; exact plL_map h.pl a,
  fun a => by simp only [encL, dat, PyData.canLay0]; exact layL_map h.lay a, fun a => by have := depL_map h.dep a; simp only [encL, dat, PyData.depth]; omega⟩
theorem lw_2 {α β : Type} [DecidableEq α] [DecidableEq β] {f : α → Val} {g : β → Val} {n m : Nat} (h : Lw f n) (h' : Lw g m) : Lw (enc2 f g) (max n m + 1) := ⟨fun a b => by
    have e1 : PyData.eqv (dat (f a.1)) (dat (f b.1)) = decide (a.1 = b.1) := h.eq _ _
    have e2 : PyData.eqv (dat (g a.2)) (dat (g b.2)) = decide (a.2 = b.2) := h'.eq _ _
    simp only [veq, enc2, dat, datL, PyData.eqv, PyData.eqvAll]
    rw [e1, e2, Bool.and_true, dec_and]
    obtain ⟨a1, a2⟩ := a
    obtain ⟨b1, b2⟩ := b
    simp only [Prod.mk.injEq], fun a => by simp only [enc2, VL.pl, plL, h.pl, h'.pl, Bool.and_self], fun a => by simp only [enc2, dat, datL, PyData.canLay0, PyData.canLayAll0, h.lay, h'.lay, Bool.and_self],
  fun a => by
    have := h.dep a.1
    have := h'.dep a.2
    simp only [enc2, dat, datL, PyData.depth, PyData.depthAll]
    omega⟩
theorem lw_3 {α β γ : Type} [DecidableEq α] [DecidableEq β] [DecidableEq γ] {f : α → Val} {g : β → Val} {k : γ → Val} {n m l : Nat} (h : Lw f n) (h' : Lw g m) (h'' : Lw k l) : Lw (enc3 f g k) (max n (max m l) + 1) := ⟨fun a b => by
    have e1 : PyData.eqv (dat (f a.1)) (dat (f b.1)) = decide (a.1 = b.1) := h.eq _ _
    have e2 : PyData.eqv (dat (g a.2.1)) (dat (g b.2.1)) = decide (a.2.1 = b.2.1) := h'.eq _ _
    have e3 : PyData.eqv (dat (k a.2.2)) (dat (k b.2.2)) = decide (a.2.2 = b.2.2) := h''.eq _ _
    simp only [veq, enc3, dat, datL, PyData.eqv, PyData.eqvAll]
    rw [e1, e2, e3, Bool.and_true, dec_and, dec_and]
    obtain ⟨a1, a2, a3⟩ := a
    obtain ⟨b1, b2, b3⟩ := b
    simp only [Prod.mk.injEq], fun a => by simp only [enc3, VL.pl, plL, h.pl, h'.pl, h''.pl, Bool.and_self], fun a => by simp only [enc3, dat, datL, PyData.canLay0, PyData.canLayAll0, h.lay, h'.lay, h''.lay, Bool.and_self],
  fun a => by
    have := h.dep a.1
    have := h'.dep a.2.1
    have := h''.dep a.2.2
    simp only [enc3, dat, datL, PyData.depth, PyData.depthAll]
    omega⟩
/-- an encoding that never is None -/
def Nn {α : Type} (f : α → Val) : Prop := ∀ a, isNon (f a) = false ∧ PyData.eqv (dat (f a)) .none = false ∧ PyData.eqv .none (dat (f a)) = false
theorem nn_int : Nn Val.int := fun a => ⟨rfl, by simp only [dat, PyData.eqv], by simp only [dat, PyData.eqv]⟩
theorem nn_bl : Nn Val.bl := fun a => ⟨rfl, by simp only [dat, PyData.eqv], by simp only [dat, PyData.eqv]⟩
theorem nn_str : Nn Val.str := fun a => ⟨rfl, by simp only [dat, PyData.eqv], by simp only [dat, PyData.eqv]⟩
theorem nn_T {α : Type} {f : α → Val} : Nn (encT f) := fun a => ⟨rfl, by simp only [encT, dat, PyData.eqv], by simp only [encT, dat, PyData.eqv]⟩
theorem nn_L {α : Type} {f : α → Val} : Nn (encL f) := fun a => ⟨rfl, by simp only [encL, dat, PyData.eqv], by simp only [encL, dat, PyData.eqv]⟩
theorem nn_2 {α β : Type} {f : α → Val} {g : β → Val} : Nn (enc2 f g) := fun a => ⟨rfl, by simp only [enc2, dat, PyData.eqv], by simp only [enc2, dat, PyData.eqv]⟩
theorem nn_3 {α β γ : Type} {f : α → Val} {g : β → Val} {h : γ → Val} : Nn (enc3 f g h) := fun a => ⟨rfl, by simp only [enc3, dat, PyData.eqv], by simp only [enc3, dat, PyData.eqv]⟩
theorem lw_O {α : Type} [DecidableEq α] {f : α → Val} {n : Nat} (h : Lw f n) (nn : Nn f) : Lw (encO f) n := ⟨fun a b => by
    cases a with
    | none =>
      cases b with
      | none => simp only [veq, encO, dat, PyData.eqv]; rfl
      | some b => simp only [veq, encO, dat]; rw [(nn b).2.2]; rfl
    | some a =>
      cases b with
      | none => simp only [veq, encO, dat]; rw [(nn a).2.1]; rfl
      | some b =>
        have e : veq (f a) (f b) = decide (a = b) := h.eq a b
        show veq (f a) (f b) = _
        rw [e]; simp only [Option.some.injEq], fun a => by
    cases a with
    | none => simp only [encO, VL.pl]
    | some a => exact h.pl a, fun a => by
    cases a with
    | none => simp only [encO, dat, PyData.canLay0]
    | some a => exact h.lay a, fun a => by
    cases a with
    | none => simp only [encO, dat, PyData.depth]; exact Nat.zero_le _
    | some a => exact h.dep a⟩
theorem isNon_O {α : Type} {f : α → Val} (nn : Nn f) (a : Option α) : isNon (encO f a) = a.isNone := by
  cases a with
  | none => rfl
  | some a => exact (nn a).1

/-! ### typed operations -/
/-- xs[i], d where there is none -/
def ix {α : Type} (xs : List α) (i : Int) (d : α) : α := (atI xs i).getD d
def IxOk {α : Type} (xs : List α) (i : Int) : Prop := -(xs.length : Int) ≤ i ∧ i < xs.length
theorem atI_map {α β : Type} (f : α → β) (xs : List α) (i : Int) : atI (xs.map f) i = (atI xs i).map f := by
  unfold atI
  rw [List.length_map]
  cases ixN xs.length i with
  | none => rfl
  | some j => simp
theorem ixN_of {n : Nat} {i : Int} (h : -(n : Int) ≤ i ∧ i < n) : ∃ j, ixN n i = some j ∧ j < n := by
  unfold ixN
  by_cases h0 : 0 ≤ i
  · rw [if_pos h0, if_pos h.2]; exact ⟨_, rfl, by omega⟩
  · rw [if_neg h0, if_pos h.1]; exact ⟨_, rfl, by omega⟩
theorem atI_ix {α : Type} {xs : List α} {i : Int} (h : IxOk xs i) (d : α) : atI xs i = some (ix xs i d) := by
  obtain ⟨j, e, hj⟩ := ixN_of h
  unfold ix atI
  rw [e]
  show xs[j]? = some ((xs[j]?).getD d)
  rw [List.getElem?_eq_getElem hj]; rfl
theorem ix_nat {α : Type} (xs : List α) (i : Int) (d : α) (h : 0 ≤ i) : ix xs i d = xs.getD i.toNat d := by
  unfold ix atI ixN
  rw [if_pos h]
  by_cases h1 : i < xs.length
  · rw [if_pos h1, List.getD_eq_getElem?_getD]; rfl
  · rw [if_neg h1, List.getD_eq_getElem?_getD, List.getElem?_eq_none (by omega)]; rfl
theorem ix_neg {α : Type} (xs : List α) (i : Int) (d : α) (h : i < 0) (h2 : -(xs.length : Int) ≤ i) : ix xs i d = xs.getD (i + xs.length).toNat d := by
  unfold ix atI ixN
  rw [if_neg (by omega), if_pos h2, List.getD_eq_getElem?_getD]; rfl
theorem ixOk_map {α β : Type} {f : α → β} {xs : List α} {i : Int} (h : IxOk xs i) : IxOk (xs.map f) i := by
  unfold IxOk at h ⊢; rw [List.length_map]; exact h
/-- xs[i] = v -/
def setI {α : Type} (xs : List α) (i : Int) (v : α) : List α := match ixN xs.length i with | some j => xs.set j v | none => xs
/-- xs.pop(): the last, the others -/
def popL {α : Type} (xs : List α) (d : α) : α × List α := (xs.getLastD d, xs.dropLast)
def popAt {α : Type} (xs : List α) (i : Int) (d : α) : α × List α := match ixN xs.length i with | some j => (xs.getD j d, xs.eraseIdx j) | none => (d, xs)

/-! ### rules over types -/
section
variable {X : Cx} {M : List Nat} {a b c e : Expr} {es : List Expr} {env env1 env2 env3 : En} {oa ob o : Opd} {pos pos' : Pos} {α β γ : Type} {i : Int}
/-- a value told otherwise -/
theorem Ev.as {v u : Val} (h : Ev X e env (.val v) env1) (q : v = u) : Ev X e env (.val u) env1 := q ▸ h
theorem EvN.as {v u : Val} (h : EvN X e env v env1) (q : v = u) : EvN X e env u env1 := q ▸ h
theorem EvT.as {p q : Bool} (h : EvT X e env p env1) (hq : p = q) : EvT X e env q env1 := hq ▸ h
theorem ev_ixT {f : α → Val} {xs : List α} {va : Val} (d : α) (h : IxOk xs i) (ha : Ev X a env oa env1) (hb : Ev X b env1 (.val (.int i)) env2) (hc : Cont env2 oa va) (hs : SeqV va (xs.map f)) (hpl : PlainIx b := by exact fun _ _ => rfl) : Ev X (.Subscript a b pos) env (.val (f (ix xs i d))) env2 :=
  ev_ix (by rw [atI_map, atI_ix h d]; rfl) ha hb hc hs hpl
/-- a slot with what may be None, read where it is not -/
theorem ev_vO {f : α → Val} {t : Option α} {x : Str} (i : Nat) (d : α) (hs : t.isSome = true) (h : Ev X (.Name x pos) env (.val (encO f t)) env) : Ev X (.Name x pos) env (.val (f (t.getD d))) env :=
  h.as (by
    cases t with
    | none => cases hs
    | some y => rfl)
theorem Ev.unO {f : α → Val} {t : Option α} (d : α) (hs : t.isSome = true) (h : Ev X e env (.val (encO f t)) env1) : Ev X e env (.val (f (t.getD d))) env1 :=
  h.as (by
    cases t with
    | none => cases hs
    | some y => rfl)
section
variable [DecidableEq α] {f : α → Val} {n : Nat} {x y : α} {xs : List α}
theorem ev_eqT (L : Lw f n) (hn : n ≤ 64) (hu : X.A.units + 64 < cLine) (ha : Ev X a env oa env1) (hb : Ev X b env1 ob env2) (ca : Cont env2 oa (f x)) (cb : Cont env2 ob (f y)) : Ev X (.Compare a [.Eq] [b] pos) env (.val (.bl (decide (x = y)))) env2 := (ev_eq hu (L.good hn x) (L.good hn y) ha hb ca cb).as (by rw [L.eq])
theorem ev_neT (L : Lw f n) (hn : n ≤ 64) (hu : X.A.units + 64 < cLine) (ha : Ev X a env oa env1) (hb : Ev X b env1 ob env2) (ca : Cont env2 oa (f x)) (cb : Cont env2 ob (f y)) : Ev X (.Compare a [.NotEq] [b] pos) env (.val (.bl (!decide (x = y)))) env2 := (ev_ne hu (L.good hn x) (L.good hn y) ha hb ca cb).as (by rw [L.eq])
theorem et_eqT (L : Lw f n) (hn : n ≤ 64) (hu : X.A.units + 64 < cLine) (ha : Ev X a env oa env1) (hb : Ev X b env1 ob env2) (ca : Cont env2 oa (f x)) (cb : Cont env2 ob (f y)) : EvT X (.Compare a [.Eq] [b] pos) env (decide (x = y)) env2 := (et_eq hu (L.good hn x) (L.good hn y) ha hb ca cb).as (by rw [L.eq])
theorem et_neT (L : Lw f n) (hn : n ≤ 64) (hu : X.A.units + 64 < cLine) (ha : Ev X a env oa env1) (hb : Ev X b env1 ob env2) (ca : Cont env2 oa (f x)) (cb : Cont env2 ob (f y)) : EvT X (.Compare a [.NotEq] [b] pos) env (!decide (x = y)) env2 := (et_ne hu (L.good hn x) (L.good hn y) ha hb ca cb).as (by rw [L.eq])
theorem any_in (L : Lw f n) : ∀ xs : List α, ((xs.map f).any fun z => veq z (f x)) = decide (x ∈ xs)
  | [] => by simp
  | z :: zs => by
    rw [List.map_cons, List.any_cons, any_in L zs, L.eq]
    by_cases h : z = x
    · simp [h]
    · have h' : ¬ x = z := fun q => h q.symm
      simp [h, h']
theorem ev_inT {vb : Val} (L : Lw f n) (hn : n ≤ 62) (hu : X.A.units + 65 < cLine) (ha : Ev X a env oa env1) (hb : Ev X b env1 ob env2) (ca : Cont env2 oa (f x)) (cb : Cont env2 ob vb) (hs : SeqV vb (xs.map f)) (hm : behindInMarks .In b = false := by with_unfolding_all rfl) :
    Ev X (.Compare a [.In] [b] pos) env (.val (.bl (decide (x ∈ xs)))) env2 := (ev_in hu (L.good (by omega) x) ((lw_L L).good (by omega) xs) ha hb ca cb hs hm).as (by rw [any_in L])
theorem ev_niT {vb : Val} (L : Lw f n) (hn : n ≤ 62) (hu : X.A.units + 65 < cLine) (ha : Ev X a env oa env1) (hb : Ev X b env1 ob env2) (ca : Cont env2 oa (f x)) (cb : Cont env2 ob vb) (hs : SeqV vb (xs.map f)) (hm : behindInMarks .NotIn b = false := by with_unfolding_all rfl) :
    Ev X (.Compare a [.NotIn] [b] pos) env (.val (.bl (!decide (x ∈ xs)))) env2 := (ev_ni hu (L.good (by omega) x) ((lw_L L).good (by omega) xs) ha hb ca cb hs hm).as (by rw [any_in L])
theorem et_inT {vb : Val} (L : Lw f n) (hn : n ≤ 62) (hu : X.A.units + 65 < cLine) (ha : Ev X a env oa env1) (hb : Ev X b env1 ob env2) (ca : Cont env2 oa (f x)) (cb : Cont env2 ob vb) (hs : SeqV vb (xs.map f)) (hm : behindInMarks .In b = false := by with_unfolding_all rfl) :
    EvT X (.Compare a [.In] [b] pos) env (decide (x ∈ xs)) env2 := (et_in hu (L.good (by omega) x) ((lw_L L).good (by omega) xs) ha hb ca cb hs hm).as (by rw [any_in L])
theorem et_niT {vb : Val} (L : Lw f n) (hn : n ≤ 62) (hu : X.A.units + 65 < cLine) (ha : Ev X a env oa env1) (hb : Ev X b env1 ob env2) (ca : Cont env2 oa (f x)) (cb : Cont env2 ob vb) (hs : SeqV vb (xs.map f)) (hm : behindInMarks .NotIn b = false := by with_unfolding_all rfl) :
    EvT X (.Compare a [.NotIn] [b] pos) env (!decide (x ∈ xs)) env2 := (et_ni hu (L.good (by omega) x) ((lw_L L).good (by omega) xs) ha hb ca cb hs hm).as (by rw [any_in L])
end
theorem ev_isNT {f : α → Val} {t : Option α} {k : Nat} (nn : Nn f) (ha : Ev X a env (.val (encO f t)) env1) : Ev X (.Compare a [.Is] [.Constant .none k pos'] pos) env (.val (.bl t.isNone)) env1 := (ev_isN ha).as (by rw [isNon_O nn])
theorem ev_notNT {f : α → Val} {t : Option α} {k : Nat} (nn : Nn f) (ha : Ev X a env (.val (encO f t)) env1) : Ev X (.Compare a [.IsNot] [.Constant .none k pos'] pos) env (.val (.bl t.isSome)) env1 := (ev_notN ha).as (by rw [isNon_O nn]; cases t <;> rfl)
theorem et_isNT {f : α → Val} {t : Option α} {k : Nat} (nn : Nn f) (ha : Ev X a env (.val (encO f t)) env1) : EvT X (.Compare a [.Is] [.Constant .none k pos'] pos) env t.isNone env1 := (et_isN ha).as (isNon_O nn t)
theorem et_notNT {f : α → Val} {t : Option α} {k : Nat} (nn : Nn f) (ha : Ev X a env (.val (encO f t)) env1) : EvT X (.Compare a [.IsNot] [.Constant .none k pos'] pos) env t.isSome env1 := (et_notN ha).as (by rw [isNon_O nn]; cases t <;> rfl)
/-- a if c else b -/
theorem ev_ifT {f : α → Val} {x y : α} {p : Bool} (hc : EvT X c env p env1) (h1 : p = true → Ev X a env1 (.val (f x)) env2) (h0 : p = false → Ev X b env1 (.val (f y)) env2) : Ev X (.IfExp c a b pos) env (.val (f (if p = true then x else y))) env2 :=
  ev_ifG hc (fun h => by rw [if_pos h]; exact h1 h) fun h => by rw [if_neg (by rw [h]; decide)]; exact h0 h
/-- a block whose end is told by a value; an if in it -/
theorem ess_ifV {ts fs rest : List Stmt} {p : Bool} (outF : β → Out) {t1 t0 : β} (hc : EvT X c env p env1) (h1 : p = true → ∃ o, EvSs X M ts env1 o ∧ Then X M o rest (outF t1)) (h0 : p = false → ∃ o, EvSs X M fs env1 o ∧ Then X M o rest (outF t0)) :
    EvSs X M (.If c ts fs pos :: rest) env (outF (if p = true then t1 else t0)) :=
  ess_if hc (fun h => by rw [if_pos h]; exact h1 h) fun h => by rw [if_neg (by rw [h]; decide)]; exact h0 h
/-- an if both of whose ways go on: the slots behind it told by the answer -/
theorem es_ifJ {ts fs : List Stmt} {p : Bool} (envF : β → En) {t1 t0 : β} (hc : EvT X c env p env1) (h1 : p = true → EvSs X M ts env1 (.nx (envF t1))) (h0 : p = false → EvSs X M fs env1 (.nx (envF t0))) : EvS X M (.If c ts fs pos) env (.nx (envF (if p = true then t1 else t0))) :=
  es_if hc (fun h => by rw [if_pos h]; exact h1 h) fun h => by rw [if_neg (by rw [h]; decide)]; exact h0 h
/-- loops whose turns end by a value -/
def outLO {S R : Type} (envS : S → En) (outR : R → Out) : LO S R → Out
  | .nx s => .nx (envS s)
  | .bk s => .bk (envS s)
  | .rt r => outR r
def IsRt (o : Out) : Prop := ∃ r e, o = .rt r e
theorem lo_of {S R : Type} {envS : S → En} {outR : R → Out} (h : ∀ r, IsRt (outR r)) (l : LO S R) : Lo envS outR (outLO envS outR l) l := by
  cases l with
  | nx s => exact .nx s
  | bk s => exact .bk s
  | rt r =>
    obtain ⟨x, e, q⟩ := h r
    exact .rt r (by rw [q]; rfl) (fun e' z => by rw [q] at z; cases z) fun e' z => by rw [q] at z; cases z
/-- what follows a loop that may have returned -/
def afterL {S R B : Type} (t : S ⊕ R) (k : S → B) (r : R → B) : B := match t with | .inl s => k s | .inr x => r x
theorem then_loop {S R B : Type} {rest : List Stmt} {envS : S → En} {outR : R → Out} (outF : B → Out) {t : S ⊕ R} {k : S → B} {r : R → B} (h : ∀ s, t = .inl s → EvSs X M rest (envS s) (outF (k s))) (hr : ∀ x, t = .inr x → outR x = outF (r x) ∧ IsRt (outR x)) : Then X M (outL envS outR t) rest (outF (afterL t k r)) := by
  cases t with
  | inl s => exact h s rfl
  | inr x =>
    obtain ⟨e, y, z, q⟩ := hr x rfl
    show Then X M (outR x) rest (outF (r x))
    rw [← e, q]; rfl
end

/-! ### defs by name -/
structure DefAt (K : PySem.W.Frag) (mg : Str → Option Value) (x : Str) (st : Stmt) (ps : List Str) : Prop where
  ex : ∃ f fd, Fun K x x st f fd ∧ mg x = some (.ref f) ∧ Binds K fd ps []
structure CalOk (P : Program) (w : World) (K : PySem.W.Frag) (mg : Str → Option Value) (base : Heap) (x : Str) (ps : List Str) (k : Nat) (R : Rel) : Prop where
  ex : ∃ f fd, FnOk P w K mg base CX0 k f fd ps (SpOf K R) ∧ mg x = some (.ref f) ∧ PySem.W.keepIn K (.ref f) = true ∧ Binds K fd ps []
section
variable {P : Program} {w : World} {K : PySem.W.Frag} {mg : Str → Option Value} {base : Heap}
theorem DefAt.ok {x : Str} {st : Stmt} {N ps : List Str} {k : Nat} {R : Rel} (D : DefAt K mg x st ps) (S : FnScope N ps (defScope st)) (hps : ps.length ≤ N.length) (hlen : ∀ args r outs, R args r outs → args.length = ps.length ∧ outs.length = args.length ∧ SameMu args outs ∧ SameMu outs args)
    (hb : ∀ (f : Addr) (cdv : Value) (A : Around) (outer : List Env) (s : Shared) (H : Hp) (E : XK), Room k (A.deeper (envOfC x (defScope st) s.heap.objs.size f cdv)) → ∀ args r outs, R args r outs →
      ∃ out, EvSs (cxOf CX0 P w K mg base N x (defScope st) f cdv A outer s H E).nox (muI args) (defBody st) (env0 N.length args) out ∧ OutOk args r outs out) : CalOk P w K mg base x ps (k + 1) R := by
  obtain ⟨f, fd, F, m, b⟩ := D.ex
  exact ⟨f, fd, def_ok F S hps hlen fun cdv A outer s H E hr => hb f cdv A outer s H E hr, m, F.kp, b⟩
theorem CalOk.pe {X : Cx} {x : Str} {ps : List Str} {k j : Nat} {R : Rel} {e : Expr} {es : List Expr} {p pos : Pos} (C : CalOk X.prog X.w X.K X.mg X.base x ps k R) (hr : Room j X.A) (hj : k ≤ j) (hg : Gl X x)
    (hdb : (x == ("__debug__" : Str)) = false := by decide) (he : starEach (e :: es) X.env = (false, eval e X.env) :: starEach es X.env := by rfl) (hpl : (backTo pos (starEach es X.env)).any (·.1) = false := by rfl) :
    PE X (.Call (.Name x p) (e :: es) [] pos) (tCall (SpOf X.K R) [] E0 (wpA X (e :: es))) := by
  obtain ⟨f, fd, F, m, kp, b⟩ := C.ex
  exact pe_call F (hr.mono hj) hg m kp b .nil pass0 (pa_wp _) hdb he hpl
theorem CalOk.imp {x : Str} {ps : List Str} {k : Nat} {R R' : Rel} (C : CalOk P w K mg base x ps k R) (h : ∀ args r outs, R' args r outs → R args r outs) : CalOk P w K mg base x ps k R' := by
  obtain ⟨f, fd, F, r⟩ := C.ex
  exact ⟨f, fd, F.imp fun vs H Q E ⟨Z, args, r, outs, hR, q⟩ => ⟨Z, args, r, outs, h _ _ _ hR, q⟩, r⟩
end
end VL

/-! VL11: typed rules of containers, loops, comprehensions. -/
namespace VL
open PySem PySem.Spec PyProof.Rows L2

theorem map_eraseIdx {α β : Type} (f : α → β) : ∀ (l : List α) (j : Nat), (l.eraseIdx j).map f = (l.map f).eraseIdx j
  | [], j => by simp
  | x :: xs, 0 => rfl
  | x :: xs, j + 1 => by
    show f x :: (xs.eraseIdx j).map f = f x :: (xs.map f).eraseIdx j
    rw [map_eraseIdx f xs j]
theorem hu64 {k : Nat} {A : Around} (hr : Room k A) : A.units + 64 < cLine := by have := hr.un; omega
theorem hu65 {k : Nat} {A : Around} (hr : Room k A) : A.units + 65 < cLine := by have := hr.un; omega
section
variable {X : Cx} {M : List Nat} {st : Stmt} {a b c e : Expr} {es : List Expr} {env env1 env2 env3 : En} {oa ob oc o : Opd} {pos p1 p2 p3 : Pos} {α β : Type} {f : α → Val} {t u : List α} {d y : α} {k : Int}
/-- xs.append(e) -/
theorem ev_appendT (i : Nat) {x : Str} (ho : Ev X (.Name x p1) env (.slot i) env) (ha : Ev X a env (.val (f y)) env1) (h0 : env[i]? = some (Sl.ow (encL f u))) (h1 : env1[i]? = some (Sl.ow (encL f t))) (hz : t.length < sizeLine)
    (p : PE X (.Call (.Attribute (.Name x p1) "append" p2) [a] [] pos) (tBM X.K "list" rAppend (wpE X (.Name x p1)) (wpA X [a])) := by exact pe_bm PySem.F.plainAttrs_list PySem.F.slot_list_append PySem.F.type_list_append mt_append (pe_wp _) (pa_wp _)) (hst : starEach [a] X.env = [(false, eval a X.env)] := by rfl) :
    Ev X (.Call (.Attribute (.Name x p1) "append" p2) [a] [] pos) env (.val .non) (env1.set i (.ow (encL f (t ++ [y])))) := by
  have q := ev_append i ho h0 ha h1 (by rw [List.length_map]; exact hz) p hst
  have e : encL f (t ++ [y]) = .lst (t.map f ++ [f y]) := by unfold encL; rw [List.map_append]; rfl
  rw [e]
  exact q
/-- xs.pop() -/
theorem ev_popT (i : Nat) {x : Str} (d : α) (ho : Ev X (.Name x p1) env (.slot i) env) (h0 : env[i]? = some (Sl.ow (encL f t))) (hne : t ≠ [])
    (p : PE X (.Call (.Attribute (.Name x p1) "pop" p2) [] [] pos) (tBM0 X.K "list" rPop (wpE X (.Name x p1))) := by exact pe_bm0 PySem.F.plainAttrs_list PySem.F.slot_list_pop PySem.F.type_list_pop mt_pop (pe_wp _)) :
    Ev X (.Call (.Attribute (.Name x p1) "pop" p2) [] [] pos) env (.val (f (t.getLastD d))) (env.set i (.ow (encL f t.dropLast))) := by
  have e : t = t.dropLast ++ [t.getLastD d] := by
    rw [List.getLastD_eq_getLast?, List.getLast?_eq_getLast hne]
    exact (List.dropLast_concat_getLast hne).symm
  refine ev_pop i ho ?_ p
  rw [h0]
  have e2 : encL f t = .lst (t.dropLast.map f ++ [f (t.getLastD d)]) := by
    show Val.lst (t.map f) = _
    rw [← List.map_singleton, ← List.map_append, ← e]
  rw [e2]
/-- xs.pop(k) -/
theorem ev_popAtT (i : Nat) {x : Str} (d : α) (ho : Ev X (.Name x p1) env (.slot i) env) (ha : Ev X a env (.val (.int k)) env1) (h0 : env[i]? = some (Sl.ow (encL f u))) (h1 : env1[i]? = some (Sl.ow (encL f t))) (hk : IxOk t k) (hz : t.length < 2 ^ 63)
    (p : PE X (.Call (.Attribute (.Name x p1) "pop" p2) [a] [] pos) (tBM X.K "list" rPopAt (wpE X (.Name x p1)) (wpA X [a])) := by exact pe_bm PySem.F.plainAttrs_list PySem.F.slot_list_pop PySem.F.type_list_pop mt_popAt (pe_wp _) (pa_wp _)) (hst : starEach [a] X.env = [(false, eval a X.env)] := by rfl) :
    Ev X (.Call (.Attribute (.Name x p1) "pop" p2) [a] [] pos) env (.val (f (popAt t k d).1)) (env1.set i (.ow (encL f (popAt t k d).2))) := by
  obtain ⟨j, e, hj⟩ := ixN_of hk
  have e1 : popAt t k d = (t.getD j d, t.eraseIdx j) := by unfold popAt; rw [e]
  rw [e1]
  have e2 : encL f (t.eraseIdx j) = .lst ((t.map f).eraseIdx j) := by unfold encL; rw [map_eraseIdx]
  rw [e2]
  refine ev_popAt (k := k) (j := j) i ho h0 ha h1 (by rw [List.length_map]; exact e) ?_ (by rw [List.length_map]; exact hz) p hst
  rw [List.getElem?_map, List.getElem?_eq_getElem hj, List.getD_eq_getElem?_getD, List.getElem?_eq_getElem hj]; rfl
theorem ev_reverseT (i : Nat) {x : Str} (ho : Ev X (.Name x p1) env (.slot i) env) (h0 : env[i]? = some (Sl.ow (encL f t)))
    (p : PE X (.Call (.Attribute (.Name x p1) "reverse" p2) [] [] pos) (tBM0 X.K "list" rReverse (wpE X (.Name x p1))) := by exact pe_bm0 PySem.F.plainAttrs_list PySem.F.slot_list_reverse PySem.F.type_list_reverse mt_reverse (pe_wp _)) :
    Ev X (.Call (.Attribute (.Name x p1) "reverse" p2) [] [] pos) env (.val .non) (env.set i (.ow (encL f t.reverse))) := by
  have e : encL f t.reverse = .lst (t.map f).reverse := by unfold encL; rw [List.map_reverse]
  rw [e]
  exact ev_reverse i ho h0 p
/-- xs[k] = e -/
theorem es_setIxT (i : Nat) (pp : PS X st (tAsg (wpE X e) (gSub (wpE X a) (wpE X b) rSetL))) (he : Ev X e env (.val (f y)) env1) (ho : Ev X a env1 (.slot i) env1) (hb : Ev X b env1 (.val (.int k)) env2) (h1 : env2[i]? = some (Sl.ow (encL f t))) (hk : IxOk t k) :
    EvS X M st env (.nx (env2.set i (.ow (encL f (setI t k y))))) := by
  obtain ⟨j, e, hj⟩ := ixN_of hk
  have e1 : setI t k y = t.set j y := by unfold setI; rw [e]
  have e2 : encL f (setI t k y) = .lst ((t.map f).set j (f y)) := by rw [e1]; unfold encL; rw [List.map_set]
  rw [e2]
  exact es_setIx i pp he ho hb h1 (by rw [List.length_map]; exact e)
theorem ev_catTT (hz : t.length + u.length ≤ sizeLine) (ha : Ev X a env (.val (encT f t)) env1) (hb : Ev X b env1 (.val (encT f u)) env2) : Ev X (.BinOp a .Add b pos) env (.val (encT f (t ++ u))) env2 := by
  have e : encT f (t ++ u) = .tup (t.map f ++ u.map f) := by unfold encT; rw [List.map_append]
  rw [e]
  exact ev_catT (by rw [List.length_map, List.length_map]; exact hz) ha hb
variable {lo hi : Option Expr} {ol oh : Option Int}
theorem en_slLT (ha : Ev X a env oa env1) (hl : EvP X lo env1 ol env2) (hh : EvP X hi env2 oh env3) (hc : Cont env3 oa (encL f t)) : EvN X (.Subscript a (.Slice lo hi none p2) pos) env (encL f (cutL t ol oh)) env3 := by
  have e : encL f (cutL t ol oh) = .lst (cutL (t.map f) ol oh) := by unfold encL; rw [cutL_map]
  rw [e]
  exact en_slL ha hl hh hc
theorem ev_slTT (ha : Ev X a env (.val (encT f t)) env1) (hl : EvP X lo env1 ol env2) (hh : EvP X hi env2 oh env3) : Ev X (.Subscript a (.Slice lo hi none p2) pos) env (.val (encT f (cutL t ol oh))) env3 := by
  have e : encT f (cutL t ol oh) = .tup (cutL (t.map f) ol oh) := by unfold encT; rw [cutL_map]
  rw [e]
  exact ev_slT ha hl hh
theorem en_revLT {kk : Nat} (ha : Ev X a env oa env1) (hc : Cont env1 oa (encL f t)) : EvN X (.Subscript a (.Slice none none (some (.UnaryOp .USub (.Constant (.int 1) kk p1) p2)) p3) pos) env (encL f t.reverse) env1 := by
  have e : encL f t.reverse = .lst (t.map f).reverse := by unfold encL; rw [List.map_reverse]
  rw [e]
  exact en_revL ha hc
theorem ev_lenT {va : Val} {p' : Pos} (hm : X.mg "len" = none) (ha : Ev X a env oa env1) (hc : Cont env1 oa va) (hs : SeqV va (t.map f)) (hg : Gl X "len" := by rfl) (hst : starEach [a] X.env = [(false, eval a X.env)] := by rfl) :
    Ev X (.Call (.Name "len" p') [a] [] pos) env (.val (.int t.length)) env1 := (ev_len hm ha hc hs hg hst).as (by rw [List.length_map])
/-- name = e: the usual forms -/
theorem es_setV {i : Nat} {x : Str} {v : Val} (pp : PS X (.Assign [.Name x p1] e pos) (tAsg (wpE X e) (gName i))) (he : Ev X e env (.val v) env1) (hi : i < env1.length) (hM : i ∉ M) : EvS X M (.Assign [.Name x p1] e pos) env (.nx (env1.set i (.im v))) := es_set pp he.r hi hM
theorem es_setO {i : Nat} {x : Str} {v : Val} (pp : PS X (.Assign [.Name x p1] e pos) (tAsg (wpE X e) (gName i))) (he : EvN X e env v env1) (hi : i < env1.length) (hM : i ∉ M) : EvS X M (.Assign [.Name x p1] e pos) env (.nx (env1.set i (.ow v))) := es_setN pp he.r hi hM
theorem es_augI {i : Nat} {x : Str} {op : Operator} {g : Int → Int → Int} {m n : Int} (pp : PS X (.AugAssign (.Name x p1) op e pos) (tAug i (wpE X e) (ipI g))) (hx : env[i]? = some (Sl.im (.int m))) (hx1 : env1[i]? = some (Sl.im (.int m))) (he : Ev X e env (.val (.int n)) env1) (hM : i ∉ M) :
    EvS X M (.AugAssign (.Name x p1) op e pos) env (.nx (env1.set i (.im (.int (g m n))))) := es_aug pp hx hx1 he (fun Z H σ Q x y hH rx ry k => ⟨m, n, rep_int' (K := X.K) (Z := Z) (H := H) rx, rep_int' (K := X.K) (Z := Z) (H := H) ry, k Z H _ (Stp.refl ..) hH (rep_int (K := X.K) (Z := Z) (H := H) _)⟩) hM
end

/-! ### comprehensions -/
section
variable {X : Cx} {scope : Scope} {tg iter elt c : Expr} {wi : TI} {env env1 : En} {pos : Pos} {α β S : Type} {own : List (Str × Nat)} {v : Val}
theorem en_lc0 (hc : X.calm = true) (hN : X.N.Nodup) (hi : PI X tg iter wi) (ok : BlkOk X.N X.env.scope scope own) (h : EvNR X.K (tLc wi (gA X scope tg) (tA X scope []) (eA X scope elt) (own.map (·.2))) env v env1) (hs : ∀ x, foldedSetIterable iter X.env x = pure x := by intro _; rfl) :
    EvN X (.ListComp elt [⟨tg, iter, [], 0⟩] scope pos) env v env1 :=
  EvNR.ev (pe_lc hc hN hi ok (fun s H C cl fp => pg_A X scope tg s H C cl fp) (fun s H C cl fp => pts_A0 X scope s H C cl fp) (fun s H C cl fp => pe_A X scope elt s H C cl fp) hs) h
theorem en_lc1 (hc : X.calm = true) (hN : X.N.Nodup) (hi : PI X tg iter wi) (ok : BlkOk X.N X.env.scope scope own) (h : EvNR X.K (tLc wi (gA X scope tg) (tA X scope [c]) (eA X scope elt) (own.map (·.2))) env v env1) (hs : ∀ x, foldedSetIterable iter X.env x = pure x := by intro _; rfl) :
    EvN X (.ListComp elt [⟨tg, iter, [c], 0⟩] scope pos) env v env1 :=
  EvNR.ev (pe_lc hc hN hi ok (fun s H C cl fp => pg_A X scope tg s H C cl fp) (fun s H C cl fp => pts_A1 X scope c s H C cl fp) (fun s H C cl fp => pe_A X scope elt s H C cl fp) hs) h
/-- name = [..] on its line -/
theorem es_lc0 {M : List Nat} {i : Nat} {y : Str} {py spos : Pos} (hc : X.calm = true) (hN : X.N.Nodup) (hy : X.N[i]? = some y) (hyl : X.env.scope.names.lookup y = some .local)
    (hsw : swapsWith (.ListComp elt [⟨tg, iter, [], 0⟩] scope pos) (some (.Name y py)) spos.line X.env = pure true) (hi : PI X tg iter wi) (ok : BlkOk X.N X.env.scope scope own) (hs : ∀ x, foldedSetIterable iter X.env x = pure x := by intro _; rfl) :
    PS X (.Assign [.Name y py] (.ListComp elt [⟨tg, iter, [], 0⟩] scope pos) spos) (tAsg (tLc wi (gA X scope tg) (tA X scope []) (eA X scope elt) (own.map (·.2))) (gName i)) :=
  ps_setLc hc hN hy hyl hsw hi ok (fun s H C cl fp => pg_A X scope tg s H C cl fp) (fun s H C cl fp => pts_A0 X scope s H C cl fp) (fun s H C cl fp => pe_A X scope elt s H C cl fp) hs
theorem es_lc1 {M : List Nat} {i : Nat} {y : Str} {py spos : Pos} (hc : X.calm = true) (hN : X.N.Nodup) (hy : X.N[i]? = some y) (hyl : X.env.scope.names.lookup y = some .local)
    (hsw : swapsWith (.ListComp elt [⟨tg, iter, [c], 0⟩] scope pos) (some (.Name y py)) spos.line X.env = pure true) (hi : PI X tg iter wi) (ok : BlkOk X.N X.env.scope scope own) (hs : ∀ x, foldedSetIterable iter X.env x = pure x := by intro _; rfl) :
    PS X (.Assign [.Name y py] (.ListComp elt [⟨tg, iter, [c], 0⟩] scope pos) spos) (tAsg (tLc wi (gA X scope tg) (tA X scope [c]) (eA X scope elt) (own.map (·.2))) (gName i)) :=
  ps_setLc hc hN hy hyl hsw hi ok (fun s H C cl fp => pg_A X scope tg s H C cl fp) (fun s H C cl fp => pts_A1 X scope c s H C cl fp) (fun s H C cl fp => pe_A X scope elt s H C cl fp) hs
variable {vs : List Nat} {ifs : List Expr}
/-- a pure comprehension without a test -/
theorem lcM (encA : α → Val) (encB : β → Val) (l : List α) (g : α → β) (ok : α → Prop) (hsrc : SrcR X.K wi env (l.map encA) env1) (hok : ∀ x ∈ l, ok x)
    (ht : ∀ x, x ∈ l → ok x → ∃ envx, (∀ s' H0 C cl fp, EvG (Bk X scope s' H0 C cl fp) (oth env1.length vs) tg (encA x) (wipeE env1 vs) envx) ∧ wipeE envx vs = wipeE env1 vs ∧ (∀ s' H0 C cl fp, Ev (Bk X scope s' H0 C cl fp) elt envx (.val (encB (g x))) envx)) :
    EvNR X.K (tLc wi (gA X scope tg) (tA X scope []) (eA X scope elt) vs) env (encL encB (l.map g)) env1 := by
  have q := lcN (X := X) (scope := scope) (tg := tg) (elt := elt) (ifs := []) (wi := wi) (env := env) (vs := vs) (fun _ : Unit => env1) () encA encB l (fun _ _ => true) (fun _ x => (g x, ())) (fun _ x => ok x) (fun _ _ => True) env1.length hsrc
    (lcOk_pure (p := fun _ => true) (g := g) fun x hx => ⟨hok x hx, fun _ => trivial⟩) (fun _ => rfl) (fun _ x hx hx' => by
      obtain ⟨envx, h1, h2, h3⟩ := ht x hx hx'
      exact ⟨envx, h1, h2, eta_nil, fun _ _ => ⟨envx, h3, h2, fun _ _ => rfl⟩⟩)
  rw [lcL_pure] at q
  have e : l.filter (fun _ => true) = l := List.filter_eq_self.mpr fun _ _ => rfl
  rw [e] at q
  exact q
/-- .. with a test -/
theorem lcF (encA : α → Val) (encB : β → Val) (l : List α) (p : α → Bool) (g : α → β) (okp okg : α → Prop) (hsrc : SrcR X.K wi env (l.map encA) env1) (hok : ∀ x ∈ l, okp x ∧ (p x = true → okg x))
    (ht : ∀ x, x ∈ l → okp x → ∃ envx, (∀ s' H0 C cl fp, EvG (Bk X scope s' H0 C cl fp) (oth env1.length vs) tg (encA x) (wipeE env1 vs) envx) ∧ wipeE envx vs = wipeE env1 vs ∧ (∀ s' H0 C cl fp, EvT (Bk X scope s' H0 C cl fp) c envx (p x) envx) ∧
      (p x = true → okg x → ∀ s' H0 C cl fp, Ev (Bk X scope s' H0 C cl fp) elt envx (.val (encB (g x))) envx)) :
    EvNR X.K (tLc wi (gA X scope tg) (tA X scope [c]) (eA X scope elt) vs) env (encL encB ((l.filter p).map g)) env1 := by
  have q := lcN (X := X) (scope := scope) (tg := tg) (elt := elt) (ifs := [c]) (wi := wi) (env := env) (vs := vs) (fun _ : Unit => env1) () encA encB l (fun _ x => p x) (fun _ x => (g x, ())) (fun _ x => okp x) (fun _ x => okg x) env1.length hsrc
    (lcOk_pure (p := p) (g := g) hok) (fun _ => rfl) (fun _ x hx hx' => by
      obtain ⟨envx, h1, h2, h3, h4⟩ := ht x hx hx'
      exact ⟨envx, h1, h2, eta_one h3, fun hp hg => ⟨envx, h4 hp hg, h2, fun _ _ => rfl⟩⟩)
  rw [lcL_pure] at q
  exact q
end

/-! ### loops without a return -/
section
variable {X : Cx} {M : List Nat} {body : List Stmt} {tg iter c : Expr} {env env1 : En} {va : Val} {pos : Pos} {α S : Type}
/-- for, every turn of which goes on -/
theorem es_forF (envS : S → En) (f : S → α → S) (ok : S → α → Prop) (enc : α → Val) (l : List α) (s0 : S) (hcalm : X.calm = true) (hp : PassesOwn (model X.prog X.w) X.A X.env X.xe)
    (hi : Ev X iter env (.val va) (envS s0)) (hs : SeqV va (l.map enc)) (hok : foldOk f ok s0 l)
    (hb : ∀ s x, x ∈ l → ok s x → ∃ envt, EvG X M tg (enc x) (envS s) envt ∧ EvSs X M body envt (.nx (envS (f s x))))
    (hf : ∀ x, foldedSetIterable iter X.env x = pure x := by intro _; rfl) : EvS X M (.For tg iter body [] pos) env (.nx (envS (l.foldl f s0))) := by
  have q := es_for (R := Empty) (X := X) (M := M) (envS := envS) (outR := fun x => nomatch x) (fun s x => .nx (f s x)) ok enc l s0 (tg := tg) (body := body) (pos := pos) hcalm hp hi hs (loopOk_nx hok) (fun s x hx hx' => by
    obtain ⟨envt, h1, h2⟩ := hb s x hx hx'
    exact ⟨envt, _, h1, h2, .nx _⟩) hf
  rw [loopL_nx] at q
  exact q
theorem es_forF1 {a : Expr} {p p' : Pos} (envS : S → En) (f : S → Int → S) (ok : S → Int → Prop) (n : Int) (s0 : S) (hcalm : X.calm = true) (hp : PassesOwn (model X.prog X.w) X.A X.env X.xe) (hm : X.mg "range" = none)
    (ha : Ev X a env (.val (.int n)) (envS s0)) (hn : -(2 ^ 62) ≤ n ∧ n < 2 ^ 62) (hok : foldOk f ok s0 (irange 0 n))
    (hb : ∀ s x, x ∈ irange 0 n → ok s x → ∃ envt, EvG X M tg (.int x) (envS s) envt ∧ EvSs X M body envt (.nx (envS (f s x)))) (hg : Gl X "range" := by rfl) (hst : starEach [a] X.env = [(false, eval a X.env)] := by rfl)
    (hf : ∀ x, foldedSetIterable (.Call (.Name "range" p) [a] [] p') X.env x = pure x := by intro _; rfl) : EvS X M (.For tg (.Call (.Name "range" p) [a] [] p') body [] pos) env (.nx (envS ((irange 0 n).foldl f s0))) := by
  have q := es_forR1 (R := Empty) (X := X) (M := M) (envS := envS) (outR := fun x => nomatch x) (tg := tg) (body := body) (pos := pos) (p := p) (p' := p') (fun s x => .nx (f s x)) ok n s0 hcalm hp hm ha hn (loopOk_nx hok) (fun s x hx hx' => by
    obtain ⟨envt, h1, h2⟩ := hb s x hx hx'
    exact ⟨envt, _, h1, h2, .nx _⟩) hg hst hf
  rw [loopL_nx] at q
  exact q
theorem es_forF2 {a b : Expr} {p p' : Pos} (envS : S → En) (f : S → Int → S) (ok : S → Int → Prop) (m n : Int) (s0 : S) (hcalm : X.calm = true) (hp : PassesOwn (model X.prog X.w) X.A X.env X.xe) (hm : X.mg "range" = none)
    (ha : Ev X a env (.val (.int m)) env1) (hb' : Ev X b env1 (.val (.int n)) (envS s0)) (hn : (-(2 ^ 62) ≤ m ∧ m < 2 ^ 62) ∧ -(2 ^ 62) ≤ n ∧ n < 2 ^ 62) (hok : foldOk f ok s0 (irange m n))
    (hb : ∀ s x, x ∈ irange m n → ok s x → ∃ envt, EvG X M tg (.int x) (envS s) envt ∧ EvSs X M body envt (.nx (envS (f s x)))) (hg : Gl X "range" := by rfl) (hst : starEach [a, b] X.env = [(false, eval a X.env), (false, eval b X.env)] := by rfl) (hst2 : starEach [b] X.env = [(false, eval b X.env)] := by rfl)
    (hf : ∀ x, foldedSetIterable (.Call (.Name "range" p) [a, b] [] p') X.env x = pure x := by intro _; rfl) : EvS X M (.For tg (.Call (.Name "range" p) [a, b] [] p') body [] pos) env (.nx (envS ((irange m n).foldl f s0))) := by
  have q := es_forR2 (R := Empty) (X := X) (M := M) (envS := envS) (outR := fun x => nomatch x) (tg := tg) (body := body) (pos := pos) (p := p) (p' := p') (fun s x => .nx (f s x)) ok m n s0 hcalm hp hm ha hb' hn (loopOk_nx hok) (fun s x hx hx' => by
    obtain ⟨envt, h1, h2⟩ := hb s x hx hx'
    exact ⟨envt, _, h1, h2, .nx _⟩) hg hst hst2 hf
  rw [loopL_nx] at q
  exact q
/-- while, every turn of which goes on -/
def whileS {S : Type} (c : S → Bool) (f : S → S) : Nat → S → S
  | 0, s => s
  | n + 1, s => if c s = true then whileS c f n (f s) else s
def whileSOk {S : Type} (c : S → Bool) (f : S → S) (okc ok : S → Prop) : Nat → S → Prop
  | 0, s => okc s ∧ c s = false
  | n + 1, s => okc s ∧ (c s = true → ok s ∧ whileSOk c f okc ok n (f s))
theorem whileL_nx {S R : Type} (c : S → Bool) (f : S → S) : ∀ (n : Nat) (s : S), whileL (R := R) c (fun s => .nx (f s)) n s = .inl (whileS c f n s)
  | 0, s => rfl
  | n + 1, s => by
    unfold whileL whileS
    by_cases h : c s = true
    · rw [if_pos h, if_pos h]; exact whileL_nx c f n (f s)
    · rw [if_neg h, if_neg h]
theorem whileOk_nx {S R : Type} {c : S → Bool} {f : S → S} {okc ok : S → Prop} : ∀ {n : Nat} {s : S}, whileSOk c f okc ok n s → whileOk (R := R) c (fun s => .nx (f s)) okc ok n s
  | 0, s, h => h
  | n + 1, s, h => ⟨h.1, fun q => ⟨(h.2 q).1, whileOk_nx (h.2 q).2⟩⟩
theorem es_whileS (envS : S → En) (cs : S → Bool) (f : S → S) (okc ok : S → Prop) (n : Nat) (s0 : S) (hp : PassesOwn (model X.prog X.w) X.A X.env X.xe) (hok : whileSOk cs f okc ok n s0)
    (hc : ∀ s, okc s → EvT X c (envS s) (cs s) (envS s)) (hb : ∀ s, ok s → cs s = true → EvSs X M body (envS s) (.nx (envS (f s)))) : EvS X M (.While c body [] pos) (envS s0) (.nx (envS (whileS cs f n s0))) := by
  have q := es_while (R := Empty) (X := X) (M := M) (envS := envS) (outR := fun x => nomatch x) (body := body) (pos := pos) cs (fun s => .nx (f s)) okc ok n s0 hp (whileOk_nx hok) hc fun s h1 h2 => ⟨_, hb s h1 h2, .nx _⟩
  rw [whileL_nx] at q
  exact q
/-- a bound on a while: what falls at each turn -/
theorem whileSOk_by {S : Type} {c : S → Bool} {f : S → S} {okc ok : S → Prop} (I : S → Prop) (m : S → Nat) (h : ∀ s, I s → okc s ∧ (c s = true → ok s ∧ I (f s) ∧ m (f s) < m s)) : ∀ (n : Nat) (s : S), I s → m s < n → whileSOk c f okc ok n s
  | 0, s, _, hn => absurd hn (Nat.not_lt_zero _)
  | n + 1, s, hi, hn => ⟨(h s hi).1, fun q => ⟨((h s hi).2 q).1, whileSOk_by I m h n (f s) ((h s hi).2 q).2.1 (by have := ((h s hi).2 q).2.2; omega)⟩⟩
theorem whileS_by {S : Type} {c : S → Bool} {f : S → S} (I : S → Prop) (m : S → Nat) (h : ∀ s, I s → c s = true → I (f s) ∧ m (f s) < m s) : ∀ (n : Nat) (s : S), I s → m s < n → I (whileS c f n s) ∧ c (whileS c f n s) = false
  | 0, s, _, hn => absurd hn (Nat.not_lt_zero _)
  | n + 1, s, hi, hn => by
    unfold whileS
    by_cases q : c s = true
    · rw [if_pos q]
      exact whileS_by I m h n (f s) (h s hi q).1 (by have := (h s hi q).2; omega)
    · rw [if_neg q]
      exact ⟨hi, by simpa using q⟩
end
end VL

/-! VL12: blocks with what follows them. -/
namespace VL
open PySem PySem.Spec PyProof.Rows L2

def wpC (X : Cx) : List (List Stmt) → TS
  | [] => fun D => D.nx
  | k :: ks => fun D => wpSs X k { D with nx := wpC X ks D }
/-- blocks, one behind the other -/
def EvC (X : Cx) (M : List Nat) (ks : List (List Stmt)) (env : En) (out : Out) : Prop := ∀ (Z : ZS) (H : Hp) (σ : Stt) (D : Ends), Hld X.K Z H σ env → Post X M Z H (Own env σ) σ D out → wpC X ks D σ H
section
variable {X : Cx} {M : List Nat} {st : Stmt} {sts ts fs : List Stmt} {ks : List (List Stmt)} {c : Expr} {env env1 env2 : En} {out : Out} {v : Val} {pos : Pos} {p : Bool} {β S R : Type}
theorem EvC.ss (h : EvC X M [sts] env out) : EvSs X M sts env out := h
theorem ec_end : EvC X M [] env (.nx env) := fun Z H σ D hH P => P Z H σ (Stp.refl ..) hH (Fix.refl σ)
theorem ec_nil (h : EvC X M ks env out) : EvC X M ([] :: ks) env out := fun Z H σ D hH P => wp_pss pss_nil (h Z H σ D hH P)
theorem ec_cons (h1 : EvS X M st env (.nx env1)) (h2 : EvC X M (sts :: ks) env1 out) : EvC X M ((st :: sts) :: ks) env out := fun Z H σ D hH P => by
  refine wp_pss (pss_cons (ps_wp st) (pss_wp sts)) ?_
  exact h1 Z H σ _ hH fun Z1 H1 σ1 s hh f => h2 Z1 H1 σ1 D hh (P.mono s f)
theorem ec_last (h1 : EvS X M st env out) (hl : out.leaves = true) : EvC X M ((st :: sts) :: ks) env out := fun Z H σ D hH P => by
  refine wp_pss (pss_cons (ps_wp st) (pss_wp sts)) ?_
  exact h1 Z H σ _ hH ((P.ends hl).ends hl)
theorem ec_if (hc : EvT X c env p env1) (h1 : p = true → EvC X M (ts :: sts :: ks) env1 out) (h0 : p = false → EvC X M (fs :: sts :: ks) env1 out) : EvC X M ((.If c ts fs pos :: sts) :: ks) env out := fun Z H σ D hH P => by
  refine wp_pss (pss_cons (ps_if (pt_wp c) (pss_wp ts) (pss_wp fs)) (pss_wp sts)) ?_
  refine hc Z H σ _ hH fun Z1 H1 s hh => ?_
  have P1 := P.mono s (Fix.refl σ)
  cases p with
  | true => exact h1 rfl Z1 H1 σ D hh P1
  | false => exact h0 rfl Z1 H1 σ D hh P1
theorem ec_ifV (outF : β → Out) {t1 t0 : β} (hc : EvT X c env p env1) (h1 : p = true → EvC X M (ts :: sts :: ks) env1 (outF t1)) (h0 : p = false → EvC X M (fs :: sts :: ks) env1 (outF t0)) (ho : out = outF (if p = true then t1 else t0) := by rfl) : EvC X M ((.If c ts fs pos :: sts) :: ks) env out :=
  ho ▸ ec_if hc (fun h => by rw [if_pos h]; exact h1 h) fun h => by rw [if_neg (by rw [h]; decide)]; exact h0 h
theorem ec_loop {envS : S → En} {outR : R → Out} {t : S ⊕ R} (outF : β → Out) {k : S → β} {r : R → β} (h1 : EvS X M st env (outL envS outR t)) (h : ∀ s, t = .inl s → EvC X M (sts :: ks) (envS s) (outF (k s))) (hr : ∀ x, outR x = outF (r x) ∧ IsRt (outR x)) (ho : out = outF (afterL t k r) := by rfl) :
    EvC X M ((st :: sts) :: ks) env out := by
  subst ho
  cases t with
  | inl s => exact ec_cons h1 (h s rfl)
  | inr x =>
    obtain ⟨e, y, z, q⟩ := hr x
    have h1' : EvS X M st env (outR x) := h1
    show EvC X M ((st :: sts) :: ks) env (outF (r x))
    rw [← e]
    exact ec_last h1' (by rw [q]; rfl)
theorem EvC.wk (h : EvC X M ks env1 out) (k : Wk env env1) : EvC X M ks env out := fun Z H σ D hH P =>
  h Z H σ D (hH.wk k) (P.mono ((Stp.refl Z H (Own env σ)).sub fun a o => k.own a o) (Fix.refl σ))
theorem EvC.frz (i : Nat) (e : env[i]? = some (Sl.ow v)) (h : EvC X M ks (env.set i (.im v)) out) : EvC X M ks env out := fun Z H σ D hH P => by
  obtain ⟨Z', h', s⟩ := hH.fr e
  exact h Z' H σ D h' (P.mono s (Fix.refl σ))
theorem EvC.wkN (h : EvC X M ks env (.nx env1)) (k : Wk env1 env2) : EvC X M ks env (.nx env2) := fun Z H σ D hH P =>
  h Z H σ D hH fun Z' H' σ' s h' f => P Z' H' σ' (s.sub fun a o => k.own a o) (h'.wk k) f
theorem EvC.wkB (h : EvC X M ks env (.bk env1)) (k : Wk env1 env2) : EvC X M ks env (.bk env2) := fun Z H σ D hH P =>
  h Z H σ D hH fun Z' H' σ' s h' f => P Z' H' σ' (s.sub fun a o => k.own a o) (h'.wk k) f
theorem EvC.wkR {r : Rt} (h : EvC X M ks env (.rt r env1)) (k : Wk env1 env2) : EvC X M ks env (.rt r env2) := fun Z H σ D hH P =>
  h Z H σ D hH fun Z' H' σ' w s h' f rr => P Z' H' σ' w (s.sub fun a o => o.elim (fun o => .inl (k.own a o)) .inr) (h'.wk k) f (by
    cases r with
    | im v => exact rr
    | ow v => obtain ⟨a, e, t, nz, no⟩ := rr; exact ⟨a, e, t, nz, fun o => no (k.own a o)⟩)
/-- a block's end told as the same end -/
theorem EvC.as {out' : Out} (h : EvC X M ks env out) (e : out = out') : EvC X M ks env out' := e ▸ h
theorem EvC.ren (h : EvC X M ks env1 out) (e : env = env1) : EvC X M ks env out := e ▸ h
end
end VL

/-! VL13: what printed proofs use. -/
namespace VL
open PySem PySem.Spec PyProof.Rows L2

theorem foldOk_true {α S : Type} {f : S → α → S} {ok : S → α → Prop} (h : ∀ s x, ok s x) : ∀ (s : S) (l : List α), foldOk f ok s l
  | _, [] => trivial
  | s, x :: xs => ⟨h s x, foldOk_true h (f s x) xs⟩
theorem loopOk_true {α S R : Type} {f : S → α → LO S R} {ok : S → α → Prop} (h : ∀ s x, ok s x) : ∀ (s : S) (l : List α), loopOk f ok s l
  | _, [] => trivial
  | s, x :: xs => by
    refine ⟨h s x, ?_⟩
    cases f s x with
    | nx s' => exact loopOk_true h s' xs
    | bk s' => trivial
    | rt r => trivial
/-- the lent places of arguments and of what is behind a call -/
def sameMuB : List Arg → List Arg → Bool
  | .im _ :: a, .im _ :: b => sameMuB a b
  | .mu _ :: a, .mu _ :: b => sameMuB a b
  | [], [] => true
  | _, _ => false
theorem sameMu_of : ∀ {a b : List Arg}, sameMuB a b = true → a.length = b.length ∧ SameMu a b ∧ SameMu b a
  | [], [], _ => ⟨rfl, fun i v e => by simp at e, fun i v e => by simp at e⟩
  | .im x :: a, .im y :: b, h => by
    obtain ⟨l, s1, s2⟩ := sameMu_of (a := a) (b := b) h
    refine ⟨by simp [l], fun i v e => ?_, fun i v e => ?_⟩
    · cases i with
      | zero => cases e
      | succ i => exact s1 i v e
    · cases i with
      | zero => cases e
      | succ i => exact s2 i v e
  | .mu x :: a, .mu y :: b, h => by
    obtain ⟨l, s1, s2⟩ := sameMu_of (a := a) (b := b) h
    refine ⟨by simp [l], fun i v e => ?_, fun i v e => ?_⟩
    · cases i with
      | zero => exact ⟨y, rfl⟩
      | succ i => exact s1 i v e
    · cases i with
      | zero => exact ⟨x, rfl⟩
      | succ i => exact s2 i v e
  | [], .im _ :: _, h => nomatch h
  | [], .mu _ :: _, h => nomatch h
  | .im _ :: _, [], h => nomatch h
  | .mu _ :: _, [], h => nomatch h
  | .im _ :: _, .mu _ :: _, h => nomatch h
  | .mu _ :: _, .im _ :: _, h => nomatch h
theorem len_of {args outs : List Arg} {ps : List Str} (h : args.length = ps.length) (q : sameMuB args outs = true) : args.length = ps.length ∧ outs.length = args.length ∧ SameMu args outs ∧ SameMu outs args := ⟨h, (sameMu_of q).1.symm, (sameMu_of q).2⟩
theorem nm {i : Nat} {M : List Nat} (h : M.contains i = false) : i ∉ M := fun z => by rw [List.contains_iff_mem.mpr z] at h; cases h
inductive OE : List Arg → En → Prop
  | nil {e : En} : OE [] e
  | mu {v : Val} {a : List Arg} {e : En} (h : OE a e) : OE (.mu v :: a) (.ow v :: e)
  | im {v : Val} {s : Sl} {a : List Arg} {e : En} (h : OE a e) : OE (.im v :: a) (s :: e)
theorem OE.ok {a : List Arg} {e : En} (h : OE a e) : ∀ (i : Nat) (v : Val), a[i]? = some (Arg.mu v) → e[i]? = some (Sl.ow v) := by
  induction h with
  | nil => intro i v q; simp at q
  | mu h ih =>
    intro i v q
    cases i with
    | zero => cases q; rfl
    | succ i => exact ih i v q
  | im h ih =>
    intro i v q
    cases i with
    | zero => cases q
    | succ i => exact ih i v q
theorem isRt {r : Rt} {e : En} : IsRt (.rt r e) := ⟨r, e, rfl⟩
def inlOf {S : Type} : S ⊕ Empty → S | .inl s => s | .inr r => nomatch r
def noR (r : Empty) : Out := nomatch r
/-- a loop with break, without return: the state behind it -/
def loopB {α S : Type} (f : S → α → LO S Empty) (s : S) (l : List α) : S := inlOf (loopL f s l)
def whileB {S : Type} (c : S → Bool) (f : S → LO S Empty) (n : Nat) (s : S) : S := inlOf (whileL c f n s)
theorem outL_B {S : Type} {envS : S → En} (t : S ⊕ Empty) : outL envS noR t = .nx (envS (inlOf t)) := by
  cases t with
  | inl s => rfl
  | inr r => exact nomatch r
section
variable {X : Cx} {M : List Nat} {st : Stmt} {sts body : List Stmt} {tg iter c : Expr} {env env1 env2 : En} {out : Out} {va : Val} {pos : Pos} {α S R : Type}
theorem EvS.wk0 (k : Wk env env1) (h : EvS X M st env1 out) : EvS X M st env out := fun Z H σ D hH P =>
  h Z H σ D (hH.wk k) (P.mono ((Stp.refl Z H (Own env σ)).sub fun a o => k.own a o) (Fix.refl σ))
theorem EvC.frz0 {v : Val} {ks : List (List Stmt)} (i : Nat) (e : env[i]? = some (Sl.ow v)) (h : EvC X M ks (env.set i (.im v)) out) : EvC X M ks env out := EvC.frz i e h
/-- for with returns -/
theorem es_forL {envS : S → En} {outR : R → Out} (hr : ∀ r, IsRt (outR r)) (f : S → α → LO S R) (ok : S → α → Prop) (enc : α → Val) (l : List α) (s0 : S) (hcalm : X.calm = true) (hp : PassesOwn (model X.prog X.w) X.A X.env X.xe)
    (hi : Ev X iter env (.val va) (envS s0)) (hs : SeqV va (l.map enc)) (hok : loopOk f ok s0 l)
    (hb : ∀ s x, x ∈ l → ok s x → ∃ envt, EvG X M tg (enc x) (envS s) envt ∧ EvSs X M body envt (outLO envS outR (f s x)))
    (hf : ∀ x, foldedSetIterable iter X.env x = pure x := by intro _; rfl) : EvS X M (.For tg iter body [] pos) env (outL envS outR (loopL f s0 l)) :=
  es_for f ok enc l s0 hcalm hp hi hs hok (fun s x hx hx' => by
    obtain ⟨envt, h1, h2⟩ := hb s x hx hx'
    exact ⟨envt, _, h1, h2, lo_of hr _⟩) hf
theorem es_forL1 {envS : S → En} {outR : R → Out} {a : Expr} {p p' : Pos} (hr : ∀ r, IsRt (outR r)) (f : S → Int → LO S R) (ok : S → Int → Prop) (n : Int) (s0 : S) (hcalm : X.calm = true) (hp : PassesOwn (model X.prog X.w) X.A X.env X.xe) (hm : X.mg "range" = none)
    (ha : Ev X a env (.val (.int n)) (envS s0)) (hn : -(2 ^ 62) ≤ n ∧ n < 2 ^ 62) (hok : loopOk f ok s0 (irange 0 n))
    (hb : ∀ s x, x ∈ irange 0 n → ok s x → ∃ envt, EvG X M tg (.int x) (envS s) envt ∧ EvSs X M body envt (outLO envS outR (f s x))) (hg : Gl X "range" := by rfl) (hst : starEach [a] X.env = [(false, eval a X.env)] := by rfl)
    (hf : ∀ x, foldedSetIterable (.Call (.Name "range" p) [a] [] p') X.env x = pure x := by intro _; rfl) : EvS X M (.For tg (.Call (.Name "range" p) [a] [] p') body [] pos) env (outL envS outR (loopL f s0 (irange 0 n))) :=
  es_forR1 f ok n s0 hcalm hp hm ha hn hok (fun s x hx hx' => by
    obtain ⟨envt, h1, h2⟩ := hb s x hx hx'
    exact ⟨envt, _, h1, h2, lo_of hr _⟩) hg hst hf
theorem es_forL2 {envS : S → En} {outR : R → Out} {a b : Expr} {p p' : Pos} (hr : ∀ r, IsRt (outR r)) (f : S → Int → LO S R) (ok : S → Int → Prop) (m n : Int) (s0 : S) (hcalm : X.calm = true) (hp : PassesOwn (model X.prog X.w) X.A X.env X.xe) (hm : X.mg "range" = none)
    (ha : Ev X a env (.val (.int m)) env1) (hb' : Ev X b env1 (.val (.int n)) (envS s0)) (hn : (-(2 ^ 62) ≤ m ∧ m < 2 ^ 62) ∧ -(2 ^ 62) ≤ n ∧ n < 2 ^ 62) (hok : loopOk f ok s0 (irange m n))
    (hb : ∀ s x, x ∈ irange m n → ok s x → ∃ envt, EvG X M tg (.int x) (envS s) envt ∧ EvSs X M body envt (outLO envS outR (f s x))) (hg : Gl X "range" := by rfl) (hst : starEach [a, b] X.env = [(false, eval a X.env), (false, eval b X.env)] := by rfl) (hst2 : starEach [b] X.env = [(false, eval b X.env)] := by rfl)
    (hf : ∀ x, foldedSetIterable (.Call (.Name "range" p) [a, b] [] p') X.env x = pure x := by intro _; rfl) : EvS X M (.For tg (.Call (.Name "range" p) [a, b] [] p') body [] pos) env (outL envS outR (loopL f s0 (irange m n))) :=
  es_forR2 f ok m n s0 hcalm hp hm ha hb' hn hok (fun s x hx hx' => by
    obtain ⟨envt, h1, h2⟩ := hb s x hx hx'
    exact ⟨envt, _, h1, h2, lo_of hr _⟩) hg hst hst2 hf
theorem es_whileL {envS : S → En} {outR : R → Out} (hr : ∀ r, IsRt (outR r)) (cs : S → Bool) (f : S → LO S R) (okc ok : S → Prop) (n : Nat) (s0 : S) (hp : PassesOwn (model X.prog X.w) X.A X.env X.xe) (hok : whileOk cs f okc ok n s0)
    (hc : ∀ s, okc s → EvT X c (envS s) (cs s) (envS s)) (hb : ∀ s, ok s → cs s = true → EvSs X M body (envS s) (outLO envS outR (f s))) : EvS X M (.While c body [] pos) (envS s0) (outL envS outR (whileL cs f n s0)) :=
  es_while cs f okc ok n s0 hp hok hc fun s h1 h2 => ⟨_, hb s h1 h2, lo_of hr _⟩
/-- .. with break alone -/
theorem EvS.noR {envS : S → En} {t : S ⊕ Empty} (h : EvS X M st env (outL envS VL.noR t)) : EvS X M st env (.nx (envS (inlOf t))) := outL_B t ▸ h
theorem rtNone (r : Empty) : IsRt (VL.noR r) := nomatch r
end
section
variable {S R : Type}
/-- a bound on a while with returns: what falls at each turn -/
theorem whileOk_by {c : S → Bool} {f : S → LO S R} {okc ok : S → Prop} (I : S → Prop) (m : S → Nat) (h : ∀ s, I s → okc s ∧ (c s = true → ok s ∧ ∀ s', f s = .nx s' → I s' ∧ m s' < m s)) : ∀ (n : Nat) (s : S), I s → m s < n → whileOk c f okc ok n s
  | 0, s, _, hn => absurd hn (Nat.not_lt_zero _)
  | n + 1, s, hi, hn => ⟨(h s hi).1, fun q => ⟨((h s hi).2 q).1, by
      have k := ((h s hi).2 q).2
      cases e : f s with
      | nx s' =>
        have k' := k s' e
        exact whileOk_by I m h n s' k'.1 (by have := k'.2; omega)
      | bk s' => trivial
      | rt r => trivial⟩⟩
end

/-! ### _law_same -/
/-- what _law_same answers of two values -/
inductive Sm : Nat → Val → Val → Bool → Prop
  | int (d : Nat) (m n : Int) : Sm d (.int m) (.int n) (decide (m = n))
  | bl (d : Nat) (m n : Bool) : Sm d (.bl m) (.bl n) (decide (m = n))
  | non (d : Nat) : Sm d .non .non true
  | inon (d : Nat) (m : Int) : Sm d (.int m) .non false
  | bnon (d : Nat) (m : Bool) : Sm d (.bl m) .non false
  | tnon (d : Nat) (xs : List Val) : Sm d (.tup xs) .non false
  | noni (d : Nat) (m : Int) : Sm d .non (.int m) false
  | nonb (d : Nat) (m : Bool) : Sm d .non (.bl m) false
  | nont (d : Nat) (xs : List Val) : Sm d .non (.tup xs) false
  | tupN (d : Nat) (xs ys : List Val) (h : xs.length ≠ ys.length) : Sm d (.tup xs) (.tup ys) false
  | tup (d : Nat) (xs ys : List Val) (ps : List Bool) (h : xs.length = ys.length) (hp : ps.length = ys.length) (hs : ∀ (i : Nat) (x y : Val) (p : Bool), xs[i]? = some x → ys[i]? = some y → ps[i]? = some p → Sm d x y p) : Sm (d + 1) (.tup xs) (.tup ys) (ps.all id)
/-- an encoding of which _law_same tells the sameness -/
def Ls {α : Type} [DecidableEq α] (f : α → Val) (d : Nat) : Prop := ∀ x y, Sm d (f x) (f y) (decide (x = y))
theorem Sm.up {d : Nat} {a b : Val} {p : Bool} (h : Sm d a b p) : ∀ {e : Nat}, d ≤ e → Sm e a b p := by
  induction h with
  | int d m n => exact fun _ => .int _ m n
  | bl d m n => exact fun _ => .bl _ m n
  | non d => exact fun _ => .non _
  | inon d m => exact fun _ => .inon _ m
  | bnon d m => exact fun _ => .bnon _ m
  | tnon d xs => exact fun _ => .tnon _ xs
  | noni d m => exact fun _ => .noni _ m
  | nonb d m => exact fun _ => .nonb _ m
  | nont d xs => exact fun _ => .nont _ xs
  | tupN d xs ys h => exact fun _ => .tupN _ xs ys h
  | tup d xs ys ps h hp hs ih =>
    intro e he
    cases e with
    | zero => omega
    | succ e => exact .tup e xs ys ps h hp (fun i x y p a b c => ih i x y p a b c (by omega))
theorem ls_int : Ls Val.int 0 := fun x y => .int 0 x y
theorem ls_bl : Ls Val.bl 0 := fun x y => .bl 0 x y
/-- values that _law_same tells from None -/
def Sn {α : Type} (f : α → Val) : Prop := ∀ a d, Sm d (f a) .non false ∧ Sm d .non (f a) false
theorem sn_int : Sn Val.int := fun a d => ⟨.inon d a, .noni d a⟩
theorem sn_bl : Sn Val.bl := fun a d => ⟨.bnon d a, .nonb d a⟩
theorem sn_T {α : Type} {f : α → Val} : Sn (encT f) := fun a d => ⟨.tnon d _, .nont d _⟩
theorem sn_2 {α β : Type} {f : α → Val} {g : β → Val} : Sn (enc2 f g) := fun a d => ⟨.tnon d _, .nont d _⟩
theorem sn_3 {α β γ : Type} {f : α → Val} {g : β → Val} {h : γ → Val} : Sn (enc3 f g h) := fun a d => ⟨.tnon d _, .nont d _⟩
theorem ls_O {α : Type} [DecidableEq α] {f : α → Val} {d : Nat} (h : Ls f d) (n : Sn f) : Ls (encO f) d := fun x y => by
  cases x with
  | none =>
    cases y with
    | none => exact .non d
    | some y => exact (n y d).2
  | some x =>
    cases y with
    | none => exact (n x d).1
    | some y =>
      have e : decide (some x = some y) = decide (x = y) := by simp only [Option.some.injEq]
      rw [e]; exact h x y
theorem ls_all {α : Type} [DecidableEq α] : ∀ {xs ys : List α}, xs.length = ys.length → ((xs.zip ys).map fun q => decide (q.1 = q.2)).all id = decide (xs = ys)
  | [], [], _ => rfl
  | x :: xs, y :: ys, h => by
    have ih := ls_all (xs := xs) (ys := ys) (by simpa using h)
    show (decide (x = y) && ((xs.zip ys).map fun q => decide (q.1 = q.2)).all id) = _
    rw [ih, dec_and]
    simp only [List.cons.injEq]
  | [], _ :: _, h => by simp at h
  | _ :: _, [], h => by simp at h
theorem ls_T {α : Type} [DecidableEq α] {f : α → Val} {d : Nat} (h : Ls f d) : Ls (encT f) (d + 1) := fun x y => by
  by_cases e : x.length = y.length
  · rw [← ls_all e]
    refine .tup d _ _ _ (by simp [e]) (by simp [e]) fun i a b p q1 q2 q3 => ?_
    rw [List.getElem?_map] at q1 q2 q3
    obtain ⟨u, hu, rfl⟩ := Option.map_eq_some_iff.mp q1
    obtain ⟨v, hv, rfl⟩ := Option.map_eq_some_iff.mp q2
    obtain ⟨w, hw, rfl⟩ := Option.map_eq_some_iff.mp q3
    rw [List.getElem?_zip_eq_some] at hw
    have e1 : w.1 = u := Option.some.inj (hw.1.symm.trans hu)
    have e2 : w.2 = v := Option.some.inj (hw.2.symm.trans hv)
    rw [e1, e2]
    exact h u v
  · have e2 : decide (x = y) = false := decide_eq_false fun z => e (by rw [z])
    rw [e2]
    exact .tupN _ _ _ (by simpa using e)
theorem ls_2 {α β : Type} [DecidableEq α] [DecidableEq β] {f : α → Val} {g : β → Val} {d e : Nat} (h : Ls f d) (h' : Ls g e) : Ls (enc2 f g) (max d e + 1) := fun x y => by
  have q : decide (x = y) = [decide (x.1 = y.1), decide (x.2 = y.2)].all id := by
    obtain ⟨x1, x2⟩ := x
    obtain ⟨y1, y2⟩ := y
    show _ = (decide (x1 = y1) && (decide (x2 = y2) && true))
    rw [Bool.and_true, dec_and]
    simp only [Prod.mk.injEq]
  rw [q]
  refine .tup _ _ _ _ rfl rfl fun i a b p q1 q2 q3 => ?_
  match i with
  | 0 => cases q1; cases q2; cases q3; exact (h _ _).up (by omega)
  | 1 => cases q1; cases q2; cases q3; exact (h' _ _).up (by omega)
  | i + 2 => simp at q3
theorem ls_3 {α β γ : Type} [DecidableEq α] [DecidableEq β] [DecidableEq γ] {f : α → Val} {g : β → Val} {k : γ → Val} {d e l : Nat} (h : Ls f d) (h' : Ls g e) (h'' : Ls k l) : Ls (enc3 f g k) (max d (max e l) + 1) := fun x y => by
  have q : decide (x = y) = [decide (x.1 = y.1), decide (x.2.1 = y.2.1), decide (x.2.2 = y.2.2)].all id := by
    obtain ⟨x1, x2, x3⟩ := x
    obtain ⟨y1, y2, y3⟩ := y
    show _ = (decide (x1 = y1) && (decide (x2 = y2) && (decide (x3 = y3) && true)))
    rw [Bool.and_true, dec_and, dec_and]
    simp only [Prod.mk.injEq]
  rw [q]
  refine .tup _ _ _ _ rfl rfl fun i a b p q1 q2 q3 => ?_
  match i with
  | 0 => cases q1; cases q2; cases q3; exact (h _ _).up (by omega)
  | 1 => cases q1; cases q2; cases q3; exact (h' _ _).up (by omega)
  | 2 => cases q1; cases q2; cases q3; exact (h'' _ _).up (by omega)
  | i + 3 => simp at q3
def R_same (d : Nat) : Rel := fun args r outs => ∃ a b p, Sm d a b p ∧ args = [.im a, .im b] ∧ r = .im (.bl p) ∧ outs = [.im a, .im b]
section
variable {X : Cx} {M : List Nat} {ks : List (List Stmt)} {env : En} {out : Out} {xs : List Val}
theorem vals_len : ∀ {ws : List V} {us : List Value}, Vals ws us → ws.length = us.length
  | [], [], _ => rfl
  | _ :: _, _ :: _, .cons _ h => by simp [vals_len h]
/-- how long a tuple can be -/
theorem EvC.lenT (i : Nat) (e : env[i]? = some (Sl.im (.tup xs))) (h : xs.length ≤ sizeLine → EvC X M ks env out) : EvC X M ks env out := fun Z H σ D hH P => by
  obtain ⟨w, _, r⟩ := hH.imm e
  have r' : Rep X.K Z H (.tup xs) w := r
  simp only [Rep] at r'
  obtain ⟨a, ws, rfl, n, rr⟩ := r'
  have l := rr.length
  refine h ?_ Z H σ D hH P
  rw [l]
  rcases n with ⟨_, _, n⟩ | ⟨o, its, m, _, _, _, sz, vs⟩
  · exact n
  · have q : ws.length = its.toList.length := vals_len vs
    rw [Array.length_toList] at q
    exact Nat.le_trans (Nat.le_of_eq q) sz
theorem EvC.lenL (i : Nat) (e : env[i]? = some (Sl.im (.lst xs))) (h : xs.length ≤ sizeLine → EvC X M ks env out) : EvC X M ks env out := fun Z H σ D hH P => by
  obtain ⟨w, _, r⟩ := hH.imm e
  have r' : Rep X.K Z H (.lst xs) w := r
  simp only [Rep] at r'
  obtain ⟨a, ws, rfl, n, rr⟩ := r'
  have l := rr.length
  refine h ?_ Z H σ D hH P
  rw [l]
  rcases n with ⟨_, _, n⟩ | ⟨o, its, m, _, _, _, _, sz, vs⟩
  · exact n
  · have q : ws.length = its.toList.length := vals_len vs
    rw [Array.length_toList] at q
    exact Nat.le_trans (Nat.le_of_eq q) sz
end
end VL

/-! VL14: the loop of _law_same; paths into a text; what stands behind the top. -/
namespace VL
open PySem PySem.Spec PyProof.Rows L2

theorem mem_irange0 {n : Nat} {x : Int} (h : x ∈ irange 0 n) : ∃ i : Nat, i < n ∧ x = i := by
  unfold irange at h
  obtain ⟨i, hi, rfl⟩ := List.mem_map.mp h
  exact ⟨i, by have := List.mem_range.mp hi; omega, by omega⟩
def same_turn (ps : List Bool) (_ : Unit) (x : Int) : LO Unit Unit := if ps.getD x.toNat false = true then .nx () else .rt ()
theorem same_all (ps : List Bool) : ∀ l : List Int, afterL (loopL (same_turn ps) () l) (fun _ => true) (fun _ => false) = l.all fun x => ps.getD x.toNat false
  | [] => rfl
  | x :: xs => by
    have ih := same_all ps xs
    rw [List.all_cons]
    unfold loopL
    cases q : ps.getD x.toNat false with
    | true =>
      have e : same_turn ps () x = .nx () := by unfold same_turn; rw [q]; rfl
      rw [e, Bool.true_and]; exact ih
    | false =>
      have e : same_turn ps () x = .rt () := by unfold same_turn; rw [q]; rfl
      rw [e]; rfl
theorem same_loop (ps : List Bool) : afterL (loopL (same_turn ps) () (irange 0 ps.length)) (fun _ => true) (fun _ => false) = ps.all id := by
  rw [same_all]
  have e : (irange 0 ps.length).map (fun x => ps.getD x.toNat false) = ps := by
    unfold irange
    rw [List.map_map]
    apply List.ext_getElem
    · simp
    · intro i h1 h2
      simp
      rw [List.getElem?_eq_getElem h2]; rfl
  have e2 : ((irange 0 ps.length).all fun x => ps.getD x.toNat false) = ((irange 0 ps.length).map (fun x => ps.getD x.toNat false)).all id := by rw [List.all_map]; rfl
  rw [e2, e]

section
variable {X : Cx} {M : List Nat} {st : Stmt} {e : Expr} {env env1 env2 : En} {v : Val}
theorem Ev.wk (h : Ev X e env (.val v) env1) (k : Wk env1 env2) : Ev X e env (.val v) env2 := fun Z H σ Q hH q =>
  h Z H σ Q hH fun Z1 H1 w s h1 r => q Z1 H1 w (s.sub fun a o => k.own a o) (h1.wk k) r
theorem EvS.to (h : EvS X M st env (.nx env1)) (e : env1 = env2) : EvS X M st env (.nx env2) := e ▸ h
end

/-! ### paths into a text -/
def stAt (l : List Stmt) (i : Nat) : Stmt := l.getD i (.Pass ⟨0, 0, 0, 0⟩)
def loopBody : Stmt → List Stmt
  | .For _ _ b _ _ => b
  | .While _ b _ _ => b
  | _ => []
def forTg : Stmt → Expr
  | .For t _ _ _ _ => t
  | _ => .Constant .none 0 ⟨0, 0, 0, 0⟩
def whTest : Stmt → Expr
  | .While c _ _ _ => c
  | _ => .Constant .none 0 ⟨0, 0, 0, 0⟩
def ifThen : Stmt → List Stmt
  | .If _ b _ _ => b
  | _ => []
def ifElse : Stmt → List Stmt
  | .If _ _ b _ => b
  | _ => []
theorem defAt {K : PySem.W.Frag} {h : Heap} {mg : Str → Option Value} {x : Str} {st : Stmt} {ps : List Str} {f : Addr} {oc : Value} {od an : Option Addr} {osl : Array (Option Value)} {kV doc pm cdv ct : Value} (X : K.In h) (G : h.Ns mainGlobals mg)
    (a : PySem.W.nsIn K mainGlobals x = some (some (.ref f))) (l : K.lookup f = some ⟨oc, od, .func (PySem.W.fnOf x x (defArgs st) (defBody st) (defScope st) .none kV doc pm an cdv ct), osl⟩) (c : PySem.W.codeIn K cdv x = true) (k : PySem.W.keepIn K (.ref f) = true)
    (hb : ∀ (kV doc pm : Value) (an : Option Addr) (cdv ct : Value) (us : List Value), us.length = ps.length → bindArgs (PySem.W.fnOf x x (defArgs st) (defBody st) (defScope st) .none kV doc pm an cdv ct) ⟨us, []⟩ = pure (ps.zip us)) : DefAt K mg x st ps :=
  ⟨f, _, fun_mk l c k, PySem.W.mg_of X G a, (fun_mk (st := st) l c k).binds hb⟩
end VL

namespace K20
open PySem PySem.Spec PyProof.Rows L2 VL
def topS (i : Nat) : Stmt := PySem.Challenge.pw_boatsout_k20_fractions_in_least_form.main.body.getD i (.Pass ⟨0, 0, 0, 0⟩)
abbrev s_law_same : Stmt := topS 11
theorem sc_law_same : FnScope ["actual", "due", "k"] ["actual", "due"] (defScope s_law_same) := ⟨rfl, rfl, rfl, by decide +kernel, rfl, by decide +kernel, by decide +kernel⟩
section
variable {P : Program} {w : World} {K : PySem.W.Frag} {mg : Str → Option Value} {base : Heap}
set_option maxHeartbeats 0 in
theorem ok_law_same1 (D : DefAt K mg "_law_same" s_law_same ["actual", "due"]) (m_isinstance : mg "isinstance" = none) (m_bool : mg "bool" = none) (m_int : mg "int" = none) (m_str : mg "str" = none) (m_tuple : mg "tuple" = none) (m_len : mg "len" = none) (m_range : mg "range" = none)
    (d : Nat) (C : ∀ e, d = e + 1 → CalOk P w K mg base "_law_same" ["actual", "due"] d (R_same e)) : CalOk P w K mg base "_law_same" ["actual", "due"] (d + 1) (R_same d) := by
  refine D.ok sc_law_same (by decide) (fun args r outs h => ?_) (fun f cdv A outer s H E hr args r outs h => ?_)
  · obtain ⟨a, b, p, _, rfl, rfl, rfl⟩ := h
    exact len_of rfl rfl
  · obtain ⟨a, b, p, hs, rfl, rfl, rfl⟩ := h
    have nd_ := sc_law_same.nd
    have hu64_ := hu64 hr
    -- the slot of k at the end
    have fin : ∀ {sl : Sl}, EvC (cxOf CX0 P w K mg base ["actual", "due", "k"] "_law_same" (defScope s_law_same) f cdv A outer s H E).nox (muI [.im a, .im b]) [defBody s_law_same] [.im a, .im b, .no] (.rt (.im (.bl p)) [.im a, .im b, sl]) →
        ∃ out, EvSs (cxOf CX0 P w K mg base ["actual", "due", "k"] "_law_same" (defScope s_law_same) f cdv A outer s H E).nox (muI [.im a, .im b]) (defBody s_law_same) (env0 3 [.im a, .im b]) out ∧ OutOk [.im a, .im b] (.im (.bl p)) [.im a, .im b] out :=
      fun h => ⟨_, EvC.ss h, rfl, OE.ok (.im (.im .nil))⟩
    cases hs with
    | int _ m n =>
      exact fin (sl := .no) (ec_if (p := false) (et_val (ev_isi (T := "bool") (p := false) m_isinstance m_bool (by decide +kernel) rfl (ev_v 1 rfl (pv 1)))) (fun h => nomatch h) (fun _ => ec_nil
        (ec_if (p := true) (et_val (ev_isi (T := "int") (p := true) m_isinstance m_int (by decide +kernel) rfl (ev_v 1 rfl (pv 1)))) (fun _ => ec_last (es_ret
          (ev_and (ev_isi (T := "int") (p := true) m_isinstance m_int (by decide +kernel) rfl (ev_v 0 rfl (pv 0))) (fun _ => ev_and (ev_not (ev_isi (T := "bool") (p := false) m_isinstance m_bool (by decide +kernel) rfl (ev_v 0 rfl (pv 0))))
            (fun _ => ev_bo1 (ev_eqT lw_int (by decide) hu64_ (ev_v 0 rfl (pv 0)) (ev_v 1 rfl (pv 1)) (.val _) (.val _)))))) rfl) (fun h => nomatch h))))
    | bl _ m n =>
      exact fin (ec_if (p := true) (et_val (ev_isi (T := "bool") (p := true) m_isinstance m_bool (by decide +kernel) rfl (ev_v 1 rfl (pv 1)))) (fun _ => ec_last (es_ret
          (ev_and (ev_isi (T := "bool") (p := true) m_isinstance m_bool (by decide +kernel) rfl (ev_v 0 rfl (pv 0)))
            (fun _ => ev_bo1 (ev_eqT lw_bl (by decide) hu64_ (ev_v 0 rfl (pv 0)) (ev_v 1 rfl (pv 1)) (.val _) (.val _))))) rfl) (fun h => nomatch h))
    | non _ =>
      exact fin (sl := .no) (ec_if (p := false) (et_val (ev_isi (T := "bool") (p := false) m_isinstance m_bool (by decide +kernel) rfl (ev_v 1 rfl (pv 1)))) (fun h => nomatch h) (fun _ => ec_nil (ec_if (p := false) (et_val (ev_isi (T := "int") (p := false) m_isinstance m_int (by decide +kernel) rfl (ev_v 1 rfl (pv 1)))) (fun h => nomatch h) (fun _ => ec_nil (ec_if (p := false) (et_val (ev_isi (T := "str") (p := false) m_isinstance m_str (by decide +kernel) rfl (ev_v 1 rfl (pv 1)))) (fun h => nomatch h) (fun _ => ec_nil (ec_if (p := true) (EvT.as (et_isN (ev_v 1 rfl (pv 1))) rfl) (fun _ => ec_last (es_ret (Ev.as (ev_isN (ev_v 0 rfl (pv 0))) rfl)) rfl) (fun h => nomatch h))))))))
    | inon _ m =>
      exact fin (sl := .no) (ec_if (p := false) (et_val (ev_isi (T := "bool") (p := false) m_isinstance m_bool (by decide +kernel) rfl (ev_v 1 rfl (pv 1)))) (fun h => nomatch h) (fun _ => ec_nil (ec_if (p := false) (et_val (ev_isi (T := "int") (p := false) m_isinstance m_int (by decide +kernel) rfl (ev_v 1 rfl (pv 1)))) (fun h => nomatch h) (fun _ => ec_nil (ec_if (p := false) (et_val (ev_isi (T := "str") (p := false) m_isinstance m_str (by decide +kernel) rfl (ev_v 1 rfl (pv 1)))) (fun h => nomatch h) (fun _ => ec_nil (ec_if (p := true) (EvT.as (et_isN (ev_v 1 rfl (pv 1))) rfl) (fun _ => ec_last (es_ret (Ev.as (ev_isN (ev_v 0 rfl (pv 0))) rfl)) rfl) (fun h => nomatch h))))))))
    | bnon _ m =>
      exact fin (sl := .no) (ec_if (p := false) (et_val (ev_isi (T := "bool") (p := false) m_isinstance m_bool (by decide +kernel) rfl (ev_v 1 rfl (pv 1)))) (fun h => nomatch h) (fun _ => ec_nil (ec_if (p := false) (et_val (ev_isi (T := "int") (p := false) m_isinstance m_int (by decide +kernel) rfl (ev_v 1 rfl (pv 1)))) (fun h => nomatch h) (fun _ => ec_nil (ec_if (p := false) (et_val (ev_isi (T := "str") (p := false) m_isinstance m_str (by decide +kernel) rfl (ev_v 1 rfl (pv 1)))) (fun h => nomatch h) (fun _ => ec_nil (ec_if (p := true) (EvT.as (et_isN (ev_v 1 rfl (pv 1))) rfl) (fun _ => ec_last (es_ret (Ev.as (ev_isN (ev_v 0 rfl (pv 0))) rfl)) rfl) (fun h => nomatch h))))))))
    | tnon _ xs =>
      exact fin (sl := .no) (ec_if (p := false) (et_val (ev_isi (T := "bool") (p := false) m_isinstance m_bool (by decide +kernel) rfl (ev_v 1 rfl (pv 1)))) (fun h => nomatch h) (fun _ => ec_nil (ec_if (p := false) (et_val (ev_isi (T := "int") (p := false) m_isinstance m_int (by decide +kernel) rfl (ev_v 1 rfl (pv 1)))) (fun h => nomatch h) (fun _ => ec_nil (ec_if (p := false) (et_val (ev_isi (T := "str") (p := false) m_isinstance m_str (by decide +kernel) rfl (ev_v 1 rfl (pv 1)))) (fun h => nomatch h) (fun _ => ec_nil (ec_if (p := true) (EvT.as (et_isN (ev_v 1 rfl (pv 1))) rfl) (fun _ => ec_last (es_ret (Ev.as (ev_isN (ev_v 0 rfl (pv 0))) rfl)) rfl) (fun h => nomatch h))))))))
    | noni _ m =>
      exact fin (sl := .no) (ec_if (p := false) (et_val (ev_isi (T := "bool") (p := false) m_isinstance m_bool (by decide +kernel) rfl (ev_v 1 rfl (pv 1)))) (fun h => nomatch h) (fun _ => ec_nil
        (ec_if (p := true) (et_val (ev_isi (T := "int") (p := true) m_isinstance m_int (by decide +kernel) rfl (ev_v 1 rfl (pv 1)))) (fun _ => ec_last (es_ret
          (ev_and (p := false) (q := false) (ev_isi (T := "int") (p := false) m_isinstance m_int (by decide +kernel) rfl (ev_v 0 rfl (pv 0))) (fun h => nomatch h))) rfl) (fun h => nomatch h))))
    | nonb _ m =>
      exact fin (ec_if (p := true) (et_val (ev_isi (T := "bool") (p := true) m_isinstance m_bool (by decide +kernel) rfl (ev_v 1 rfl (pv 1)))) (fun _ => ec_last (es_ret (ev_and (p := false) (q := false) (ev_isi (T := "bool") (p := false) m_isinstance m_bool (by decide +kernel) rfl (ev_v 0 rfl (pv 0))) (fun h => nomatch h))) rfl) (fun h => nomatch h))
    | nont _ xs =>
      exact fin (sl := .no) (ec_if (p := false) (et_val (ev_isi (T := "bool") (p := false) m_isinstance m_bool (by decide +kernel) rfl (ev_v 1 rfl (pv 1)))) (fun h => nomatch h) (fun _ => ec_nil (ec_if (p := false) (et_val (ev_isi (T := "int") (p := false) m_isinstance m_int (by decide +kernel) rfl (ev_v 1 rfl (pv 1)))) (fun h => nomatch h) (fun _ => ec_nil (ec_if (p := false) (et_val (ev_isi (T := "str") (p := false) m_isinstance m_str (by decide +kernel) rfl (ev_v 1 rfl (pv 1)))) (fun h => nomatch h) (fun _ => ec_nil (ec_if (p := false) (EvT.as (et_isN (ev_v 1 rfl (pv 1))) rfl) (fun h => nomatch h) (fun _ => ec_nil (ec_if (p := true) (ew_or (p := true) (q := true) (et_not (et_val (ev_isi (T := "tuple") (p := false) m_isinstance m_tuple (by decide +kernel) rfl (ev_v 0 rfl (pv 0))))) (fun h => nomatch h)).t (fun _ => ec_last (es_ret ev_bl) rfl) (fun h => nomatch h))))))))))
    | tupN _ xs ys h =>
      have hne : decide ((xs.length : Int) = (ys.length : Int)) = false := decide_eq_false (by omega)
      exact fin (sl := .no) (ec_if (p := false) (et_val (ev_isi (T := "bool") (p := false) m_isinstance m_bool (by decide +kernel) rfl (ev_v 1 rfl (pv 1)))) (fun h => nomatch h) (fun _ => ec_nil (ec_if (p := false) (et_val (ev_isi (T := "int") (p := false) m_isinstance m_int (by decide +kernel) rfl (ev_v 1 rfl (pv 1)))) (fun h => nomatch h) (fun _ => ec_nil (ec_if (p := false) (et_val (ev_isi (T := "str") (p := false) m_isinstance m_str (by decide +kernel) rfl (ev_v 1 rfl (pv 1)))) (fun h => nomatch h) (fun _ => ec_nil (ec_if (p := false) (EvT.as (et_isN (ev_v 1 rfl (pv 1))) rfl) (fun h => nomatch h) (fun _ => ec_nil (ec_if (p := true) ((ew_or (et_not (et_val (ev_isi (T := "tuple") (p := true) m_isinstance m_tuple (by decide +kernel) rfl (ev_v 0 rfl (pv 0))))) (fun _ => ew_or1 (et_neT lw_int (by decide) hu64_ (ev_len m_len (ev_v 0 rfl (pv 0)) (.val _) (.tup _)) (ev_len m_len (ev_v 1 rfl (pv 1)) (.val _) (.tup _)) (.val _) (.val _)))).t.as (by rw [hne]; rfl)) (fun _ => ec_last (es_ret ev_bl) rfl) (fun h => nomatch h))))))))))
    | tup d xs ys ps h hp hz =>
      have hne : decide ((xs.length : Int) = (ys.length : Int)) = true := decide_eq_true (by omega)
      have Cd := C d rfl
      have key := same_loop ps
      rw [hp] at key
      exact fin (sl := .no) (ec_if (p := false) (et_val (ev_isi (T := "bool") (p := false) m_isinstance m_bool (by decide +kernel) rfl (ev_v 1 rfl (pv 1)))) (fun h => nomatch h) (fun _ => ec_nil (ec_if (p := false) (et_val (ev_isi (T := "int") (p := false) m_isinstance m_int (by decide +kernel) rfl (ev_v 1 rfl (pv 1)))) (fun h => nomatch h) (fun _ => ec_nil (ec_if (p := false) (et_val (ev_isi (T := "str") (p := false) m_isinstance m_str (by decide +kernel) rfl (ev_v 1 rfl (pv 1)))) (fun h => nomatch h) (fun _ => ec_nil (ec_if (p := false) (EvT.as (et_isN (ev_v 1 rfl (pv 1))) rfl) (fun h => nomatch h) (fun _ => ec_nil (ec_if (p := false) ((ew_or (et_not (et_val (ev_isi (T := "tuple") (p := true) m_isinstance m_tuple (by decide +kernel) rfl (ev_v 0 rfl (pv 0))))) (fun _ => ew_or1 (et_neT lw_int (by decide) hu64_ (ev_len m_len (ev_v 0 rfl (pv 0)) (.val _) (.tup _)) (ev_len m_len (ev_v 1 rfl (pv 1)) (.val _) (.tup _)) (.val _) (.val _)))).t.as (by rw [hne]; rfl)) (fun h => nomatch h) (fun _ => ec_nil
        (EvC.lenT 1 rfl fun hl =>
        (ec_loop (fun p => .rt (.im (.bl p)) [.im (.tup xs), .im (.tup ys), .no]) (envS := fun _ => [.im (.tup xs), .im (.tup ys), .no]) (outR := fun _ => .rt (.im (.bl false)) [.im (.tup xs), .im (.tup ys), .no])
          (es_forL1 (fun _ => isRt) (same_turn ps) (fun _ _ => True) ys.length () rfl PassesOwn.never m_range (ev_len m_len (ev_v 1 rfl (pv 1)) (.val _) (.tup _)) (by unfold sizeLine at hl; omega) (loopOk_true (fun _ _ => trivial) _ _)
            (fun s x hx _ => by
              obtain ⟨i, hi, rfl⟩ := mem_irange0 hx
              obtain ⟨u, hu⟩ : ∃ u, xs[i]? = some u := ⟨_, List.getElem?_eq_getElem (by omega)⟩
              obtain ⟨v, hv⟩ : ∃ v, ys[i]? = some v := ⟨_, List.getElem?_eq_getElem (by omega)⟩
              obtain ⟨q, hq⟩ : ∃ q, ps[i]? = some q := ⟨_, List.getElem?_eq_getElem (by omega)⟩
              refine ⟨_, eg_name 2 (pg_name nd_ rfl (by first | exact .inl rfl | exact .inr rfl)) (Nat.le_of_ble_eq_true rfl) (nm rfl), ?_⟩
              refine EvC.ss ?_
              cases q with
              | true =>
                have e : same_turn ps s (i : Int) = .nx () := by unfold same_turn; rw [Int.toNat_natCast, List.getD_eq_getElem?_getD, hq]; rfl
                rw [e]
                exact ec_if (p := false) (EvT.as (et_not (et_val (ev_call (Cd.pe hr (Nat.le_refl _) rfl) (ea_cons (ev_ix (atI_nat hu) (ev_v 0 rfl (pv 0)) (ev_v 2 rfl (pv 2)) (.val _) (.tup _)) (ea_cons (ev_ix (atI_nat hv) (ev_v 1 rfl (pv 1)) (ev_v 2 rfl (pv 2)) (.val _) (.tup _)) ea_nil)) (.im (.im .nil)) ⟨u, v, true, hz i u v _ hu hv hq, rfl, rfl, rfl⟩))) rfl) (fun h => nomatch h) (fun _ => ec_nil (ec_nil (ec_end.wkN (.s (.s (.n .nil))))))
              | false =>
                have e : same_turn ps s (i : Int) = .rt () := by unfold same_turn; rw [Int.toNat_natCast, List.getD_eq_getElem?_getD, hq]; rfl
                rw [e]
                exact ec_if (p := true) (EvT.as (et_not (et_val (ev_call (Cd.pe hr (Nat.le_refl _) rfl) (ea_cons (ev_ix (atI_nat hu) (ev_v 0 rfl (pv 0)) (ev_v 2 rfl (pv 2)) (.val _) (.tup _)) (ea_cons (ev_ix (atI_nat hv) (ev_v 1 rfl (pv 1)) (ev_v 2 rfl (pv 2)) (.val _) (.tup _)) ea_nil)) (.im (.im .nil)) ⟨u, v, false, hz i u v _ hu hv hq, rfl, rfl, rfl⟩))) rfl) (fun _ => (ec_last (es_ret ev_bl) rfl).wkR (.s (.s (.n .nil)))) (fun h => nomatch h)))
          (fun _ _ => ec_last (es_ret ev_bl) rfl) (fun x => ⟨rfl, isRt⟩) (by rw [key])))))))))))))
theorem ok_law_same (D : DefAt K mg "_law_same" s_law_same ["actual", "due"]) (m_isinstance : mg "isinstance" = none) (m_bool : mg "bool" = none) (m_int : mg "int" = none) (m_str : mg "str" = none) (m_tuple : mg "tuple" = none) (m_len : mg "len" = none) (m_range : mg "range" = none) :
    ∀ d, CalOk P w K mg base "_law_same" ["actual", "due"] (d + 1) (R_same d)
  | 0 => ok_law_same1 D m_isinstance m_bool m_int m_str m_tuple m_len m_range 0 fun e h => nomatch h
  | d + 1 => ok_law_same1 D m_isinstance m_bool m_int m_str m_tuple m_len m_range (d + 1) fun e h => by
    cases h
    exact ok_law_same D m_isinstance m_bool m_int m_str m_tuple m_len m_range d
end

section
variable {P : Program} {w : World} {K : PySem.W.Frag} {mg : Str → Option Value} {base : Heap}
/-! divisor_of -/
abbrev s_divisor_of : Stmt := topS 1
theorem sc_divisor_of : FnScope ["one", "other"] ["one", "other"] (defScope s_divisor_of) := ⟨rfl, rfl, rfl, by decide +kernel, rfl, by decide +kernel, by decide +kernel⟩
def divisor_of_w2  (s : Int × Int) : Int × Int := (s.2, (s.1 % s.2))
def divisor_of_w2_ok  (s : Int × Int) : Prop := 0 < s.2
def divisor_of_w2_c  (s : Int × Int) : Bool := (decide ((0 : Int) < s.2))
def divisor_of_w2_cok  (s : Int × Int) : Prop := True
def divisor_of (one : Int) (other : Int) : (Int) := (whileS divisor_of_w2_c divisor_of_w2 (((((other).natAbs : Int))).natAbs + 1) (((one).natAbs : Int), ((other).natAbs : Int))).1
def divisor_of_ok (one : Int) (other : Int) : Prop := whileSOk divisor_of_w2_c divisor_of_w2 divisor_of_w2_cok divisor_of_w2_ok (((((other).natAbs : Int))).natAbs + 1) (((one).natAbs : Int), ((other).natAbs : Int))
def divisor_of_o (t : (Int)) : Out := .rt (.im (Val.int t)) [.no, .no]
theorem divisor_of_oo (t : (Int)) (one : Int) (other : Int) : OutOk [.im (Val.int one), .im (Val.int other)] (.im (Val.int t)) [.im (Val.int one), .im (Val.int other)] (divisor_of_o t) := by
  exact ⟨rfl, OE.ok (.im (.im .nil))⟩
def R_divisor_of : Rel := fun args_ r_ outs_ => ∃ (one : Int) (other : Int), divisor_of_ok one other ∧ args_ = [.im (Val.int one), .im (Val.int other)] ∧ r_ = .im (Val.int (divisor_of one other)) ∧ outs_ = [.im (Val.int one), .im (Val.int other)]
theorem R_divisor_of_of (one : Int) (other : Int) {v_ : (Int)} (h : divisor_of_ok one other) (e : divisor_of one other = v_) : R_divisor_of [.im (Val.int one), .im (Val.int other)] (.im (Val.int v_)) [.im (Val.int one), .im (Val.int other)] := by subst e; exact ⟨one, other, h, rfl, rfl, rfl⟩
set_option maxHeartbeats 2000000 in
theorem ok_divisor_of (D : DefAt K mg "divisor_of" s_divisor_of ["one", "other"]) (m_abs : mg "abs" = none) : CalOk P w K mg base "divisor_of" ["one", "other"] 1 R_divisor_of := by
  refine D.ok sc_divisor_of (by decide) (fun args r outs h => ?_) (fun f_ cdv_ A_ outer_ sh_ H_ E_ hr_ args r outs h => ?_)
  · obtain ⟨one, other, h, rfl, rfl, rfl⟩ := h; exact len_of rfl rfl
  · obtain ⟨one, other, h, rfl, rfl, rfl⟩ := h
    have nd_ := sc_divisor_of.nd
    have hu64_ := hu64 hr_; have hu65_ := hu65 hr_
    have divisor_of_w2_b : ∀  (s : Int × Int), divisor_of_w2_ok  s → EvSs (cxOf CX0 P w K mg base ["one", "other"] "divisor_of" (defScope s_divisor_of) f_ cdv_ A_ outer_ sh_ H_ E_).nox [] (loopBody (stAt (defBody s_divisor_of) 1)) [.im (Val.int s.1), .im (Val.int s.2)] (.nx ((fun so1 : Int × Int => (match so1 with | (so1_0, so1_1) => [.im (Val.int so1_0), .im (Val.int so1_1)] : List Sl)) (divisor_of_w2 s))) := fun  s h => EvSs.wkN (ess_cons (EvS.to (env2 := [.im (Val.int s.2), .im (Val.int (s.1 % s.2))]) (es_par (ps_par (i := 0) (j := 1) rfl nd_ rfl rfl (by decide) rfl rfl (pa_wp _) rfl) (ea_cons (ev_v 1 rfl (pv 1)) (ea_cons (ev_mod h (ev_v 0 rfl (pv 0)) (ev_v 1 rfl (pv 1))) ea_nil)) (Nat.le_of_ble_eq_true rfl) (Nat.le_of_ble_eq_true rfl) (nm rfl) (nm rfl)) rfl) ess_nil) (.s (.s .nil))
    have divisor_of_w2_t : ∀  (s : Int × Int), divisor_of_w2_cok  s → EvT (cxOf CX0 P w K mg base ["one", "other"] "divisor_of" (defScope s_divisor_of) f_ cdv_ A_ outer_ sh_ H_ E_).nox (whTest (stAt (defBody s_divisor_of) 1)) [.im (Val.int s.1), .im (Val.int s.2)] (divisor_of_w2_c  s) [.im (Val.int s.1), .im (Val.int s.2)] := fun  s h => (et_gt (ev_v 1 rfl (pv 1)) ev_int)
    have main_ : EvC (cxOf CX0 P w K mg base ["one", "other"] "divisor_of" (defScope s_divisor_of) f_ cdv_ A_ outer_ sh_ H_ E_).nox [] [defBody s_divisor_of] [.im (Val.int one), .im (Val.int other)] (divisor_of_o (divisor_of one other)) := (show EvC _ _ _ _ (divisor_of_o ((whileS divisor_of_w2_c divisor_of_w2 (((((other).natAbs : Int))).natAbs + 1) (((one).natAbs : Int), ((other).natAbs : Int))).1)) from (ec_cons (EvS.to (env2 := [.im (Val.int ((one).natAbs : Int)), .im (Val.int ((other).natAbs : Int))]) (es_par (ps_par (i := 0) (j := 1) rfl nd_ rfl rfl (by decide) rfl rfl (pa_wp _) rfl) (ea_cons (ev_abs m_abs (ev_v 0 rfl (pv 0))) (ea_cons (ev_abs m_abs (ev_v 1 rfl (pv 1))) ea_nil)) (Nat.le_of_ble_eq_true rfl) (Nat.le_of_ble_eq_true rfl) (nm rfl) (nm rfl)) rfl) (ec_cons (EvS.to (env2 := [.im (Val.int (whileS divisor_of_w2_c divisor_of_w2 (((((other).natAbs : Int))).natAbs + 1) (((one).natAbs : Int), ((other).natAbs : Int))).1), .im (Val.int (whileS divisor_of_w2_c divisor_of_w2 (((((other).natAbs : Int))).natAbs + 1) (((one).natAbs : Int), ((other).natAbs : Int))).2)]) (EvS.wk0 (.s (.s .nil)) (es_whileS (fun so1 : Int × Int => (match so1 with | (so1_0, so1_1) => [.im (Val.int so1_0), .im (Val.int so1_1)] : List Sl)) divisor_of_w2_c divisor_of_w2 divisor_of_w2_cok divisor_of_w2_ok (((((other).natAbs : Int))).natAbs + 1) (((one).natAbs : Int), ((other).natAbs : Int)) PassesOwn.never h (fun st_ ho_ => divisor_of_w2_t  st_ ho_) (fun st_ ho_ hc_ => divisor_of_w2_b  st_ ho_))) ((show ∀ so1 : Int × Int, (fun so1 : Int × Int => (match so1 with | (so1_0, so1_1) => [.im (Val.int so1_0), .im (Val.int so1_1)] : List Sl)) so1 = ([.im (Val.int so1.1), .im (Val.int so1.2)] : List Sl) from fun (so1_0, so1_1) => rfl) _)) (EvC.wkR (ec_last (es_ret (ev_v 0 rfl (pv 0))) rfl) (.n (.n .nil))))))
    exact ⟨_, EvC.ss main_, divisor_of_oo (divisor_of one other) one other⟩
/-! fraction -/
abbrev s_fraction : Stmt := topS 2
theorem sc_fraction : FnScope ["n", "d", "divisor"] ["n", "d"] (defScope s_fraction) := ⟨rfl, rfl, rfl, by decide +kernel, rfl, by decide +kernel, by decide +kernel⟩
def fraction_e1 (n : Int) (d : Int) : Int := (divisor_of n d)
def fraction (n : Int) (d : Int) : ((Int × Int)) := ((Int.fdiv n (if (decide (d < (0 : Int))) = true then (-(fraction_e1 n d)) else (fraction_e1 n d))), (Int.fdiv d (if (decide (d < (0 : Int))) = true then (-(fraction_e1 n d)) else (fraction_e1 n d))))
def fraction_ok (n : Int) (d : Int) : Prop := (divisor_of_ok n d ∧ (FDivOk (if (decide (d < (0 : Int))) = true then (-(fraction_e1 n d)) else (fraction_e1 n d)) ∧ FDivOk (if (decide (d < (0 : Int))) = true then (-(fraction_e1 n d)) else (fraction_e1 n d))))
def fraction_o (t : ((Int × Int))) : Out := .rt (.im ((enc2 Val.int Val.int) t)) [.no, .no, .no]
theorem fraction_oo (t : ((Int × Int))) (n : Int) (d : Int) : OutOk [.im (Val.int n), .im (Val.int d)] (.im ((enc2 Val.int Val.int) t)) [.im (Val.int n), .im (Val.int d)] (fraction_o t) := by
  exact ⟨rfl, OE.ok (.im (.im .nil))⟩
def R_fraction : Rel := fun args_ r_ outs_ => ∃ (n : Int) (d : Int), fraction_ok n d ∧ args_ = [.im (Val.int n), .im (Val.int d)] ∧ r_ = .im ((enc2 Val.int Val.int) (fraction n d)) ∧ outs_ = [.im (Val.int n), .im (Val.int d)]
theorem R_fraction_of (n : Int) (d : Int) {v_ : ((Int × Int))} (h : fraction_ok n d) (e : fraction n d = v_) : R_fraction [.im (Val.int n), .im (Val.int d)] (.im ((enc2 Val.int Val.int) v_)) [.im (Val.int n), .im (Val.int d)] := by subst e; exact ⟨n, d, h, rfl, rfl, rfl⟩
set_option maxHeartbeats 2000000 in
theorem ok_fraction (D : DefAt K mg "fraction" s_fraction ["n", "d"])  (C_divisor_of : CalOk P w K mg base "divisor_of" ["one", "other"] 1 R_divisor_of) : CalOk P w K mg base "fraction" ["n", "d"] 2 R_fraction := by
  refine D.ok sc_fraction (by decide) (fun args r outs h => ?_) (fun f_ cdv_ A_ outer_ sh_ H_ E_ hr_ args r outs h => ?_)
  · obtain ⟨n, d, h, rfl, rfl, rfl⟩ := h; exact len_of rfl rfl
  · obtain ⟨n, d, h, rfl, rfl, rfl⟩ := h
    have nd_ := sc_fraction.nd
    have hu64_ := hu64 hr_; have hu65_ := hu65 hr_
    have main_ : EvC (cxOf CX0 P w K mg base ["n", "d", "divisor"] "fraction" (defScope s_fraction) f_ cdv_ A_ outer_ sh_ H_ E_).nox [] [defBody s_fraction] [.im (Val.int n), .im (Val.int d), .no] (fraction_o (fraction n d)) := (show EvC _ _ _ _ (fraction_o (((Int.fdiv n (if (decide (d < (0 : Int))) = true then (-(fraction_e1 n d)) else (fraction_e1 n d))), (Int.fdiv d (if (decide (d < (0 : Int))) = true then (-(fraction_e1 n d)) else (fraction_e1 n d)))))) from (ec_cons (EvS.to (env2 := [.im (Val.int n), .im (Val.int d), .im (Val.int (fraction_e1 n d))]) (es_setV (ps_set (i := 2) nd_ rfl (by first | exact .inl rfl | exact .inr rfl) (pe_wp _)) (ev_call (C_divisor_of.pe hr_ (by decide) rfl) (ea_cons (ev_v 0 rfl (pv 0)) (ea_cons (ev_v 1 rfl (pv 1)) ea_nil)) (.im (.im .nil)) (R_divisor_of_of n d h.1 (rfl : (divisor_of n d) = (fraction_e1 n d)))) (Nat.le_of_ble_eq_true rfl) (nm rfl)) rfl) (ec_cons (EvS.to (env2 := [.im (Val.int n), .im (Val.int d), .im (Val.int (if (decide (d < (0 : Int))) = true then (-(fraction_e1 n d)) else (fraction_e1 n d)))]) (es_ifJ (fun j2 : Int => [.im (Val.int n), .im (Val.int d), .im (Val.int j2)]) (t1 := (-(fraction_e1 n d))) (t0 := (fraction_e1 n d)) (et_lt (ev_v 1 rfl (pv 1)) ev_int) (fun hc3 => EvSs.wkN (ess_cons (EvS.to (env2 := [.im (Val.int n), .im (Val.int d), .im (Val.int (-(fraction_e1 n d)))]) (es_setV (ps_set (i := 2) nd_ rfl (by first | exact .inl rfl | exact .inr rfl) (pe_wp _)) (ev_neg (ev_v 2 rfl (pv 2))) (Nat.le_of_ble_eq_true rfl) (nm rfl)) rfl) ess_nil) (.s (.s (.s .nil)))) (fun hc3 => EvSs.wkN ess_nil (.s (.s (.s .nil))))) rfl) (EvC.wkR (ec_last (es_ret (ev_tup (xs := [Val.int (Int.fdiv n (if (decide (d < (0 : Int))) = true then (-(fraction_e1 n d)) else (fraction_e1 n d))), Val.int (Int.fdiv d (if (decide (d < (0 : Int))) = true then (-(fraction_e1 n d)) else (fraction_e1 n d)))]) (Nat.le_of_ble_eq_true rfl) (ea_cons (ev_fdiv h.2.1 (ev_v 0 rfl (pv 0)) (ev_v 2 rfl (pv 2))) (ea_cons (ev_fdiv h.2.2 (ev_v 1 rfl (pv 1)) (ev_v 2 rfl (pv 2))) ea_nil)))) rfl) (.n (.n (.n .nil)))))))
    exact ⟨_, EvC.ss main_, fraction_oo (fraction n d) n d⟩
/-! plus_of -/
abbrev s_plus_of : Stmt := topS 3
theorem sc_plus_of : FnScope ["one", "other"] ["one", "other"] (defScope s_plus_of) := ⟨rfl, rfl, rfl, by decide +kernel, rfl, by decide +kernel, by decide +kernel⟩
def plus_of_e1 (one : (Int × Int)) (other : (Int × Int)) : (Int × Int) := (fraction ((one.1 * other.2) + (other.1 * one.2)) (one.2 * other.2))
def plus_of (one : (Int × Int)) (other : (Int × Int)) : ((Int × Int)) := (plus_of_e1 one other)
def plus_of_ok (one : (Int × Int)) (other : (Int × Int)) : Prop := ((MulOk one.1 other.2 ∧ MulOk other.1 one.2) ∧ MulOk one.2 other.2 ∧ fraction_ok ((one.1 * other.2) + (other.1 * one.2)) (one.2 * other.2))
def plus_of_o (t : ((Int × Int))) : Out := .rt (.im ((enc2 Val.int Val.int) t)) [.no, .no]
theorem plus_of_oo (t : ((Int × Int))) (one : (Int × Int)) (other : (Int × Int)) : OutOk [.im ((enc2 Val.int Val.int) one), .im ((enc2 Val.int Val.int) other)] (.im ((enc2 Val.int Val.int) t)) [.im ((enc2 Val.int Val.int) one), .im ((enc2 Val.int Val.int) other)] (plus_of_o t) := by
  exact ⟨rfl, OE.ok (.im (.im .nil))⟩
def R_plus_of : Rel := fun args_ r_ outs_ => ∃ (one : (Int × Int)) (other : (Int × Int)), plus_of_ok one other ∧ args_ = [.im ((enc2 Val.int Val.int) one), .im ((enc2 Val.int Val.int) other)] ∧ r_ = .im ((enc2 Val.int Val.int) (plus_of one other)) ∧ outs_ = [.im ((enc2 Val.int Val.int) one), .im ((enc2 Val.int Val.int) other)]
theorem R_plus_of_of (one : (Int × Int)) (other : (Int × Int)) {v_ : ((Int × Int))} (h : plus_of_ok one other) (e : plus_of one other = v_) : R_plus_of [.im ((enc2 Val.int Val.int) one), .im ((enc2 Val.int Val.int) other)] (.im ((enc2 Val.int Val.int) v_)) [.im ((enc2 Val.int Val.int) one), .im ((enc2 Val.int Val.int) other)] := by subst e; exact ⟨one, other, h, rfl, rfl, rfl⟩
set_option maxHeartbeats 2000000 in
theorem ok_plus_of (D : DefAt K mg "plus_of" s_plus_of ["one", "other"])  (C_fraction : CalOk P w K mg base "fraction" ["n", "d"] 2 R_fraction) : CalOk P w K mg base "plus_of" ["one", "other"] 3 R_plus_of := by
  refine D.ok sc_plus_of (by decide) (fun args r outs h => ?_) (fun f_ cdv_ A_ outer_ sh_ H_ E_ hr_ args r outs h => ?_)
  · obtain ⟨one, other, h, rfl, rfl, rfl⟩ := h; exact len_of rfl rfl
  · obtain ⟨one, other, h, rfl, rfl, rfl⟩ := h
    have nd_ := sc_plus_of.nd
    have hu64_ := hu64 hr_; have hu65_ := hu65 hr_
    have main_ : EvC (cxOf CX0 P w K mg base ["one", "other"] "plus_of" (defScope s_plus_of) f_ cdv_ A_ outer_ sh_ H_ E_).nox [] [defBody s_plus_of] [.im ((enc2 Val.int Val.int) one), .im ((enc2 Val.int Val.int) other)] (plus_of_o (plus_of one other)) := (show EvC _ _ _ _ (plus_of_o ((plus_of_e1 one other))) from (EvC.wkR (ec_last (es_ret (ev_call (C_fraction.pe hr_ (by decide) rfl) (ea_cons (ev_add (ev_mul h.1.1 (ev_ix rfl (ev_v 0 rfl (pv 0)) ev_int (.val _) (.tup _)) (ev_ix rfl (ev_v 1 rfl (pv 1)) ev_int (.val _) (.tup _))) (ev_mul h.1.2 (ev_ix rfl (ev_v 1 rfl (pv 1)) ev_int (.val _) (.tup _)) (ev_ix rfl (ev_v 0 rfl (pv 0)) ev_int (.val _) (.tup _)))) (ea_cons (ev_mul h.2.1 (ev_ix rfl (ev_v 0 rfl (pv 0)) ev_int (.val _) (.tup _)) (ev_ix rfl (ev_v 1 rfl (pv 1)) ev_int (.val _) (.tup _))) ea_nil)) (.im (.im .nil)) (R_fraction_of ((one.1 * other.2) + (other.1 * one.2)) (one.2 * other.2) h.2.2 (rfl : (fraction ((one.1 * other.2) + (other.1 * one.2)) (one.2 * other.2)) = (plus_of_e1 one other))))) rfl) (.n (.n .nil))))
    exact ⟨_, EvC.ss main_, plus_of_oo (plus_of one other) one other⟩
/-! minus_of -/
abbrev s_minus_of : Stmt := topS 4
theorem sc_minus_of : FnScope ["one", "other"] ["one", "other"] (defScope s_minus_of) := ⟨rfl, rfl, rfl, by decide +kernel, rfl, by decide +kernel, by decide +kernel⟩
def minus_of_e1 (one : (Int × Int)) (other : (Int × Int)) : (Int × Int) := (fraction ((one.1 * other.2) - (other.1 * one.2)) (one.2 * other.2))
def minus_of (one : (Int × Int)) (other : (Int × Int)) : ((Int × Int)) := (minus_of_e1 one other)
def minus_of_ok (one : (Int × Int)) (other : (Int × Int)) : Prop := ((MulOk one.1 other.2 ∧ MulOk other.1 one.2) ∧ MulOk one.2 other.2 ∧ fraction_ok ((one.1 * other.2) - (other.1 * one.2)) (one.2 * other.2))
def minus_of_o (t : ((Int × Int))) : Out := .rt (.im ((enc2 Val.int Val.int) t)) [.no, .no]
theorem minus_of_oo (t : ((Int × Int))) (one : (Int × Int)) (other : (Int × Int)) : OutOk [.im ((enc2 Val.int Val.int) one), .im ((enc2 Val.int Val.int) other)] (.im ((enc2 Val.int Val.int) t)) [.im ((enc2 Val.int Val.int) one), .im ((enc2 Val.int Val.int) other)] (minus_of_o t) := by
  exact ⟨rfl, OE.ok (.im (.im .nil))⟩
def R_minus_of : Rel := fun args_ r_ outs_ => ∃ (one : (Int × Int)) (other : (Int × Int)), minus_of_ok one other ∧ args_ = [.im ((enc2 Val.int Val.int) one), .im ((enc2 Val.int Val.int) other)] ∧ r_ = .im ((enc2 Val.int Val.int) (minus_of one other)) ∧ outs_ = [.im ((enc2 Val.int Val.int) one), .im ((enc2 Val.int Val.int) other)]
theorem R_minus_of_of (one : (Int × Int)) (other : (Int × Int)) {v_ : ((Int × Int))} (h : minus_of_ok one other) (e : minus_of one other = v_) : R_minus_of [.im ((enc2 Val.int Val.int) one), .im ((enc2 Val.int Val.int) other)] (.im ((enc2 Val.int Val.int) v_)) [.im ((enc2 Val.int Val.int) one), .im ((enc2 Val.int Val.int) other)] := by subst e; exact ⟨one, other, h, rfl, rfl, rfl⟩
set_option maxHeartbeats 2000000 in
theorem ok_minus_of (D : DefAt K mg "minus_of" s_minus_of ["one", "other"])  (C_fraction : CalOk P w K mg base "fraction" ["n", "d"] 2 R_fraction) : CalOk P w K mg base "minus_of" ["one", "other"] 3 R_minus_of := by
  refine D.ok sc_minus_of (by decide) (fun args r outs h => ?_) (fun f_ cdv_ A_ outer_ sh_ H_ E_ hr_ args r outs h => ?_)
  · obtain ⟨one, other, h, rfl, rfl, rfl⟩ := h; exact len_of rfl rfl
  · obtain ⟨one, other, h, rfl, rfl, rfl⟩ := h
    have nd_ := sc_minus_of.nd
    have hu64_ := hu64 hr_; have hu65_ := hu65 hr_
    have main_ : EvC (cxOf CX0 P w K mg base ["one", "other"] "minus_of" (defScope s_minus_of) f_ cdv_ A_ outer_ sh_ H_ E_).nox [] [defBody s_minus_of] [.im ((enc2 Val.int Val.int) one), .im ((enc2 Val.int Val.int) other)] (minus_of_o (minus_of one other)) := (show EvC _ _ _ _ (minus_of_o ((minus_of_e1 one other))) from (EvC.wkR (ec_last (es_ret (ev_call (C_fraction.pe hr_ (by decide) rfl) (ea_cons (ev_sub (ev_mul h.1.1 (ev_ix rfl (ev_v 0 rfl (pv 0)) ev_int (.val _) (.tup _)) (ev_ix rfl (ev_v 1 rfl (pv 1)) ev_int (.val _) (.tup _))) (ev_mul h.1.2 (ev_ix rfl (ev_v 1 rfl (pv 1)) ev_int (.val _) (.tup _)) (ev_ix rfl (ev_v 0 rfl (pv 0)) ev_int (.val _) (.tup _)))) (ea_cons (ev_mul h.2.1 (ev_ix rfl (ev_v 0 rfl (pv 0)) ev_int (.val _) (.tup _)) (ev_ix rfl (ev_v 1 rfl (pv 1)) ev_int (.val _) (.tup _))) ea_nil)) (.im (.im .nil)) (R_fraction_of ((one.1 * other.2) - (other.1 * one.2)) (one.2 * other.2) h.2.2 (rfl : (fraction ((one.1 * other.2) - (other.1 * one.2)) (one.2 * other.2)) = (minus_of_e1 one other))))) rfl) (.n (.n .nil))))
    exact ⟨_, EvC.ss main_, minus_of_oo (minus_of one other) one other⟩
/-! times_of -/
abbrev s_times_of : Stmt := topS 5
theorem sc_times_of : FnScope ["one", "other"] ["one", "other"] (defScope s_times_of) := ⟨rfl, rfl, rfl, by decide +kernel, rfl, by decide +kernel, by decide +kernel⟩
def times_of_e1 (one : (Int × Int)) (other : (Int × Int)) : (Int × Int) := (fraction (one.1 * other.1) (one.2 * other.2))
def times_of (one : (Int × Int)) (other : (Int × Int)) : ((Int × Int)) := (times_of_e1 one other)
def times_of_ok (one : (Int × Int)) (other : (Int × Int)) : Prop := (MulOk one.1 other.1 ∧ MulOk one.2 other.2 ∧ fraction_ok (one.1 * other.1) (one.2 * other.2))
def times_of_o (t : ((Int × Int))) : Out := .rt (.im ((enc2 Val.int Val.int) t)) [.no, .no]
theorem times_of_oo (t : ((Int × Int))) (one : (Int × Int)) (other : (Int × Int)) : OutOk [.im ((enc2 Val.int Val.int) one), .im ((enc2 Val.int Val.int) other)] (.im ((enc2 Val.int Val.int) t)) [.im ((enc2 Val.int Val.int) one), .im ((enc2 Val.int Val.int) other)] (times_of_o t) := by
  exact ⟨rfl, OE.ok (.im (.im .nil))⟩
def R_times_of : Rel := fun args_ r_ outs_ => ∃ (one : (Int × Int)) (other : (Int × Int)), times_of_ok one other ∧ args_ = [.im ((enc2 Val.int Val.int) one), .im ((enc2 Val.int Val.int) other)] ∧ r_ = .im ((enc2 Val.int Val.int) (times_of one other)) ∧ outs_ = [.im ((enc2 Val.int Val.int) one), .im ((enc2 Val.int Val.int) other)]
theorem R_times_of_of (one : (Int × Int)) (other : (Int × Int)) {v_ : ((Int × Int))} (h : times_of_ok one other) (e : times_of one other = v_) : R_times_of [.im ((enc2 Val.int Val.int) one), .im ((enc2 Val.int Val.int) other)] (.im ((enc2 Val.int Val.int) v_)) [.im ((enc2 Val.int Val.int) one), .im ((enc2 Val.int Val.int) other)] := by subst e; exact ⟨one, other, h, rfl, rfl, rfl⟩
set_option maxHeartbeats 2000000 in
theorem ok_times_of (D : DefAt K mg "times_of" s_times_of ["one", "other"])  (C_fraction : CalOk P w K mg base "fraction" ["n", "d"] 2 R_fraction) : CalOk P w K mg base "times_of" ["one", "other"] 3 R_times_of := by
  refine D.ok sc_times_of (by decide) (fun args r outs h => ?_) (fun f_ cdv_ A_ outer_ sh_ H_ E_ hr_ args r outs h => ?_)
  · obtain ⟨one, other, h, rfl, rfl, rfl⟩ := h; exact len_of rfl rfl
  · obtain ⟨one, other, h, rfl, rfl, rfl⟩ := h
    have nd_ := sc_times_of.nd
    have hu64_ := hu64 hr_; have hu65_ := hu65 hr_
    have main_ : EvC (cxOf CX0 P w K mg base ["one", "other"] "times_of" (defScope s_times_of) f_ cdv_ A_ outer_ sh_ H_ E_).nox [] [defBody s_times_of] [.im ((enc2 Val.int Val.int) one), .im ((enc2 Val.int Val.int) other)] (times_of_o (times_of one other)) := (show EvC _ _ _ _ (times_of_o ((times_of_e1 one other))) from (EvC.wkR (ec_last (es_ret (ev_call (C_fraction.pe hr_ (by decide) rfl) (ea_cons (ev_mul h.1 (ev_ix rfl (ev_v 0 rfl (pv 0)) ev_int (.val _) (.tup _)) (ev_ix rfl (ev_v 1 rfl (pv 1)) ev_int (.val _) (.tup _))) (ea_cons (ev_mul h.2.1 (ev_ix rfl (ev_v 0 rfl (pv 0)) ev_int (.val _) (.tup _)) (ev_ix rfl (ev_v 1 rfl (pv 1)) ev_int (.val _) (.tup _))) ea_nil)) (.im (.im .nil)) (R_fraction_of (one.1 * other.1) (one.2 * other.2) h.2.2 (rfl : (fraction (one.1 * other.1) (one.2 * other.2)) = (times_of_e1 one other))))) rfl) (.n (.n .nil))))
    exact ⟨_, EvC.ss main_, times_of_oo (times_of one other) one other⟩
/-! divided_by -/
abbrev s_divided_by : Stmt := topS 6
theorem sc_divided_by : FnScope ["one", "other"] ["one", "other"] (defScope s_divided_by) := ⟨rfl, rfl, rfl, by decide +kernel, rfl, by decide +kernel, by decide +kernel⟩
def divided_by_e1 (one : (Int × Int)) (other : (Int × Int)) : (Int × Int) := (fraction (one.1 * other.2) (one.2 * other.1))
def divided_by (one : (Int × Int)) (other : (Int × Int)) : ((Int × Int)) := (divided_by_e1 one other)
def divided_by_ok (one : (Int × Int)) (other : (Int × Int)) : Prop := (MulOk one.1 other.2 ∧ MulOk one.2 other.1 ∧ fraction_ok (one.1 * other.2) (one.2 * other.1))
def divided_by_o (t : ((Int × Int))) : Out := .rt (.im ((enc2 Val.int Val.int) t)) [.no, .no]
theorem divided_by_oo (t : ((Int × Int))) (one : (Int × Int)) (other : (Int × Int)) : OutOk [.im ((enc2 Val.int Val.int) one), .im ((enc2 Val.int Val.int) other)] (.im ((enc2 Val.int Val.int) t)) [.im ((enc2 Val.int Val.int) one), .im ((enc2 Val.int Val.int) other)] (divided_by_o t) := by
  exact ⟨rfl, OE.ok (.im (.im .nil))⟩
def R_divided_by : Rel := fun args_ r_ outs_ => ∃ (one : (Int × Int)) (other : (Int × Int)), divided_by_ok one other ∧ args_ = [.im ((enc2 Val.int Val.int) one), .im ((enc2 Val.int Val.int) other)] ∧ r_ = .im ((enc2 Val.int Val.int) (divided_by one other)) ∧ outs_ = [.im ((enc2 Val.int Val.int) one), .im ((enc2 Val.int Val.int) other)]
theorem R_divided_by_of (one : (Int × Int)) (other : (Int × Int)) {v_ : ((Int × Int))} (h : divided_by_ok one other) (e : divided_by one other = v_) : R_divided_by [.im ((enc2 Val.int Val.int) one), .im ((enc2 Val.int Val.int) other)] (.im ((enc2 Val.int Val.int) v_)) [.im ((enc2 Val.int Val.int) one), .im ((enc2 Val.int Val.int) other)] := by subst e; exact ⟨one, other, h, rfl, rfl, rfl⟩
set_option maxHeartbeats 2000000 in
theorem ok_divided_by (D : DefAt K mg "divided_by" s_divided_by ["one", "other"])  (C_fraction : CalOk P w K mg base "fraction" ["n", "d"] 2 R_fraction) : CalOk P w K mg base "divided_by" ["one", "other"] 3 R_divided_by := by
  refine D.ok sc_divided_by (by decide) (fun args r outs h => ?_) (fun f_ cdv_ A_ outer_ sh_ H_ E_ hr_ args r outs h => ?_)
  · obtain ⟨one, other, h, rfl, rfl, rfl⟩ := h; exact len_of rfl rfl
  · obtain ⟨one, other, h, rfl, rfl, rfl⟩ := h
    have nd_ := sc_divided_by.nd
    have hu64_ := hu64 hr_; have hu65_ := hu65 hr_
    have main_ : EvC (cxOf CX0 P w K mg base ["one", "other"] "divided_by" (defScope s_divided_by) f_ cdv_ A_ outer_ sh_ H_ E_).nox [] [defBody s_divided_by] [.im ((enc2 Val.int Val.int) one), .im ((enc2 Val.int Val.int) other)] (divided_by_o (divided_by one other)) := (show EvC _ _ _ _ (divided_by_o ((divided_by_e1 one other))) from (EvC.wkR (ec_last (es_ret (ev_call (C_fraction.pe hr_ (by decide) rfl) (ea_cons (ev_mul h.1 (ev_ix rfl (ev_v 0 rfl (pv 0)) ev_int (.val _) (.tup _)) (ev_ix rfl (ev_v 1 rfl (pv 1)) ev_int (.val _) (.tup _))) (ea_cons (ev_mul h.2.1 (ev_ix rfl (ev_v 0 rfl (pv 0)) ev_int (.val _) (.tup _)) (ev_ix rfl (ev_v 1 rfl (pv 1)) ev_int (.val _) (.tup _))) ea_nil)) (.im (.im .nil)) (R_fraction_of (one.1 * other.2) (one.2 * other.1) h.2.2 (rfl : (fraction (one.1 * other.2) (one.2 * other.1)) = (divided_by_e1 one other))))) rfl) (.n (.n .nil))))
    exact ⟨_, EvC.ss main_, divided_by_oo (divided_by one other) one other⟩
/-! is_less -/
abbrev s_is_less : Stmt := topS 7
theorem sc_is_less : FnScope ["one", "other"] ["one", "other"] (defScope s_is_less) := ⟨rfl, rfl, rfl, by decide +kernel, rfl, by decide +kernel, by decide +kernel⟩
def is_less (one : (Int × Int)) (other : (Int × Int)) : (Bool) := (decide ((one.1 * other.2) < (other.1 * one.2)))
def is_less_ok (one : (Int × Int)) (other : (Int × Int)) : Prop := (MulOk one.1 other.2 ∧ MulOk other.1 one.2)
def is_less_o (t : (Bool)) : Out := .rt (.im (Val.bl t)) [.no, .no]
theorem is_less_oo (t : (Bool)) (one : (Int × Int)) (other : (Int × Int)) : OutOk [.im ((enc2 Val.int Val.int) one), .im ((enc2 Val.int Val.int) other)] (.im (Val.bl t)) [.im ((enc2 Val.int Val.int) one), .im ((enc2 Val.int Val.int) other)] (is_less_o t) := by
  exact ⟨rfl, OE.ok (.im (.im .nil))⟩
def R_is_less : Rel := fun args_ r_ outs_ => ∃ (one : (Int × Int)) (other : (Int × Int)), is_less_ok one other ∧ args_ = [.im ((enc2 Val.int Val.int) one), .im ((enc2 Val.int Val.int) other)] ∧ r_ = .im (Val.bl (is_less one other)) ∧ outs_ = [.im ((enc2 Val.int Val.int) one), .im ((enc2 Val.int Val.int) other)]
theorem R_is_less_of (one : (Int × Int)) (other : (Int × Int)) {v_ : (Bool)} (h : is_less_ok one other) (e : is_less one other = v_) : R_is_less [.im ((enc2 Val.int Val.int) one), .im ((enc2 Val.int Val.int) other)] (.im (Val.bl v_)) [.im ((enc2 Val.int Val.int) one), .im ((enc2 Val.int Val.int) other)] := by subst e; exact ⟨one, other, h, rfl, rfl, rfl⟩
set_option maxHeartbeats 2000000 in
theorem ok_is_less (D : DefAt K mg "is_less" s_is_less ["one", "other"])  : CalOk P w K mg base "is_less" ["one", "other"] 1 R_is_less := by
  refine D.ok sc_is_less (by decide) (fun args r outs h => ?_) (fun f_ cdv_ A_ outer_ sh_ H_ E_ hr_ args r outs h => ?_)
  · obtain ⟨one, other, h, rfl, rfl, rfl⟩ := h; exact len_of rfl rfl
  · obtain ⟨one, other, h, rfl, rfl, rfl⟩ := h
    have nd_ := sc_is_less.nd
    have hu64_ := hu64 hr_; have hu65_ := hu65 hr_
    have main_ : EvC (cxOf CX0 P w K mg base ["one", "other"] "is_less" (defScope s_is_less) f_ cdv_ A_ outer_ sh_ H_ E_).nox [] [defBody s_is_less] [.im ((enc2 Val.int Val.int) one), .im ((enc2 Val.int Val.int) other)] (is_less_o (is_less one other)) := (show EvC _ _ _ _ (is_less_o ((decide ((one.1 * other.2) < (other.1 * one.2))))) from (EvC.wkR (ec_last (es_ret (ev_lt (ev_mul h.1 (ev_ix rfl (ev_v 0 rfl (pv 0)) ev_int (.val _) (.tup _)) (ev_ix rfl (ev_v 1 rfl (pv 1)) ev_int (.val _) (.tup _))) (ev_mul h.2 (ev_ix rfl (ev_v 1 rfl (pv 1)) ev_int (.val _) (.tup _)) (ev_ix rfl (ev_v 0 rfl (pv 0)) ev_int (.val _) (.tup _))))) rfl) (.n (.n .nil))))
    exact ⟨_, EvC.ss main_, is_less_oo (is_less one other) one other⟩
/-! _law_draws -/
abbrev s_law_draws : Stmt := topS 9
theorem sc_law_draws : FnScope ["script", "many", "cells", "cell", "rest", "draws", "k", "at", "once"] ["script", "many"] (defScope s_law_draws) := ⟨rfl, rfl, rfl, by decide +kernel, rfl, by decide +kernel, by decide +kernel⟩
def law_draws_e3 (script : (List Int)) : (List Int) := (if (decide ((((script.map (fun x1 => x1))).length : Int) = (0 : Int))) = true then ((script.map (fun x1 => x1)) ++ [(0 : Int)]) else (script.map (fun x1 => x1)))
def law_draws_e7 (cells : (List Int)) (s : ((List Int) × (List Int))) (x : Int) : (List Int) × (List Int) := (if ((decide (((10 : Int) ^ (18 : Nat)) ≤ (ix cells (x % ((cells).length : Int)) (0 : Int)))) && (decide ((0 : Int) < (ix s.1 (x % ((cells).length : Int)) (0 : Int))))) = true then ((setI s.1 (x % ((cells).length : Int)) ((ix s.1 (x % ((cells).length : Int)) (0 : Int)) / (1000 : Int))), (s.2 ++ [((ix s.1 (x % ((cells).length : Int)) (0 : Int)) % (1000 : Int))])) else (s.1, (s.2 ++ [(((((((((ix cells (x % ((cells).length : Int)) (0 : Int)) * (48271 : Int)) + (x * (69621 : Int))) + (11 : Int)) % (2147483647 : Int)) * (((((ix cells (x % ((cells).length : Int)) (0 : Int)) * (48271 : Int)) + (x * (69621 : Int))) + (11 : Int)) % (2147483647 : Int))) + ((3 : Int) * (((((ix cells (x % ((cells).length : Int)) (0 : Int)) * (48271 : Int)) + (x * (69621 : Int))) + (11 : Int)) % (2147483647 : Int)))) + x) % (1000003 : Int))])))
def law_draws_f5 (cells : (List Int)) (s : (List Int) × (List Int)) (x : Int) : (List Int) × (List Int) := ((law_draws_e7 cells s x).1, (law_draws_e7 cells s x).2)
def law_draws_f5_ok (cells : (List Int)) (s : (List Int) × (List Int)) (x : Int) : Prop := (0 < ((cells).length : Int) ∧ ((IxOk cells (x % ((cells).length : Int)) ∧ ((decide (((10 : Int) ^ (18 : Nat)) ≤ (ix cells (x % ((cells).length : Int)) (0 : Int)))) = true → IxOk s.1 (x % ((cells).length : Int)))) ∧ (((decide (((10 : Int) ^ (18 : Nat)) ≤ (ix cells (x % ((cells).length : Int)) (0 : Int)))) && (decide ((0 : Int) < (ix s.1 (x % ((cells).length : Int)) (0 : Int))))) = true → ((IxOk s.1 (x % ((cells).length : Int)) ∧ (s.2).length < sizeLine) ∧ (IxOk s.1 (x % ((cells).length : Int)) ∧ IxOk s.1 (x % ((cells).length : Int))))) ∧ (((decide (((10 : Int) ^ (18 : Nat)) ≤ (ix cells (x % ((cells).length : Int)) (0 : Int)))) && (decide ((0 : Int) < (ix s.1 (x % ((cells).length : Int)) (0 : Int))))) = false → (IxOk cells (x % ((cells).length : Int)) ∧ (MulOk (((((ix cells (x % ((cells).length : Int)) (0 : Int)) * (48271 : Int)) + (x * (69621 : Int))) + (11 : Int)) % (2147483647 : Int)) (((((ix cells (x % ((cells).length : Int)) (0 : Int)) * (48271 : Int)) + (x * (69621 : Int))) + (11 : Int)) % (2147483647 : Int)) ∧ (s.2).length < sizeLine)))))
def law_draws (script : (List Int)) (many : Int) : ((List Int)) := (((irange 0 many).foldl (law_draws_f5 (law_draws_e3 script)) ((law_draws_e3 script), ([] : List Int))).2).reverse
def law_draws_ok (script : (List Int)) (many : Int) : Prop := (((decide ((((script.map (fun x1 => x1))).length : Int) = (0 : Int))) = true → ((script.map (fun x1 => x1))).length < sizeLine) ∧ ((-(2 ^ 62) ≤ many ∧ many < 2 ^ 62) ∧ foldOk (law_draws_f5 (law_draws_e3 script)) (law_draws_f5_ok (law_draws_e3 script)) ((law_draws_e3 script), ([] : List Int)) (irange 0 many)))
def law_draws_o (t : ((List Int))) : Out := .rt (.ow ((encL Val.int) t)) [.no, .no, .no, .no, .no, .no, .no, .no, .no]
theorem law_draws_oo (t : ((List Int))) (script : (List Int)) (many : Int) : OutOk [.im ((encL Val.int) script), .im (Val.int many)] (.ow ((encL Val.int) t)) [.im ((encL Val.int) script), .im (Val.int many)] (law_draws_o t) := by
  exact ⟨rfl, OE.ok (.im (.im .nil))⟩
def R_law_draws : Rel := fun args_ r_ outs_ => ∃ (script : (List Int)) (many : Int), law_draws_ok script many ∧ args_ = [.im ((encL Val.int) script), .im (Val.int many)] ∧ r_ = .ow ((encL Val.int) (law_draws script many)) ∧ outs_ = [.im ((encL Val.int) script), .im (Val.int many)]
theorem R_law_draws_of (script : (List Int)) (many : Int) {v_ : ((List Int))} (h : law_draws_ok script many) (e : law_draws script many = v_) : R_law_draws [.im ((encL Val.int) script), .im (Val.int many)] (.ow ((encL Val.int) v_)) [.im ((encL Val.int) script), .im (Val.int many)] := by subst e; exact ⟨script, many, h, rfl, rfl, rfl⟩
set_option maxHeartbeats 2000000 in
theorem ok_law_draws (D : DefAt K mg "_law_draws" s_law_draws ["script", "many"]) (m_int : mg "int" = none) (m_len : mg "len" = none) (m_list : mg "list" = none) (m_range : mg "range" = none) : CalOk P w K mg base "_law_draws" ["script", "many"] 1 R_law_draws := by
  refine D.ok sc_law_draws (by decide) (fun args r outs h => ?_) (fun f_ cdv_ A_ outer_ sh_ H_ E_ hr_ args r outs h => ?_)
  · obtain ⟨script, many, h, rfl, rfl, rfl⟩ := h; exact len_of rfl rfl
  · obtain ⟨script, many, h, rfl, rfl, rfl⟩ := h
    have nd_ := sc_law_draws.nd
    have hu64_ := hu64 hr_; have hu65_ := hu65 hr_
    have law_draws_f5_b : ∀ (cells : (List Int)) (s : (List Int) × (List Int)) (x : Int), law_draws_f5_ok cells s x → ∃ envt, EvG (cxOf CX0 P w K mg base ["script", "many", "cells", "cell", "rest", "draws", "k", "at", "once"] "_law_draws" (defScope s_law_draws) f_ cdv_ A_ outer_ sh_ H_ E_).nox [] (forTg (stAt (defBody s_law_draws) 4)) (Val.int x) [.no, .no, .im ((encL Val.int) cells), .no, .ow ((encL Val.int) s.1), .ow ((encL Val.int) s.2), .no, .no, .no] envt ∧ EvSs (cxOf CX0 P w K mg base ["script", "many", "cells", "cell", "rest", "draws", "k", "at", "once"] "_law_draws" (defScope s_law_draws) f_ cdv_ A_ outer_ sh_ H_ E_).nox [] (loopBody (stAt (defBody s_law_draws) 4)) envt (.nx ((fun so4 : (List Int) × (List Int) => (match so4 with | (so4_0, so4_1) => [.no, .no, .im ((encL Val.int) cells), .no, .ow ((encL Val.int) so4_0), .ow ((encL Val.int) so4_1), .no, .no, .no] : List Sl)) ((law_draws_f5 cells) s x))) := fun cells s x h => ⟨_, (eg_name 6 (pg_name nd_ rfl (by first | exact .inl rfl | exact .inr rfl)) (Nat.le_of_ble_eq_true rfl) (nm rfl)), EvSs.wkN (ess_cons (EvS.to (env2 := [.no, .no, .im ((encL Val.int) cells), .no, .ow ((encL Val.int) s.1), .ow ((encL Val.int) s.2), .im (Val.int x), .im (Val.int (x % ((cells).length : Int))), .no]) (es_setV (ps_set (i := 7) nd_ rfl (by first | exact .inl rfl | exact .inr rfl) (pe_wp _)) (ev_mod h.1 (ev_v 6 rfl (pv 6)) (ev_lenT m_len (ev_v 2 rfl (pv 2)) (.val _) (.lst _))) (Nat.le_of_ble_eq_true rfl) (nm rfl)) rfl) (ess_cons (EvS.to (env2 := [.no, .no, .im ((encL Val.int) cells), .no, .ow ((encL Val.int) (law_draws_e7 cells s x).1), .ow ((encL Val.int) (law_draws_e7 cells s x).2), .no, .no, .no]) (es_ifJ (fun j6 : (List Int) × (List Int) => (match j6 with | (j6_0, j6_1) => [.no, .no, .im ((encL Val.int) cells), .no, .ow ((encL Val.int) j6_0), .ow ((encL Val.int) j6_1), .no, .no, .no] : List Sl)) (t1 := ((setI s.1 (x % ((cells).length : Int)) ((ix s.1 (x % ((cells).length : Int)) (0 : Int)) / (1000 : Int))), (s.2 ++ [((ix s.1 (x % ((cells).length : Int)) (0 : Int)) % (1000 : Int))]))) (t0 := (s.1, (s.2 ++ [(((((((((ix cells (x % ((cells).length : Int)) (0 : Int)) * (48271 : Int)) + (x * (69621 : Int))) + (11 : Int)) % (2147483647 : Int)) * (((((ix cells (x % ((cells).length : Int)) (0 : Int)) * (48271 : Int)) + (x * (69621 : Int))) + (11 : Int)) % (2147483647 : Int))) + ((3 : Int) * (((((ix cells (x % ((cells).length : Int)) (0 : Int)) * (48271 : Int)) + (x * (69621 : Int))) + (11 : Int)) % (2147483647 : Int)))) + x) % (1000003 : Int))]))) (EvW.t (ew_and (et_ge (ev_ixT (f := Val.int) (0 : Int) h.2.1.1 (ev_v 2 rfl (pv 2)) (ev_v 7 rfl (pv 7)) (.val _) (.lst _)) (ev_pow (k := 18) ⟨by decide, by decide⟩ ev_int ev_int)) (fun hb9 => (ew_and1 (et_gt (ev_ixT (f := Val.int) (0 : Int) (h.2.1.2 hb9) (ev_o 4 rfl (pv 4)) (ev_v 7 rfl (pv 7)) (.own rfl) (.lst _)) ev_int))))) (fun hc8 => EvSs.wkN (ess_cons (EvS.to (env2 := [.no, .no, .im ((encL Val.int) cells), .no, .ow ((encL Val.int) s.1), .ow ((encL Val.int) (s.2 ++ [((ix s.1 (x % ((cells).length : Int)) (0 : Int)) % (1000 : Int))])), .im (Val.int x), .im (Val.int (x % ((cells).length : Int))), .no]) (es_expr (ev_appendT (f := Val.int) 5 (ev_o 5 rfl (pv 5)) (ev_mod (by decide +kernel) (ev_int1 m_int (ev_ixT (f := Val.int) (0 : Int) (h.2.2.1 hc8).1.1 (ev_o 4 rfl (pv 4)) (ev_v 7 rfl (pv 7)) (.own rfl) (.lst _))) ev_int) rfl rfl (h.2.2.1 hc8).1.2)) rfl) (ess_cons (EvS.to (env2 := [.no, .no, .im ((encL Val.int) cells), .no, .ow ((encL Val.int) (setI s.1 (x % ((cells).length : Int)) ((ix s.1 (x % ((cells).length : Int)) (0 : Int)) / (1000 : Int)))), .ow ((encL Val.int) (s.2 ++ [((ix s.1 (x % ((cells).length : Int)) (0 : Int)) % (1000 : Int))])), .im (Val.int x), .im (Val.int (x % ((cells).length : Int))), .no]) (es_setIxT (f := Val.int) 4 (ps_asg (pe_wp _) (pg_sub (pe_wp _) (pe_wp _) set_list)) (ev_div ⟨by decide +kernel, by decide +kernel⟩ (ev_ixT (f := Val.int) (0 : Int) (h.2.2.1 hc8).2.1 (ev_o 4 rfl (pv 4)) (ev_v 7 rfl (pv 7)) (.own rfl) (.lst _)) ev_int) (ev_o 4 rfl (pv 4)) (ev_v 7 rfl (pv 7)) rfl (h.2.2.1 hc8).2.2) rfl) ess_nil)) (.n (.n (.s (.n (.s (.s (.n (.n (.n .nil)))))))))) (fun hc8 => EvSs.wkN (ess_cons (EvS.to (env2 := [.no, .no, .im ((encL Val.int) cells), .no, .ow ((encL Val.int) s.1), .ow ((encL Val.int) s.2), .im (Val.int x), .im (Val.int (x % ((cells).length : Int))), .im (Val.int (((((ix cells (x % ((cells).length : Int)) (0 : Int)) * (48271 : Int)) + (x * (69621 : Int))) + (11 : Int)) % (2147483647 : Int)))]) (es_setV (ps_set (i := 8) nd_ rfl (by first | exact .inl rfl | exact .inr rfl) (pe_wp _)) (ev_mod (by decide +kernel) (ev_int1 m_int (ev_add (ev_add (ev_mul (.inl (.inr ⟨by decide +kernel, by decide +kernel⟩)) (ev_ixT (f := Val.int) (0 : Int) (h.2.2.2 hc8).1 (ev_v 2 rfl (pv 2)) (ev_v 7 rfl (pv 7)) (.val _) (.lst _)) ev_int) (ev_mul (.inl (.inr ⟨by decide +kernel, by decide +kernel⟩)) (ev_v 6 rfl (pv 6)) ev_int)) ev_int)) ev_int) (Nat.le_of_ble_eq_true rfl) (nm rfl)) rfl) (ess_cons (EvS.to (env2 := [.no, .no, .im ((encL Val.int) cells), .no, .ow ((encL Val.int) s.1), .ow ((encL Val.int) (s.2 ++ [(((((((((ix cells (x % ((cells).length : Int)) (0 : Int)) * (48271 : Int)) + (x * (69621 : Int))) + (11 : Int)) % (2147483647 : Int)) * (((((ix cells (x % ((cells).length : Int)) (0 : Int)) * (48271 : Int)) + (x * (69621 : Int))) + (11 : Int)) % (2147483647 : Int))) + ((3 : Int) * (((((ix cells (x % ((cells).length : Int)) (0 : Int)) * (48271 : Int)) + (x * (69621 : Int))) + (11 : Int)) % (2147483647 : Int)))) + x) % (1000003 : Int))])), .im (Val.int x), .im (Val.int (x % ((cells).length : Int))), .im (Val.int (((((ix cells (x % ((cells).length : Int)) (0 : Int)) * (48271 : Int)) + (x * (69621 : Int))) + (11 : Int)) % (2147483647 : Int)))]) (es_expr (ev_appendT (f := Val.int) 5 (ev_o 5 rfl (pv 5)) (ev_mod (by decide +kernel) (ev_int1 m_int (ev_add (ev_add (ev_mul (h.2.2.2 hc8).2.1 (ev_v 8 rfl (pv 8)) (ev_v 8 rfl (pv 8))) (ev_mul (.inl (.inl ⟨by decide +kernel, by decide +kernel⟩)) ev_int (ev_v 8 rfl (pv 8)))) (ev_v 6 rfl (pv 6)))) ev_int) rfl rfl (h.2.2.2 hc8).2.2)) rfl) ess_nil)) (.n (.n (.s (.n (.s (.s (.n (.n (.n .nil))))))))))) ((show ∀ j6 : (List Int) × (List Int), (fun j6 : (List Int) × (List Int) => (match j6 with | (j6_0, j6_1) => [.no, .no, .im ((encL Val.int) cells), .no, .ow ((encL Val.int) j6_0), .ow ((encL Val.int) j6_1), .no, .no, .no] : List Sl)) j6 = ([.no, .no, .im ((encL Val.int) cells), .no, .ow ((encL Val.int) j6.1), .ow ((encL Val.int) j6.2), .no, .no, .no] : List Sl) from fun (j6_0, j6_1) => rfl) _)) ess_nil)) (.n (.n (.s (.n (.s (.s (.n (.n (.n .nil)))))))))⟩
    have main_ : EvC (cxOf CX0 P w K mg base ["script", "many", "cells", "cell", "rest", "draws", "k", "at", "once"] "_law_draws" (defScope s_law_draws) f_ cdv_ A_ outer_ sh_ H_ E_).nox [] [defBody s_law_draws] [.im ((encL Val.int) script), .im (Val.int many), .no, .no, .no, .no, .no, .no, .no] (law_draws_o (law_draws script many)) := (show EvC _ _ _ _ (law_draws_o ((((irange 0 many).foldl (law_draws_f5 (law_draws_e3 script)) ((law_draws_e3 script), ([] : List Int))).2).reverse)) from (ec_cons (EvS.to (env2 := [.im ((encL Val.int) script), .im (Val.int many), .ow ((encL Val.int) (script.map (fun x1 => x1))), .no, .no, .no, .no, .no, .no]) (es_setN (es_lc0 (M := []) (i := 2) (own := [("cell", 3)]) rfl nd_ rfl rfl (sw_true rfl rfl rfl (by decide +kernel)) (pi_list (pe_wp _)) (blkOk_by rfl)) (lcM (vs := List.map (·.2) ([("cell", 3)] : List (Str × Nat))) Val.int Val.int script (fun x1 => x1) (fun x1 => True) (src_lst (ev_v 0 rfl (pv 0))) (fun x1 hx11 => trivial) fun x1 hx11 ho12 => ⟨_, fun _ _ _ _ _ => (eg_name 3 (pg_name nd_ rfl (by first | exact .inl rfl | exact .inr rfl)) (Nat.le_of_ble_eq_true rfl) (nm rfl)), rfl, fun _ _ _ _ _ => (ev_int1 m_int (ev_v 3 rfl (pv 3)))⟩) (Nat.le_of_ble_eq_true rfl) (nm rfl)) rfl) (ec_cons (EvS.to (env2 := [.no, .im (Val.int many), .ow ((encL Val.int) (law_draws_e3 script)), .no, .no, .no, .no, .no, .no]) (es_ifJ (fun j2 : (List Int) => [.no, .im (Val.int many), .ow ((encL Val.int) j2), .no, .no, .no, .no, .no, .no]) (t1 := ((script.map (fun x1 => x1)) ++ [(0 : Int)])) (t0 := (script.map (fun x1 => x1))) (et_eqT lw_int (by decide) hu64_ (ev_lenT m_len (ev_o 2 rfl (pv 2)) (.own rfl) (.lst _)) ev_int (.val _) (.val _)) (fun hc14 => EvSs.wkN (ess_cons (EvS.to (env2 := [.im ((encL Val.int) script), .im (Val.int many), .ow ((encL Val.int) ((script.map (fun x1 => x1)) ++ [(0 : Int)])), .no, .no, .no, .no, .no, .no]) (es_expr (ev_appendT (f := Val.int) 2 (ev_o 2 rfl (pv 2)) ev_int rfl rfl (h.1 hc14))) rfl) ess_nil) (.n (.s (.s (.n (.s (.s (.n (.n (.n .nil)))))))))) (fun hc14 => EvSs.wkN ess_nil (.n (.s (.s (.n (.s (.s (.n (.n (.n .nil))))))))))) rfl) (EvC.frz 2 rfl (ec_cons (EvS.to (env2 := [.no, .im (Val.int many), .im ((encL Val.int) (law_draws_e3 script)), .no, .ow ((encL Val.int) (law_draws_e3 script)), .no, .no, .no, .no]) (es_setO (ps_set (i := 4) nd_ rfl (by first | exact .inl rfl | exact .inr rfl) (pe_wp _)) (en_list m_list (ev_v 2 rfl (pv 2)) (.val _) (.lst _)) (Nat.le_of_ble_eq_true rfl) (nm rfl)) rfl) (ec_cons (EvS.to (env2 := [.no, .im (Val.int many), .im ((encL Val.int) (law_draws_e3 script)), .no, .ow ((encL Val.int) (law_draws_e3 script)), .ow ((encL Val.int) ([] : List Int)), .no, .no, .no]) (es_setO (ps_set (i := 5) nd_ rfl (by first | exact .inl rfl | exact .inr rfl) (pe_wp _)) (en_lst (xs := []) (Nat.le_of_ble_eq_true rfl) ea_nil) (Nat.le_of_ble_eq_true rfl) (nm rfl)) rfl) (ec_cons (EvS.to (env2 := [.no, .no, .im ((encL Val.int) (law_draws_e3 script)), .no, .ow ((encL Val.int) ((irange 0 many).foldl (law_draws_f5 (law_draws_e3 script)) ((law_draws_e3 script), ([] : List Int))).1), .ow ((encL Val.int) ((irange 0 many).foldl (law_draws_f5 (law_draws_e3 script)) ((law_draws_e3 script), ([] : List Int))).2), .no, .no, .no]) (es_forF1 (fun so4 : (List Int) × (List Int) => (match so4 with | (so4_0, so4_1) => [.no, .no, .im ((encL Val.int) (law_draws_e3 script)), .no, .ow ((encL Val.int) so4_0), .ow ((encL Val.int) so4_1), .no, .no, .no] : List Sl)) (law_draws_f5 (law_draws_e3 script)) (law_draws_f5_ok (law_draws_e3 script)) many ((law_draws_e3 script), ([] : List Int)) rfl PassesOwn.never m_range (Ev.wk (ev_v 1 rfl (pv 1)) (.n (.n (.s (.n (.s (.s (.n (.n (.n .nil)))))))))) h.2.1 h.2.2 (fun st_ xt_ hx_ ho_ => law_draws_f5_b (law_draws_e3 script) st_ xt_ ho_)) ((show ∀ so4 : (List Int) × (List Int), (fun so4 : (List Int) × (List Int) => (match so4 with | (so4_0, so4_1) => [.no, .no, .im ((encL Val.int) (law_draws_e3 script)), .no, .ow ((encL Val.int) so4_0), .ow ((encL Val.int) so4_1), .no, .no, .no] : List Sl)) so4 = ([.no, .no, .im ((encL Val.int) (law_draws_e3 script)), .no, .ow ((encL Val.int) so4.1), .ow ((encL Val.int) so4.2), .no, .no, .no] : List Sl) from fun (so4_0, so4_1) => rfl) _)) (ec_cons (EvS.to (env2 := [.no, .no, .im ((encL Val.int) (law_draws_e3 script)), .no, .ow ((encL Val.int) ((irange 0 many).foldl (law_draws_f5 (law_draws_e3 script)) ((law_draws_e3 script), ([] : List Int))).1), .ow ((encL Val.int) (((irange 0 many).foldl (law_draws_f5 (law_draws_e3 script)) ((law_draws_e3 script), ([] : List Int))).2).reverse), .no, .no, .no]) (es_expr (ev_reverseT (f := Val.int) 5 (ev_o 5 rfl (pv 5)) rfl)) rfl) (EvC.wkR (ec_last (es_retO (ev_o 5 rfl (pv 5)) rfl) rfl) (.n (.n (.n (.n (.n (.n (.n (.n (.n .nil))))))))))))))))))
    exact ⟨_, EvC.ss main_, law_draws_oo (law_draws script many) script many⟩
/-! _law_take -/
abbrev s_law_take : Stmt := topS 10
theorem sc_law_take : FnScope ["draws", "many"] ["draws", "many"] (defScope s_law_take) := ⟨rfl, rfl, rfl, by decide +kernel, rfl, by decide +kernel, by decide +kernel⟩
def law_take (draws : (List Int)) (many : Int) : (Int × (List Int)) := (if (decide (((draws).length : Int) = (0 : Int))) = true then ((0 : Int), draws) else ((((draws).getLastD (0 : Int)) % many), (draws).dropLast))
def law_take_ok (draws : (List Int)) (many : Int) : Prop := ((decide (((draws).length : Int) = (0 : Int))) = false → (draws ≠ [] ∧ 0 < many))
def law_take_o : (Int × (List Int)) → Out
  | (t_0, t_1) => .rt (.im (Val.int t_0)) [.ow ((encL Val.int) t_1), .no]
theorem law_take_oo (t : (Int × (List Int))) (draws : (List Int)) (many : Int) : OutOk [.mu ((encL Val.int) draws), .im (Val.int many)] (.im (Val.int t.1)) [.mu ((encL Val.int) t.2), .im (Val.int many)] (law_take_o t) := by
  obtain ⟨t_0, t_1⟩ := t; exact ⟨rfl, OE.ok (.mu (.im .nil))⟩
def R_law_take : Rel := fun args_ r_ outs_ => ∃ (draws : (List Int)) (many : Int), law_take_ok draws many ∧ args_ = [.mu ((encL Val.int) draws), .im (Val.int many)] ∧ r_ = .im (Val.int (law_take draws many).1) ∧ outs_ = [.mu ((encL Val.int) (law_take draws many).2), .im (Val.int many)]
theorem R_law_take_of (draws : (List Int)) (many : Int) {v_ : (Int × (List Int))} (h : law_take_ok draws many) (e : law_take draws many = v_) : R_law_take [.mu ((encL Val.int) draws), .im (Val.int many)] (.im (Val.int v_.1)) [.mu ((encL Val.int) v_.2), .im (Val.int many)] := by subst e; exact ⟨draws, many, h, rfl, rfl, rfl⟩
set_option maxHeartbeats 2000000 in
theorem ok_law_take (D : DefAt K mg "_law_take" s_law_take ["draws", "many"]) (m_len : mg "len" = none) (m_int : mg "int" = none) : CalOk P w K mg base "_law_take" ["draws", "many"] 1 R_law_take := by
  refine D.ok sc_law_take (by decide) (fun args r outs h => ?_) (fun f_ cdv_ A_ outer_ sh_ H_ E_ hr_ args r outs h => ?_)
  · obtain ⟨draws, many, h, rfl, rfl, rfl⟩ := h; exact len_of rfl rfl
  · obtain ⟨draws, many, h, rfl, rfl, rfl⟩ := h
    have nd_ := sc_law_take.nd
    have hu64_ := hu64 hr_; have hu65_ := hu65 hr_
    have main_ : EvC (cxOf CX0 P w K mg base ["draws", "many"] "_law_take" (defScope s_law_take) f_ cdv_ A_ outer_ sh_ H_ E_).nox [0] [defBody s_law_take] [.ow ((encL Val.int) draws), .im (Val.int many)] (law_take_o (law_take draws many)) := (show EvC _ _ _ _ (law_take_o ((if (decide (((draws).length : Int) = (0 : Int))) = true then ((0 : Int), draws) else ((((draws).getLastD (0 : Int)) % many), (draws).dropLast)))) from (ec_ifV law_take_o (t1 := ((0 : Int), draws)) (t0 := ((((draws).getLastD (0 : Int)) % many), (draws).dropLast)) (et_eqT lw_int (by decide) hu64_ (ev_lenT m_len (ev_o 0 rfl (pv 0)) (.own rfl) (.lst _)) ev_int (.val _) (.val _)) (fun hc1 => (EvC.wkR (ec_last (es_ret ev_int) rfl) (.s (.n .nil)))) (fun hc1 => (ec_nil (EvC.wkR (ec_last (es_ret (ev_mod (h hc1).2 (ev_int1 m_int (ev_popT (f := Val.int) 0 (0 : Int) (ev_o 0 rfl (pv 0)) rfl (h hc1).1)) (ev_v 1 rfl (pv 1)))) rfl) (.s (.n .nil)))))))
    exact ⟨_, EvC.ss main_, law_take_oo (law_take draws many) draws many⟩
/-! _law_size -/
abbrev s_law_size : Stmt := topS 12
theorem sc_law_size : FnScope ["draws", "script", "kind", "number"] ["draws", "script"] (defScope s_law_size) := ⟨rfl, rfl, rfl, by decide +kernel, rfl, by decide +kernel, by decide +kernel⟩
def law_size_e1 (draws : (List Int)) : Int × (List Int) := (law_take draws (4 : Int))
def law_size_e2 (draws : (List Int)) : Int × (List Int) := (law_take (law_size_e1 draws).2 (1000 : Int))
def law_size_e3 (draws : (List Int)) : Int × (List Int) := (law_take (law_size_e2 draws).2 (1000 : Int))
def law_size_e5 (draws : (List Int)) : (List Int) × Int := (if (decide ((law_size_e1 draws).1 = (1 : Int))) = true then ((law_size_e3 draws).2, ((law_size_e2 draws).1 + (((1 : Int) + (law_size_e3 draws).1) * ((10 : Int) ^ (15 : Nat))))) else ((law_size_e2 draws).2, (law_size_e2 draws).1))
def law_size_e6 (draws : (List Int)) (script : (List Int)) : Int × (List Int) := (law_take (law_size_e5 draws).1 ((script).length : Int))
def law_size_e8 (draws : (List Int)) (script : (List Int)) : (List Int) × Int := (if ((decide ((law_size_e1 draws).1 = (2 : Int))) && (decide ((0 : Int) < ((script).length : Int)))) = true then ((law_size_e6 draws script).2, ((law_size_e5 draws).2 + ((((ix script (law_size_e6 draws script).1 (0 : Int))).natAbs : Int) % ((10 : Int) ^ (60 : Nat))))) else ((law_size_e5 draws).1, (law_size_e5 draws).2))
def law_size_e9 (draws : (List Int)) (script : (List Int)) : Int × (List Int) := (law_take (law_size_e8 draws script).1 (1000 : Int))
def law_size_e11 (draws : (List Int)) (script : (List Int)) : (List Int) × Int := (if (decide ((law_size_e1 draws).1 = (3 : Int))) = true then ((law_size_e9 draws script).2, (((law_size_e8 draws script).2 * (1000 : Int)) + (law_size_e9 draws script).1)) else ((law_size_e8 draws script).1, (law_size_e8 draws script).2))
def law_size (draws : (List Int)) (script : (List Int)) : (Int × (List Int)) := ((law_size_e11 draws script).2, (law_size_e11 draws script).1)
def law_size_ok (draws : (List Int)) (script : (List Int)) : Prop := (law_take_ok draws (4 : Int) ∧ (law_take_ok (law_size_e1 draws).2 (1000 : Int) ∧ (((decide ((law_size_e1 draws).1 = (1 : Int))) = true → law_take_ok (law_size_e2 draws).2 (1000 : Int)) ∧ ((((decide ((law_size_e1 draws).1 = (2 : Int))) && (decide ((0 : Int) < ((script).length : Int)))) = true → (law_take_ok (law_size_e5 draws).1 ((script).length : Int) ∧ IxOk script (law_size_e6 draws script).1)) ∧ ((decide ((law_size_e1 draws).1 = (3 : Int))) = true → law_take_ok (law_size_e8 draws script).1 (1000 : Int))))))
def law_size_o : (Int × (List Int)) → Out
  | (t_0, t_1) => .rt (.im (Val.int t_0)) [.ow ((encL Val.int) t_1), .no, .no, .no]
theorem law_size_oo (t : (Int × (List Int))) (draws : (List Int)) (script : (List Int)) : OutOk [.mu ((encL Val.int) draws), .im ((encL Val.int) script)] (.im (Val.int t.1)) [.mu ((encL Val.int) t.2), .im ((encL Val.int) script)] (law_size_o t) := by
  obtain ⟨t_0, t_1⟩ := t; exact ⟨rfl, OE.ok (.mu (.im .nil))⟩
def R_law_size : Rel := fun args_ r_ outs_ => ∃ (draws : (List Int)) (script : (List Int)), law_size_ok draws script ∧ args_ = [.mu ((encL Val.int) draws), .im ((encL Val.int) script)] ∧ r_ = .im (Val.int (law_size draws script).1) ∧ outs_ = [.mu ((encL Val.int) (law_size draws script).2), .im ((encL Val.int) script)]
theorem R_law_size_of (draws : (List Int)) (script : (List Int)) {v_ : (Int × (List Int))} (h : law_size_ok draws script) (e : law_size draws script = v_) : R_law_size [.mu ((encL Val.int) draws), .im ((encL Val.int) script)] (.im (Val.int v_.1)) [.mu ((encL Val.int) v_.2), .im ((encL Val.int) script)] := by subst e; exact ⟨draws, script, h, rfl, rfl, rfl⟩
set_option maxHeartbeats 2000000 in
theorem ok_law_size (D : DefAt K mg "_law_size" s_law_size ["draws", "script"]) (m_len : mg "len" = none) (m_int : mg "int" = none) (m_abs : mg "abs" = none) (C_law_take : CalOk P w K mg base "_law_take" ["draws", "many"] 1 R_law_take) : CalOk P w K mg base "_law_size" ["draws", "script"] 2 R_law_size := by
  refine D.ok sc_law_size (by decide) (fun args r outs h => ?_) (fun f_ cdv_ A_ outer_ sh_ H_ E_ hr_ args r outs h => ?_)
  · obtain ⟨draws, script, h, rfl, rfl, rfl⟩ := h; exact len_of rfl rfl
  · obtain ⟨draws, script, h, rfl, rfl, rfl⟩ := h
    have nd_ := sc_law_size.nd
    have hu64_ := hu64 hr_; have hu65_ := hu65 hr_
    have main_ : EvC (cxOf CX0 P w K mg base ["draws", "script", "kind", "number"] "_law_size" (defScope s_law_size) f_ cdv_ A_ outer_ sh_ H_ E_).nox [0] [defBody s_law_size] [.ow ((encL Val.int) draws), .im ((encL Val.int) script), .no, .no] (law_size_o (law_size draws script)) := (show EvC _ _ _ _ (law_size_o (((law_size_e11 draws script).2, (law_size_e11 draws script).1))) from (ec_cons (EvS.to (env2 := [.ow ((encL Val.int) (law_size_e1 draws).2), .im ((encL Val.int) script), .im (Val.int (law_size_e1 draws).1), .no]) (es_setV (ps_set (i := 2) nd_ rfl (by first | exact .inl rfl | exact .inr rfl) (pe_wp _)) (ev_call (C_law_take.pe hr_ (by decide) rfl) (ea_cons (ev_o 0 rfl (pv 0)) (ea_cons ev_int ea_nil)) (.mu rfl (by simp) (.im .nil)) (R_law_take_of draws (4 : Int) h.1 (rfl : (law_take draws (4 : Int)) = (law_size_e1 draws)))) (Nat.le_of_ble_eq_true rfl) (nm rfl)) rfl) (ec_cons (EvS.to (env2 := [.ow ((encL Val.int) (law_size_e2 draws).2), .im ((encL Val.int) script), .im (Val.int (law_size_e1 draws).1), .im (Val.int (law_size_e2 draws).1)]) (es_setV (ps_set (i := 3) nd_ rfl (by first | exact .inl rfl | exact .inr rfl) (pe_wp _)) (ev_call (C_law_take.pe hr_ (by decide) rfl) (ea_cons (ev_o 0 rfl (pv 0)) (ea_cons ev_int ea_nil)) (.mu rfl (by simp) (.im .nil)) (R_law_take_of (law_size_e1 draws).2 (1000 : Int) h.2.1 (rfl : (law_take (law_size_e1 draws).2 (1000 : Int)) = (law_size_e2 draws)))) (Nat.le_of_ble_eq_true rfl) (nm rfl)) rfl) (ec_cons (EvS.to (env2 := [.ow ((encL Val.int) (law_size_e5 draws).1), .im ((encL Val.int) script), .im (Val.int (law_size_e1 draws).1), .im (Val.int (law_size_e5 draws).2)]) (es_ifJ (fun j4 : (List Int) × Int => (match j4 with | (j4_0, j4_1) => [.ow ((encL Val.int) j4_0), .im ((encL Val.int) script), .im (Val.int (law_size_e1 draws).1), .im (Val.int j4_1)] : List Sl)) (t1 := ((law_size_e3 draws).2, ((law_size_e2 draws).1 + (((1 : Int) + (law_size_e3 draws).1) * ((10 : Int) ^ (15 : Nat)))))) (t0 := ((law_size_e2 draws).2, (law_size_e2 draws).1)) (et_eqT lw_int (by decide) hu64_ (ev_v 2 rfl (pv 2)) ev_int (.val _) (.val _)) (fun hc12 => EvSs.wkN (ess_cons (EvS.to (env2 := [.ow ((encL Val.int) (law_size_e3 draws).2), .im ((encL Val.int) script), .im (Val.int (law_size_e1 draws).1), .im (Val.int ((law_size_e2 draws).1 + (((1 : Int) + (law_size_e3 draws).1) * ((10 : Int) ^ (15 : Nat)))))]) (es_setV (ps_set (i := 3) nd_ rfl (by first | exact .inl rfl | exact .inr rfl) (pe_wp _)) (ev_add (ev_v 3 rfl (pv 3)) (ev_mul (.inl (.inr ⟨by decide +kernel, by decide +kernel⟩)) (ev_add ev_int (ev_call (C_law_take.pe hr_ (by decide) rfl) (ea_cons (ev_o 0 rfl (pv 0)) (ea_cons ev_int ea_nil)) (.mu rfl (by simp) (.im .nil)) (R_law_take_of (law_size_e2 draws).2 (1000 : Int) (h.2.2.1 hc12) (rfl : (law_take (law_size_e2 draws).2 (1000 : Int)) = (law_size_e3 draws))))) (ev_pow (k := 15) ⟨by decide, by decide⟩ ev_int ev_int))) (Nat.le_of_ble_eq_true rfl) (nm rfl)) rfl) ess_nil) (.s (.s (.s (.s .nil))))) (fun hc12 => EvSs.wkN ess_nil (.s (.s (.s (.s .nil)))))) ((show ∀ j4 : (List Int) × Int, (fun j4 : (List Int) × Int => (match j4 with | (j4_0, j4_1) => [.ow ((encL Val.int) j4_0), .im ((encL Val.int) script), .im (Val.int (law_size_e1 draws).1), .im (Val.int j4_1)] : List Sl)) j4 = ([.ow ((encL Val.int) j4.1), .im ((encL Val.int) script), .im (Val.int (law_size_e1 draws).1), .im (Val.int j4.2)] : List Sl) from fun (j4_0, j4_1) => rfl) _)) (ec_cons (EvS.to (env2 := [.ow ((encL Val.int) (law_size_e8 draws script).1), .no, .im (Val.int (law_size_e1 draws).1), .im (Val.int (law_size_e8 draws script).2)]) (es_ifJ (fun j7 : (List Int) × Int => (match j7 with | (j7_0, j7_1) => [.ow ((encL Val.int) j7_0), .no, .im (Val.int (law_size_e1 draws).1), .im (Val.int j7_1)] : List Sl)) (t1 := ((law_size_e6 draws script).2, ((law_size_e5 draws).2 + ((((ix script (law_size_e6 draws script).1 (0 : Int))).natAbs : Int) % ((10 : Int) ^ (60 : Nat)))))) (t0 := ((law_size_e5 draws).1, (law_size_e5 draws).2)) (EvW.t (ew_and (et_eqT lw_int (by decide) hu64_ (ev_v 2 rfl (pv 2)) ev_int (.val _) (.val _)) (fun hb14 => (ew_and1 (et_gt (ev_lenT m_len (ev_v 1 rfl (pv 1)) (.val _) (.lst _)) ev_int))))) (fun hc13 => EvSs.wkN (ess_cons (EvS.to (env2 := [.ow ((encL Val.int) (law_size_e6 draws script).2), .im ((encL Val.int) script), .im (Val.int (law_size_e1 draws).1), .im (Val.int ((law_size_e5 draws).2 + ((((ix script (law_size_e6 draws script).1 (0 : Int))).natAbs : Int) % ((10 : Int) ^ (60 : Nat)))))]) (es_setV (ps_set (i := 3) nd_ rfl (by first | exact .inl rfl | exact .inr rfl) (pe_wp _)) (ev_add (ev_v 3 rfl (pv 3)) (ev_mod (by decide +kernel) (ev_int1 m_int (ev_abs m_abs (ev_int1 m_int (ev_ixT (f := Val.int) (0 : Int) (h.2.2.2.1 hc13).2 (ev_v 1 rfl (pv 1)) (ev_call (C_law_take.pe hr_ (by decide) rfl) (ea_cons (ev_o 0 rfl (pv 0)) (ea_cons (ev_lenT m_len (ev_v 1 rfl (pv 1)) (.val _) (.lst _)) ea_nil)) (.mu rfl (by simp) (.im .nil)) (R_law_take_of (law_size_e5 draws).1 ((script).length : Int) (h.2.2.2.1 hc13).1 (rfl : (law_take (law_size_e5 draws).1 ((script).length : Int)) = (law_size_e6 draws script)))) (.val _) (.lst _))))) (ev_pow (k := 60) ⟨by decide, by decide⟩ ev_int ev_int))) (Nat.le_of_ble_eq_true rfl) (nm rfl)) rfl) ess_nil) (.s (.n (.s (.s .nil))))) (fun hc13 => EvSs.wkN ess_nil (.s (.n (.s (.s .nil)))))) ((show ∀ j7 : (List Int) × Int, (fun j7 : (List Int) × Int => (match j7 with | (j7_0, j7_1) => [.ow ((encL Val.int) j7_0), .no, .im (Val.int (law_size_e1 draws).1), .im (Val.int j7_1)] : List Sl)) j7 = ([.ow ((encL Val.int) j7.1), .no, .im (Val.int (law_size_e1 draws).1), .im (Val.int j7.2)] : List Sl) from fun (j7_0, j7_1) => rfl) _)) (ec_cons (EvS.to (env2 := [.ow ((encL Val.int) (law_size_e11 draws script).1), .no, .no, .im (Val.int (law_size_e11 draws script).2)]) (es_ifJ (fun j10 : (List Int) × Int => (match j10 with | (j10_0, j10_1) => [.ow ((encL Val.int) j10_0), .no, .no, .im (Val.int j10_1)] : List Sl)) (t1 := ((law_size_e9 draws script).2, (((law_size_e8 draws script).2 * (1000 : Int)) + (law_size_e9 draws script).1))) (t0 := ((law_size_e8 draws script).1, (law_size_e8 draws script).2)) (et_eqT lw_int (by decide) hu64_ (ev_v 2 rfl (pv 2)) ev_int (.val _) (.val _)) (fun hc16 => EvSs.wkN (ess_cons (EvS.to (env2 := [.ow ((encL Val.int) (law_size_e9 draws script).2), .no, .im (Val.int (law_size_e1 draws).1), .im (Val.int (((law_size_e8 draws script).2 * (1000 : Int)) + (law_size_e9 draws script).1))]) (es_setV (ps_set (i := 3) nd_ rfl (by first | exact .inl rfl | exact .inr rfl) (pe_wp _)) (ev_add (ev_mul (.inl (.inr ⟨by decide +kernel, by decide +kernel⟩)) (ev_v 3 rfl (pv 3)) ev_int) (ev_call (C_law_take.pe hr_ (by decide) rfl) (ea_cons (ev_o 0 rfl (pv 0)) (ea_cons ev_int ea_nil)) (.mu rfl (by simp) (.im .nil)) (R_law_take_of (law_size_e8 draws script).1 (1000 : Int) (h.2.2.2.2 hc16) (rfl : (law_take (law_size_e8 draws script).1 (1000 : Int)) = (law_size_e9 draws script))))) (Nat.le_of_ble_eq_true rfl) (nm rfl)) rfl) ess_nil) (.s (.n (.n (.s .nil))))) (fun hc16 => EvSs.wkN ess_nil (.s (.n (.n (.s .nil)))))) ((show ∀ j10 : (List Int) × Int, (fun j10 : (List Int) × Int => (match j10 with | (j10_0, j10_1) => [.ow ((encL Val.int) j10_0), .no, .no, .im (Val.int j10_1)] : List Sl)) j10 = ([.ow ((encL Val.int) j10.1), .no, .no, .im (Val.int j10.2)] : List Sl) from fun (j10_0, j10_1) => rfl) _)) (EvC.wkR (ec_last (es_ret (ev_v 3 rfl (pv 3))) rfl) (.s (.n (.n (.n .nil)))))))))))
    exact ⟨_, EvC.ss main_, law_size_oo (law_size draws script) draws script⟩
/-! _law_divisor -/
abbrev s_law_divisor : Stmt := topS 13
theorem sc_law_divisor : FnScope ["one", "other"] ["one", "other"] (defScope s_law_divisor) := ⟨rfl, rfl, rfl, by decide +kernel, rfl, by decide +kernel, by decide +kernel⟩
def law_divisor_w2  (s : Int × Int) : Int × Int := (s.2, (s.1 % s.2))
def law_divisor_w2_ok  (s : Int × Int) : Prop := 0 < s.2
def law_divisor_w2_c  (s : Int × Int) : Bool := (decide ((0 : Int) < s.2))
def law_divisor_w2_cok  (s : Int × Int) : Prop := True
def law_divisor (one : Int) (other : Int) : (Int) := (whileS law_divisor_w2_c law_divisor_w2 (((other)).natAbs + 1) (one, other)).1
def law_divisor_ok (one : Int) (other : Int) : Prop := whileSOk law_divisor_w2_c law_divisor_w2 law_divisor_w2_cok law_divisor_w2_ok (((other)).natAbs + 1) (one, other)
def law_divisor_o (t : (Int)) : Out := .rt (.im (Val.int t)) [.no, .no]
theorem law_divisor_oo (t : (Int)) (one : Int) (other : Int) : OutOk [.im (Val.int one), .im (Val.int other)] (.im (Val.int t)) [.im (Val.int one), .im (Val.int other)] (law_divisor_o t) := by
  exact ⟨rfl, OE.ok (.im (.im .nil))⟩
def R_law_divisor : Rel := fun args_ r_ outs_ => ∃ (one : Int) (other : Int), law_divisor_ok one other ∧ args_ = [.im (Val.int one), .im (Val.int other)] ∧ r_ = .im (Val.int (law_divisor one other)) ∧ outs_ = [.im (Val.int one), .im (Val.int other)]
theorem R_law_divisor_of (one : Int) (other : Int) {v_ : (Int)} (h : law_divisor_ok one other) (e : law_divisor one other = v_) : R_law_divisor [.im (Val.int one), .im (Val.int other)] (.im (Val.int v_)) [.im (Val.int one), .im (Val.int other)] := by subst e; exact ⟨one, other, h, rfl, rfl, rfl⟩
set_option maxHeartbeats 2000000 in
theorem ok_law_divisor (D : DefAt K mg "_law_divisor" s_law_divisor ["one", "other"]) (m_int : mg "int" = none) : CalOk P w K mg base "_law_divisor" ["one", "other"] 1 R_law_divisor := by
  refine D.ok sc_law_divisor (by decide) (fun args r outs h => ?_) (fun f_ cdv_ A_ outer_ sh_ H_ E_ hr_ args r outs h => ?_)
  · obtain ⟨one, other, h, rfl, rfl, rfl⟩ := h; exact len_of rfl rfl
  · obtain ⟨one, other, h, rfl, rfl, rfl⟩ := h
    have nd_ := sc_law_divisor.nd
    have hu64_ := hu64 hr_; have hu65_ := hu65 hr_
    have law_divisor_w2_b : ∀  (s : Int × Int), law_divisor_w2_ok  s → EvSs (cxOf CX0 P w K mg base ["one", "other"] "_law_divisor" (defScope s_law_divisor) f_ cdv_ A_ outer_ sh_ H_ E_).nox [] (loopBody (stAt (defBody s_law_divisor) 0)) [.im (Val.int s.1), .im (Val.int s.2)] (.nx ((fun so1 : Int × Int => (match so1 with | (so1_0, so1_1) => [.im (Val.int so1_0), .im (Val.int so1_1)] : List Sl)) (law_divisor_w2 s))) := fun  s h => EvSs.wkN (ess_cons (EvS.to (env2 := [.im (Val.int s.2), .im (Val.int (s.1 % s.2))]) (es_par (ps_par (i := 0) (j := 1) rfl nd_ rfl rfl (by decide) rfl rfl (pa_wp _) rfl) (ea_cons (ev_v 1 rfl (pv 1)) (ea_cons (ev_mod h (ev_int1 m_int (ev_v 0 rfl (pv 0))) (ev_v 1 rfl (pv 1))) ea_nil)) (Nat.le_of_ble_eq_true rfl) (Nat.le_of_ble_eq_true rfl) (nm rfl) (nm rfl)) rfl) ess_nil) (.s (.s .nil))
    have law_divisor_w2_t : ∀  (s : Int × Int), law_divisor_w2_cok  s → EvT (cxOf CX0 P w K mg base ["one", "other"] "_law_divisor" (defScope s_law_divisor) f_ cdv_ A_ outer_ sh_ H_ E_).nox (whTest (stAt (defBody s_law_divisor) 0)) [.im (Val.int s.1), .im (Val.int s.2)] (law_divisor_w2_c  s) [.im (Val.int s.1), .im (Val.int s.2)] := fun  s h => (et_gt (ev_v 1 rfl (pv 1)) ev_int)
    have main_ : EvC (cxOf CX0 P w K mg base ["one", "other"] "_law_divisor" (defScope s_law_divisor) f_ cdv_ A_ outer_ sh_ H_ E_).nox [] [defBody s_law_divisor] [.im (Val.int one), .im (Val.int other)] (law_divisor_o (law_divisor one other)) := (show EvC _ _ _ _ (law_divisor_o ((whileS law_divisor_w2_c law_divisor_w2 (((other)).natAbs + 1) (one, other)).1)) from (ec_cons (EvS.to (env2 := [.im (Val.int (whileS law_divisor_w2_c law_divisor_w2 (((other)).natAbs + 1) (one, other)).1), .im (Val.int (whileS law_divisor_w2_c law_divisor_w2 (((other)).natAbs + 1) (one, other)).2)]) (EvS.wk0 (.s (.s .nil)) (es_whileS (fun so1 : Int × Int => (match so1 with | (so1_0, so1_1) => [.im (Val.int so1_0), .im (Val.int so1_1)] : List Sl)) law_divisor_w2_c law_divisor_w2 law_divisor_w2_cok law_divisor_w2_ok (((other)).natAbs + 1) (one, other) PassesOwn.never h (fun st_ ho_ => law_divisor_w2_t  st_ ho_) (fun st_ ho_ hc_ => law_divisor_w2_b  st_ ho_))) ((show ∀ so1 : Int × Int, (fun so1 : Int × Int => (match so1 with | (so1_0, so1_1) => [.im (Val.int so1_0), .im (Val.int so1_1)] : List Sl)) so1 = ([.im (Val.int so1.1), .im (Val.int so1.2)] : List Sl) from fun (so1_0, so1_1) => rfl) _)) (EvC.wkR (ec_last (es_ret (ev_v 0 rfl (pv 0))) rfl) (.n (.n .nil)))))
    exact ⟨_, EvC.ss main_, law_divisor_oo (law_divisor one other) one other⟩
/-! _law_ratio -/
abbrev s_law_ratio : Stmt := topS 14
theorem sc_law_ratio : FnScope ["n", "d", "common"] ["n", "d"] (defScope s_law_ratio) := ⟨rfl, rfl, rfl, by decide +kernel, rfl, by decide +kernel, by decide +kernel⟩
def law_ratio_e2 (n : Int) (d : Int) : Int := (law_divisor (((if (decide (d < (0 : Int))) = true then ((-n), (-d)) else (n, d)).1).natAbs : Int) (if (decide (d < (0 : Int))) = true then ((-n), (-d)) else (n, d)).2)
def law_ratio (n : Int) (d : Int) : ((Int × Int)) := (((if (decide (d < (0 : Int))) = true then ((-n), (-d)) else (n, d)).1 / (law_ratio_e2 n d)), ((if (decide (d < (0 : Int))) = true then ((-n), (-d)) else (n, d)).2 / (law_ratio_e2 n d)))
def law_ratio_ok (n : Int) (d : Int) : Prop := (law_divisor_ok (((if (decide (d < (0 : Int))) = true then ((-n), (-d)) else (n, d)).1).natAbs : Int) (if (decide (d < (0 : Int))) = true then ((-n), (-d)) else (n, d)).2 ∧ (DivOk (law_ratio_e2 n d) ∧ DivOk (law_ratio_e2 n d)))
def law_ratio_o (t : ((Int × Int))) : Out := .rt (.im ((enc2 Val.int Val.int) t)) [.no, .no, .no]
theorem law_ratio_oo (t : ((Int × Int))) (n : Int) (d : Int) : OutOk [.im (Val.int n), .im (Val.int d)] (.im ((enc2 Val.int Val.int) t)) [.im (Val.int n), .im (Val.int d)] (law_ratio_o t) := by
  exact ⟨rfl, OE.ok (.im (.im .nil))⟩
def R_law_ratio : Rel := fun args_ r_ outs_ => ∃ (n : Int) (d : Int), law_ratio_ok n d ∧ args_ = [.im (Val.int n), .im (Val.int d)] ∧ r_ = .im ((enc2 Val.int Val.int) (law_ratio n d)) ∧ outs_ = [.im (Val.int n), .im (Val.int d)]
theorem R_law_ratio_of (n : Int) (d : Int) {v_ : ((Int × Int))} (h : law_ratio_ok n d) (e : law_ratio n d = v_) : R_law_ratio [.im (Val.int n), .im (Val.int d)] (.im ((enc2 Val.int Val.int) v_)) [.im (Val.int n), .im (Val.int d)] := by subst e; exact ⟨n, d, h, rfl, rfl, rfl⟩
set_option maxHeartbeats 2000000 in
theorem ok_law_ratio (D : DefAt K mg "_law_ratio" s_law_ratio ["n", "d"]) (m_abs : mg "abs" = none) (C_law_divisor : CalOk P w K mg base "_law_divisor" ["one", "other"] 1 R_law_divisor) : CalOk P w K mg base "_law_ratio" ["n", "d"] 2 R_law_ratio := by
  refine D.ok sc_law_ratio (by decide) (fun args r outs h => ?_) (fun f_ cdv_ A_ outer_ sh_ H_ E_ hr_ args r outs h => ?_)
  · obtain ⟨n, d, h, rfl, rfl, rfl⟩ := h; exact len_of rfl rfl
  · obtain ⟨n, d, h, rfl, rfl, rfl⟩ := h
    have nd_ := sc_law_ratio.nd
    have hu64_ := hu64 hr_; have hu65_ := hu65 hr_
    have main_ : EvC (cxOf CX0 P w K mg base ["n", "d", "common"] "_law_ratio" (defScope s_law_ratio) f_ cdv_ A_ outer_ sh_ H_ E_).nox [] [defBody s_law_ratio] [.im (Val.int n), .im (Val.int d), .no] (law_ratio_o (law_ratio n d)) := (show EvC _ _ _ _ (law_ratio_o ((((if (decide (d < (0 : Int))) = true then ((-n), (-d)) else (n, d)).1 / (law_ratio_e2 n d)), ((if (decide (d < (0 : Int))) = true then ((-n), (-d)) else (n, d)).2 / (law_ratio_e2 n d))))) from (ec_cons (EvS.to (env2 := [.im (Val.int (if (decide (d < (0 : Int))) = true then ((-n), (-d)) else (n, d)).1), .im (Val.int (if (decide (d < (0 : Int))) = true then ((-n), (-d)) else (n, d)).2), .no]) (es_ifJ (fun j1 : Int × Int => (match j1 with | (j1_0, j1_1) => [.im (Val.int j1_0), .im (Val.int j1_1), .no] : List Sl)) (t1 := ((-n), (-d))) (t0 := (n, d)) (et_lt (ev_v 1 rfl (pv 1)) ev_int) (fun hc3 => EvSs.wkN (ess_cons (EvS.to (env2 := [.im (Val.int (-n)), .im (Val.int d), .no]) (es_setV (ps_set (i := 0) nd_ rfl (by first | exact .inl rfl | exact .inr rfl) (pe_wp _)) (ev_neg (ev_v 0 rfl (pv 0))) (Nat.le_of_ble_eq_true rfl) (nm rfl)) rfl) (ess_cons (EvS.to (env2 := [.im (Val.int (-n)), .im (Val.int (-d)), .no]) (es_setV (ps_set (i := 1) nd_ rfl (by first | exact .inl rfl | exact .inr rfl) (pe_wp _)) (ev_neg (ev_v 1 rfl (pv 1))) (Nat.le_of_ble_eq_true rfl) (nm rfl)) rfl) ess_nil)) (.s (.s (.s .nil)))) (fun hc3 => EvSs.wkN ess_nil (.s (.s (.s .nil))))) ((show ∀ j1 : Int × Int, (fun j1 : Int × Int => (match j1 with | (j1_0, j1_1) => [.im (Val.int j1_0), .im (Val.int j1_1), .no] : List Sl)) j1 = ([.im (Val.int j1.1), .im (Val.int j1.2), .no] : List Sl) from fun (j1_0, j1_1) => rfl) _)) (ec_cons (EvS.to (env2 := [.im (Val.int (if (decide (d < (0 : Int))) = true then ((-n), (-d)) else (n, d)).1), .im (Val.int (if (decide (d < (0 : Int))) = true then ((-n), (-d)) else (n, d)).2), .im (Val.int (law_ratio_e2 n d))]) (es_setV (ps_set (i := 2) nd_ rfl (by first | exact .inl rfl | exact .inr rfl) (pe_wp _)) (ev_call (C_law_divisor.pe hr_ (by decide) rfl) (ea_cons (ev_abs m_abs (ev_v 0 rfl (pv 0))) (ea_cons (ev_v 1 rfl (pv 1)) ea_nil)) (.im (.im .nil)) (R_law_divisor_of (((if (decide (d < (0 : Int))) = true then ((-n), (-d)) else (n, d)).1).natAbs : Int) (if (decide (d < (0 : Int))) = true then ((-n), (-d)) else (n, d)).2 h.1 (rfl : (law_divisor (((if (decide (d < (0 : Int))) = true then ((-n), (-d)) else (n, d)).1).natAbs : Int) (if (decide (d < (0 : Int))) = true then ((-n), (-d)) else (n, d)).2) = (law_ratio_e2 n d)))) (Nat.le_of_ble_eq_true rfl) (nm rfl)) rfl) (EvC.wkR (ec_last (es_ret (ev_tup (xs := [Val.int ((if (decide (d < (0 : Int))) = true then ((-n), (-d)) else (n, d)).1 / (law_ratio_e2 n d)), Val.int ((if (decide (d < (0 : Int))) = true then ((-n), (-d)) else (n, d)).2 / (law_ratio_e2 n d))]) (Nat.le_of_ble_eq_true rfl) (ea_cons (ev_div h.2.1 (ev_v 0 rfl (pv 0)) (ev_v 2 rfl (pv 2))) (ea_cons (ev_div h.2.2 (ev_v 1 rfl (pv 1)) (ev_v 2 rfl (pv 2))) ea_nil)))) rfl) (.n (.n (.n .nil)))))))
    exact ⟨_, EvC.ss main_, law_ratio_oo (law_ratio n d) n d⟩
/-! _law_fraction -/
abbrev s_law_fraction : Stmt := topS 15
theorem sc_law_fraction : FnScope ["draws", "script", "n"] ["draws", "script"] (defScope s_law_fraction) := ⟨rfl, rfl, rfl, by decide +kernel, rfl, by decide +kernel, by decide +kernel⟩
def law_fraction_e1 (draws : (List Int)) : Int × (List Int) := (law_take draws (40 : Int))
def law_fraction_e2 (draws : (List Int)) (script : (List Int)) : Int × (List Int) := (law_size (law_fraction_e1 draws).2 script)
def law_fraction_e3 (draws : (List Int)) (script : (List Int)) : Int × (List Int) := (law_take (law_fraction_e2 draws script).2 (2 : Int))
def law_fraction_e4 (draws : (List Int)) (script : (List Int)) : Int × (List Int) := (law_take (law_fraction_e3 draws script).2 (2 : Int))
def law_fraction_e5 (draws : (List Int)) (script : (List Int)) : Int := (ix ([((law_fraction_e1 draws).1 - (18 : Int)), (((law_fraction_e2 draws script).1 % ((10 : Int) ^ (19 : Nat))) * ((1 : Int) - ((2 : Int) * (law_fraction_e3 draws script).1)))] : List Int) (law_fraction_e4 draws script).1 (0 : Int))
def law_fraction_e6 (draws : (List Int)) (script : (List Int)) : Int × (List Int) := (law_take (law_fraction_e4 draws script).2 (9 : Int))
def law_fraction_e7 (draws : (List Int)) (script : (List Int)) : Int × (List Int) := (law_size (law_fraction_e6 draws script).2 script)
def law_fraction_e8 (draws : (List Int)) (script : (List Int)) : Int × (List Int) := (law_take (law_fraction_e7 draws script).2 (2 : Int))
def law_fraction_e9 (draws : (List Int)) (script : (List Int)) : (Int × Int) := (law_ratio (law_fraction_e5 draws script) ((1 : Int) + (ix ([(law_fraction_e6 draws script).1, ((law_fraction_e7 draws script).1 % ((10 : Int) ^ (19 : Nat)))] : List Int) (law_fraction_e8 draws script).1 (0 : Int))))
def law_fraction (draws : (List Int)) (script : (List Int)) : ((Int × Int) × (List Int)) := ((law_fraction_e9 draws script), (law_fraction_e8 draws script).2)
def law_fraction_ok (draws : (List Int)) (script : (List Int)) : Prop := (((law_take_ok draws (40 : Int) ∧ (law_size_ok (law_fraction_e1 draws).2 script ∧ law_take_ok (law_fraction_e2 draws script).2 (2 : Int) ∧ MulOk ((law_fraction_e2 draws script).1 % ((10 : Int) ^ (19 : Nat))) ((1 : Int) - ((2 : Int) * (law_fraction_e3 draws script).1)))) ∧ law_take_ok (law_fraction_e3 draws script).2 (2 : Int) ∧ IxOk ([((law_fraction_e1 draws).1 - (18 : Int)), (((law_fraction_e2 draws script).1 % ((10 : Int) ^ (19 : Nat))) * ((1 : Int) - ((2 : Int) * (law_fraction_e3 draws script).1)))] : List Int) (law_fraction_e4 draws script).1) ∧ (((law_take_ok (law_fraction_e4 draws script).2 (9 : Int) ∧ law_size_ok (law_fraction_e6 draws script).2 script) ∧ law_take_ok (law_fraction_e7 draws script).2 (2 : Int) ∧ IxOk ([(law_fraction_e6 draws script).1, ((law_fraction_e7 draws script).1 % ((10 : Int) ^ (19 : Nat)))] : List Int) (law_fraction_e8 draws script).1) ∧ law_ratio_ok (law_fraction_e5 draws script) ((1 : Int) + (ix ([(law_fraction_e6 draws script).1, ((law_fraction_e7 draws script).1 % ((10 : Int) ^ (19 : Nat)))] : List Int) (law_fraction_e8 draws script).1 (0 : Int)))))
def law_fraction_o : ((Int × Int) × (List Int)) → Out
  | (t_0, t_1) => .rt (.im ((enc2 Val.int Val.int) t_0)) [.ow ((encL Val.int) t_1), .no, .no]
theorem law_fraction_oo (t : ((Int × Int) × (List Int))) (draws : (List Int)) (script : (List Int)) : OutOk [.mu ((encL Val.int) draws), .im ((encL Val.int) script)] (.im ((enc2 Val.int Val.int) t.1)) [.mu ((encL Val.int) t.2), .im ((encL Val.int) script)] (law_fraction_o t) := by
  obtain ⟨t_0, t_1⟩ := t; exact ⟨rfl, OE.ok (.mu (.im .nil))⟩
def R_law_fraction : Rel := fun args_ r_ outs_ => ∃ (draws : (List Int)) (script : (List Int)), law_fraction_ok draws script ∧ args_ = [.mu ((encL Val.int) draws), .im ((encL Val.int) script)] ∧ r_ = .im ((enc2 Val.int Val.int) (law_fraction draws script).1) ∧ outs_ = [.mu ((encL Val.int) (law_fraction draws script).2), .im ((encL Val.int) script)]
theorem R_law_fraction_of (draws : (List Int)) (script : (List Int)) {v_ : ((Int × Int) × (List Int))} (h : law_fraction_ok draws script) (e : law_fraction draws script = v_) : R_law_fraction [.mu ((encL Val.int) draws), .im ((encL Val.int) script)] (.im ((enc2 Val.int Val.int) v_.1)) [.mu ((encL Val.int) v_.2), .im ((encL Val.int) script)] := by subst e; exact ⟨draws, script, h, rfl, rfl, rfl⟩
set_option maxHeartbeats 2000000 in
theorem ok_law_fraction (D : DefAt K mg "_law_fraction" s_law_fraction ["draws", "script"])  (C_law_take : CalOk P w K mg base "_law_take" ["draws", "many"] 1 R_law_take) (C_law_size : CalOk P w K mg base "_law_size" ["draws", "script"] 2 R_law_size) (C_law_ratio : CalOk P w K mg base "_law_ratio" ["n", "d"] 2 R_law_ratio) : CalOk P w K mg base "_law_fraction" ["draws", "script"] 3 R_law_fraction := by
  refine D.ok sc_law_fraction (by decide) (fun args r outs h => ?_) (fun f_ cdv_ A_ outer_ sh_ H_ E_ hr_ args r outs h => ?_)
  · obtain ⟨draws, script, h, rfl, rfl, rfl⟩ := h; exact len_of rfl rfl
  · obtain ⟨draws, script, h, rfl, rfl, rfl⟩ := h
    have nd_ := sc_law_fraction.nd
    have hu64_ := hu64 hr_; have hu65_ := hu65 hr_
    have main_ : EvC (cxOf CX0 P w K mg base ["draws", "script", "n"] "_law_fraction" (defScope s_law_fraction) f_ cdv_ A_ outer_ sh_ H_ E_).nox [0] [defBody s_law_fraction] [.ow ((encL Val.int) draws), .im ((encL Val.int) script), .no] (law_fraction_o (law_fraction draws script)) := (show EvC _ _ _ _ (law_fraction_o (((law_fraction_e9 draws script), (law_fraction_e8 draws script).2))) from (ec_cons (EvS.to (env2 := [.ow ((encL Val.int) (law_fraction_e4 draws script).2), .im ((encL Val.int) script), .im (Val.int (law_fraction_e5 draws script))]) (es_setV (ps_set (i := 2) nd_ rfl (by first | exact .inl rfl | exact .inr rfl) (pe_wp _)) (ev_ixT (f := Val.int) (0 : Int) h.1.2.2 (EvN.frz (en_lst (xs := [Val.int ((law_fraction_e1 draws).1 - (18 : Int)), Val.int (((law_fraction_e2 draws script).1 % ((10 : Int) ^ (19 : Nat))) * ((1 : Int) - ((2 : Int) * (law_fraction_e3 draws script).1)))]) (Nat.le_of_ble_eq_true rfl) (ea_cons (ev_sub (ev_call (C_law_take.pe hr_ (by decide) rfl) (ea_cons (ev_o 0 rfl (pv 0)) (ea_cons ev_int ea_nil)) (.mu rfl (by simp) (.im .nil)) (R_law_take_of draws (40 : Int) h.1.1.1 (rfl : (law_take draws (40 : Int)) = (law_fraction_e1 draws)))) ev_int) (ea_cons (ev_mul h.1.1.2.2.2 (ev_mod (by decide +kernel) (ev_call (C_law_size.pe hr_ (by decide) rfl) (ea_cons (ev_o 0 rfl (pv 0)) (ea_cons (ev_v 1 rfl (pv 1)) ea_nil)) (.mu rfl (by simp) (.im .nil)) (R_law_size_of (law_fraction_e1 draws).2 script h.1.1.2.1 (rfl : (law_size (law_fraction_e1 draws).2 script) = (law_fraction_e2 draws script)))) (ev_pow (k := 19) ⟨by decide, by decide⟩ ev_int ev_int)) (ev_sub ev_int (ev_mul (.inl (.inl ⟨by decide +kernel, by decide +kernel⟩)) ev_int (ev_call (C_law_take.pe hr_ (by decide) rfl) (ea_cons (ev_o 0 rfl (pv 0)) (ea_cons ev_int ea_nil)) (.mu rfl (by simp) (.im .nil)) (R_law_take_of (law_fraction_e2 draws script).2 (2 : Int) h.1.1.2.2.1 (rfl : (law_take (law_fraction_e2 draws script).2 (2 : Int)) = (law_fraction_e3 draws script))))))) ea_nil)))) (ev_call (C_law_take.pe hr_ (by decide) rfl) (ea_cons (ev_o 0 rfl (pv 0)) (ea_cons ev_int ea_nil)) (.mu rfl (by simp) (.im .nil)) (R_law_take_of (law_fraction_e3 draws script).2 (2 : Int) h.1.2.1 (rfl : (law_take (law_fraction_e3 draws script).2 (2 : Int)) = (law_fraction_e4 draws script)))) (.val _) (.lst _)) (Nat.le_of_ble_eq_true rfl) (nm rfl)) rfl) (EvC.wkR (ec_last (es_ret (ev_call (C_law_ratio.pe hr_ (by decide) rfl) (ea_cons (ev_v 2 rfl (pv 2)) (ea_cons (ev_add ev_int (ev_ixT (f := Val.int) (0 : Int) h.2.1.2.2 (EvN.frz (en_lst (xs := [Val.int (law_fraction_e6 draws script).1, Val.int ((law_fraction_e7 draws script).1 % ((10 : Int) ^ (19 : Nat)))]) (Nat.le_of_ble_eq_true rfl) (ea_cons (ev_call (C_law_take.pe hr_ (by decide) rfl) (ea_cons (ev_o 0 rfl (pv 0)) (ea_cons ev_int ea_nil)) (.mu rfl (by simp) (.im .nil)) (R_law_take_of (law_fraction_e4 draws script).2 (9 : Int) h.2.1.1.1 (rfl : (law_take (law_fraction_e4 draws script).2 (9 : Int)) = (law_fraction_e6 draws script)))) (ea_cons (ev_mod (by decide +kernel) (ev_call (C_law_size.pe hr_ (by decide) rfl) (ea_cons (ev_o 0 rfl (pv 0)) (ea_cons (ev_v 1 rfl (pv 1)) ea_nil)) (.mu rfl (by simp) (.im .nil)) (R_law_size_of (law_fraction_e6 draws script).2 script h.2.1.1.2 (rfl : (law_size (law_fraction_e6 draws script).2 script) = (law_fraction_e7 draws script)))) (ev_pow (k := 19) ⟨by decide, by decide⟩ ev_int ev_int)) ea_nil)))) (ev_call (C_law_take.pe hr_ (by decide) rfl) (ea_cons (ev_o 0 rfl (pv 0)) (ea_cons ev_int ea_nil)) (.mu rfl (by simp) (.im .nil)) (R_law_take_of (law_fraction_e7 draws script).2 (2 : Int) h.2.1.2.1 (rfl : (law_take (law_fraction_e7 draws script).2 (2 : Int)) = (law_fraction_e8 draws script)))) (.val _) (.lst _))) ea_nil)) (.im (.im .nil)) (R_law_ratio_of (law_fraction_e5 draws script) ((1 : Int) + (ix ([(law_fraction_e6 draws script).1, ((law_fraction_e7 draws script).1 % ((10 : Int) ^ (19 : Nat)))] : List Int) (law_fraction_e8 draws script).1 (0 : Int))) h.2.2 (rfl : (law_ratio (law_fraction_e5 draws script) ((1 : Int) + (ix ([(law_fraction_e6 draws script).1, ((law_fraction_e7 draws script).1 % ((10 : Int) ^ (19 : Nat)))] : List Int) (law_fraction_e8 draws script).1 (0 : Int)))) = (law_fraction_e9 draws script))))) rfl) (.s (.n (.n .nil))))))
    exact ⟨_, EvC.ss main_, law_fraction_oo (law_fraction draws script) draws script⟩
/-! _law_two_right -/
abbrev s_law_two_right : Stmt := topS 16
theorem sc_law_two_right : FnScope ["one", "other"] ["one", "other"] (defScope s_law_two_right) := ⟨rfl, rfl, rfl, by decide +kernel, rfl, by decide +kernel, by decide +kernel⟩
def law_two_right_e1 (one : (Int × Int)) (other : (Int × Int)) : (Int × Int) := (plus_of one other)
def law_two_right_e2 (one : (Int × Int)) (other : (Int × Int)) : (Int × Int) := (law_ratio ((one.1 * other.2) + (other.1 * one.2)) (one.2 * other.2))
def law_two_right_e3 (one : (Int × Int)) (other : (Int × Int)) : (Int × Int) := (minus_of one other)
def law_two_right_e4 (one : (Int × Int)) (other : (Int × Int)) : (Int × Int) := (law_ratio ((one.1 * other.2) - (other.1 * one.2)) (one.2 * other.2))
def law_two_right_e5 (one : (Int × Int)) (other : (Int × Int)) : (Int × Int) := (times_of one other)
def law_two_right_e6 (one : (Int × Int)) (other : (Int × Int)) : (Int × Int) := (law_ratio (one.1 * other.1) (one.2 * other.2))
def law_two_right_e7 (one : (Int × Int)) (other : (Int × Int)) : (Int × Int) := (divided_by one other)
def law_two_right_e8 (one : (Int × Int)) (other : (Int × Int)) : (Int × Int) := (law_ratio (one.1 * other.2) (one.2 * other.1))
def law_two_right_e9 (one : (Int × Int)) (other : (Int × Int)) : Bool := (is_less one other)
def law_two_right_e10 (one : (Int × Int)) : Bool := (is_less one one)
def law_two_right (one : (Int × Int)) (other : (Int × Int)) : (Bool) := (if (!(decide ((law_two_right_e1 one other) = (law_two_right_e2 one other)))) = true then false else (if (!(decide ((law_two_right_e3 one other) = (law_two_right_e4 one other)))) = true then false else (if (!(decide ((law_two_right_e5 one other) = (law_two_right_e6 one other)))) = true then false else (if ((!decide (other.1 = (0 : Int))) && (!(decide ((law_two_right_e7 one other) = (law_two_right_e8 one other))))) = true then false else ((decide ((law_two_right_e9 one other) = (decide ((one.1 * other.2) < (other.1 * one.2))))) && (decide ((law_two_right_e10 one) = false)))))))
def law_two_right_ok (one : (Int × Int)) (other : (Int × Int)) : Prop := ((plus_of_ok one other ∧ ((MulOk one.1 other.2 ∧ MulOk other.1 one.2) ∧ MulOk one.2 other.2 ∧ law_ratio_ok ((one.1 * other.2) + (other.1 * one.2)) (one.2 * other.2))) ∧ ((!(decide ((law_two_right_e1 one other) = (law_two_right_e2 one other)))) = false → ((minus_of_ok one other ∧ ((MulOk one.1 other.2 ∧ MulOk other.1 one.2) ∧ MulOk one.2 other.2 ∧ law_ratio_ok ((one.1 * other.2) - (other.1 * one.2)) (one.2 * other.2))) ∧ ((!(decide ((law_two_right_e3 one other) = (law_two_right_e4 one other)))) = false → ((times_of_ok one other ∧ (MulOk one.1 other.1 ∧ MulOk one.2 other.2 ∧ law_ratio_ok (one.1 * other.1) (one.2 * other.2))) ∧ ((!(decide ((law_two_right_e5 one other) = (law_two_right_e6 one other)))) = false → (((!decide (other.1 = (0 : Int))) = true → (divided_by_ok one other ∧ (MulOk one.1 other.2 ∧ MulOk one.2 other.1 ∧ law_ratio_ok (one.1 * other.2) (one.2 * other.1)))) ∧ (((!decide (other.1 = (0 : Int))) && (!(decide ((law_two_right_e7 one other) = (law_two_right_e8 one other))))) = false → ((is_less_ok one other ∧ (MulOk one.1 other.2 ∧ MulOk other.1 one.2)) ∧ ((decide ((law_two_right_e9 one other) = (decide ((one.1 * other.2) < (other.1 * one.2))))) = true → is_less_ok one one))))))))))
def law_two_right_o (t : (Bool)) : Out := .rt (.im (Val.bl t)) [.no, .no]
theorem law_two_right_oo (t : (Bool)) (one : (Int × Int)) (other : (Int × Int)) : OutOk [.im ((enc2 Val.int Val.int) one), .im ((enc2 Val.int Val.int) other)] (.im (Val.bl t)) [.im ((enc2 Val.int Val.int) one), .im ((enc2 Val.int Val.int) other)] (law_two_right_o t) := by
  exact ⟨rfl, OE.ok (.im (.im .nil))⟩
def R_law_two_right : Rel := fun args_ r_ outs_ => ∃ (one : (Int × Int)) (other : (Int × Int)), law_two_right_ok one other ∧ args_ = [.im ((enc2 Val.int Val.int) one), .im ((enc2 Val.int Val.int) other)] ∧ r_ = .im (Val.bl (law_two_right one other)) ∧ outs_ = [.im ((enc2 Val.int Val.int) one), .im ((enc2 Val.int Val.int) other)]
theorem R_law_two_right_of (one : (Int × Int)) (other : (Int × Int)) {v_ : (Bool)} (h : law_two_right_ok one other) (e : law_two_right one other = v_) : R_law_two_right [.im ((enc2 Val.int Val.int) one), .im ((enc2 Val.int Val.int) other)] (.im (Val.bl v_)) [.im ((enc2 Val.int Val.int) one), .im ((enc2 Val.int Val.int) other)] := by subst e; exact ⟨one, other, h, rfl, rfl, rfl⟩
set_option maxHeartbeats 2000000 in
theorem ok_law_two_right (D : DefAt K mg "_law_two_right" s_law_two_right ["one", "other"])  (C_plus_of : CalOk P w K mg base "plus_of" ["one", "other"] 3 R_plus_of) (C_law_ratio : CalOk P w K mg base "_law_ratio" ["n", "d"] 2 R_law_ratio) (C_law_same : ∀ d, CalOk P w K mg base "_law_same" ["actual", "due"] (d + 1) (R_same d)) (C_minus_of : CalOk P w K mg base "minus_of" ["one", "other"] 3 R_minus_of) (C_times_of : CalOk P w K mg base "times_of" ["one", "other"] 3 R_times_of) (C_divided_by : CalOk P w K mg base "divided_by" ["one", "other"] 3 R_divided_by) (C_is_less : CalOk P w K mg base "is_less" ["one", "other"] 1 R_is_less) : CalOk P w K mg base "_law_two_right" ["one", "other"] 4 R_law_two_right := by
  refine D.ok sc_law_two_right (by decide) (fun args r outs h => ?_) (fun f_ cdv_ A_ outer_ sh_ H_ E_ hr_ args r outs h => ?_)
  · obtain ⟨one, other, h, rfl, rfl, rfl⟩ := h; exact len_of rfl rfl
  · obtain ⟨one, other, h, rfl, rfl, rfl⟩ := h
    have nd_ := sc_law_two_right.nd
    have hu64_ := hu64 hr_; have hu65_ := hu65 hr_
    have main_ : EvC (cxOf CX0 P w K mg base ["one", "other"] "_law_two_right" (defScope s_law_two_right) f_ cdv_ A_ outer_ sh_ H_ E_).nox [] [defBody s_law_two_right] [.im ((enc2 Val.int Val.int) one), .im ((enc2 Val.int Val.int) other)] (law_two_right_o (law_two_right one other)) := (show EvC _ _ _ _ (law_two_right_o ((if (!(decide ((law_two_right_e1 one other) = (law_two_right_e2 one other)))) = true then false else (if (!(decide ((law_two_right_e3 one other) = (law_two_right_e4 one other)))) = true then false else (if (!(decide ((law_two_right_e5 one other) = (law_two_right_e6 one other)))) = true then false else (if ((!decide (other.1 = (0 : Int))) && (!(decide ((law_two_right_e7 one other) = (law_two_right_e8 one other))))) = true then false else ((decide ((law_two_right_e9 one other) = (decide ((one.1 * other.2) < (other.1 * one.2))))) && (decide ((law_two_right_e10 one) = false))))))))) from (ec_ifV law_two_right_o (t1 := false) (t0 := (if (!(decide ((law_two_right_e3 one other) = (law_two_right_e4 one other)))) = true then false else (if (!(decide ((law_two_right_e5 one other) = (law_two_right_e6 one other)))) = true then false else (if ((!decide (other.1 = (0 : Int))) && (!(decide ((law_two_right_e7 one other) = (law_two_right_e8 one other))))) = true then false else ((decide ((law_two_right_e9 one other) = (decide ((one.1 * other.2) < (other.1 * one.2))))) && (decide ((law_two_right_e10 one) = false))))))) (et_not (et_val (ev_call ((C_law_same 1).pe hr_ (by decide) rfl) (ea_cons (ev_call (C_plus_of.pe hr_ (by decide) rfl) (ea_cons (ev_v 0 rfl (pv 0)) (ea_cons (ev_v 1 rfl (pv 1)) ea_nil)) (.im (.im .nil)) (R_plus_of_of one other h.1.1 (rfl : (plus_of one other) = (law_two_right_e1 one other)))) (ea_cons (ev_call (C_law_ratio.pe hr_ (by decide) rfl) (ea_cons (ev_add (ev_mul h.1.2.1.1 (ev_ix rfl (ev_v 0 rfl (pv 0)) ev_int (.val _) (.tup _)) (ev_ix rfl (ev_v 1 rfl (pv 1)) ev_int (.val _) (.tup _))) (ev_mul h.1.2.1.2 (ev_ix rfl (ev_v 1 rfl (pv 1)) ev_int (.val _) (.tup _)) (ev_ix rfl (ev_v 0 rfl (pv 0)) ev_int (.val _) (.tup _)))) (ea_cons (ev_mul h.1.2.2.1 (ev_ix rfl (ev_v 0 rfl (pv 0)) ev_int (.val _) (.tup _)) (ev_ix rfl (ev_v 1 rfl (pv 1)) ev_int (.val _) (.tup _))) ea_nil)) (.im (.im .nil)) (R_law_ratio_of ((one.1 * other.2) + (other.1 * one.2)) (one.2 * other.2) h.1.2.2.2 (rfl : (law_ratio ((one.1 * other.2) + (other.1 * one.2)) (one.2 * other.2)) = (law_two_right_e2 one other)))) ea_nil)) (.im (.im .nil)) ⟨_, _, _, (ls_2 ls_int ls_int) (law_two_right_e1 one other) (law_two_right_e2 one other), rfl, rfl, rfl⟩))) (fun hc11 => (EvC.wkR (ec_last (es_ret ev_bl) rfl) (.n (.n .nil)))) (fun hc11 => (ec_nil (ec_ifV law_two_right_o (t1 := false) (t0 := (if (!(decide ((law_two_right_e5 one other) = (law_two_right_e6 one other)))) = true then false else (if ((!decide (other.1 = (0 : Int))) && (!(decide ((law_two_right_e7 one other) = (law_two_right_e8 one other))))) = true then false else ((decide ((law_two_right_e9 one other) = (decide ((one.1 * other.2) < (other.1 * one.2))))) && (decide ((law_two_right_e10 one) = false)))))) (et_not (et_val (ev_call ((C_law_same 1).pe hr_ (by decide) rfl) (ea_cons (ev_call (C_minus_of.pe hr_ (by decide) rfl) (ea_cons (ev_v 0 rfl (pv 0)) (ea_cons (ev_v 1 rfl (pv 1)) ea_nil)) (.im (.im .nil)) (R_minus_of_of one other (h.2 hc11).1.1 (rfl : (minus_of one other) = (law_two_right_e3 one other)))) (ea_cons (ev_call (C_law_ratio.pe hr_ (by decide) rfl) (ea_cons (ev_sub (ev_mul (h.2 hc11).1.2.1.1 (ev_ix rfl (ev_v 0 rfl (pv 0)) ev_int (.val _) (.tup _)) (ev_ix rfl (ev_v 1 rfl (pv 1)) ev_int (.val _) (.tup _))) (ev_mul (h.2 hc11).1.2.1.2 (ev_ix rfl (ev_v 1 rfl (pv 1)) ev_int (.val _) (.tup _)) (ev_ix rfl (ev_v 0 rfl (pv 0)) ev_int (.val _) (.tup _)))) (ea_cons (ev_mul (h.2 hc11).1.2.2.1 (ev_ix rfl (ev_v 0 rfl (pv 0)) ev_int (.val _) (.tup _)) (ev_ix rfl (ev_v 1 rfl (pv 1)) ev_int (.val _) (.tup _))) ea_nil)) (.im (.im .nil)) (R_law_ratio_of ((one.1 * other.2) - (other.1 * one.2)) (one.2 * other.2) (h.2 hc11).1.2.2.2 (rfl : (law_ratio ((one.1 * other.2) - (other.1 * one.2)) (one.2 * other.2)) = (law_two_right_e4 one other)))) ea_nil)) (.im (.im .nil)) ⟨_, _, _, (ls_2 ls_int ls_int) (law_two_right_e3 one other) (law_two_right_e4 one other), rfl, rfl, rfl⟩))) (fun hc12 => (EvC.wkR (ec_last (es_ret ev_bl) rfl) (.n (.n .nil)))) (fun hc12 => (ec_nil (ec_ifV law_two_right_o (t1 := false) (t0 := (if ((!decide (other.1 = (0 : Int))) && (!(decide ((law_two_right_e7 one other) = (law_two_right_e8 one other))))) = true then false else ((decide ((law_two_right_e9 one other) = (decide ((one.1 * other.2) < (other.1 * one.2))))) && (decide ((law_two_right_e10 one) = false))))) (et_not (et_val (ev_call ((C_law_same 1).pe hr_ (by decide) rfl) (ea_cons (ev_call (C_times_of.pe hr_ (by decide) rfl) (ea_cons (ev_v 0 rfl (pv 0)) (ea_cons (ev_v 1 rfl (pv 1)) ea_nil)) (.im (.im .nil)) (R_times_of_of one other ((h.2 hc11).2 hc12).1.1 (rfl : (times_of one other) = (law_two_right_e5 one other)))) (ea_cons (ev_call (C_law_ratio.pe hr_ (by decide) rfl) (ea_cons (ev_mul ((h.2 hc11).2 hc12).1.2.1 (ev_ix rfl (ev_v 0 rfl (pv 0)) ev_int (.val _) (.tup _)) (ev_ix rfl (ev_v 1 rfl (pv 1)) ev_int (.val _) (.tup _))) (ea_cons (ev_mul ((h.2 hc11).2 hc12).1.2.2.1 (ev_ix rfl (ev_v 0 rfl (pv 0)) ev_int (.val _) (.tup _)) (ev_ix rfl (ev_v 1 rfl (pv 1)) ev_int (.val _) (.tup _))) ea_nil)) (.im (.im .nil)) (R_law_ratio_of (one.1 * other.1) (one.2 * other.2) ((h.2 hc11).2 hc12).1.2.2.2 (rfl : (law_ratio (one.1 * other.1) (one.2 * other.2)) = (law_two_right_e6 one other)))) ea_nil)) (.im (.im .nil)) ⟨_, _, _, (ls_2 ls_int ls_int) (law_two_right_e5 one other) (law_two_right_e6 one other), rfl, rfl, rfl⟩))) (fun hc13 => (EvC.wkR (ec_last (es_ret ev_bl) rfl) (.n (.n .nil)))) (fun hc13 => (ec_nil (ec_ifV law_two_right_o (t1 := false) (t0 := ((decide ((law_two_right_e9 one other) = (decide ((one.1 * other.2) < (other.1 * one.2))))) && (decide ((law_two_right_e10 one) = false)))) (EvW.t (ew_and (et_neT lw_int (by decide) hu64_ (ev_ix rfl (ev_v 1 rfl (pv 1)) ev_int (.val _) (.tup _)) ev_int (.val _) (.val _)) (fun hb15 => (ew_and1 (et_not (et_val (ev_call ((C_law_same 1).pe hr_ (by decide) rfl) (ea_cons (ev_call (C_divided_by.pe hr_ (by decide) rfl) (ea_cons (ev_v 0 rfl (pv 0)) (ea_cons (ev_v 1 rfl (pv 1)) ea_nil)) (.im (.im .nil)) (R_divided_by_of one other ((((h.2 hc11).2 hc12).2 hc13).1 hb15).1 (rfl : (divided_by one other) = (law_two_right_e7 one other)))) (ea_cons (ev_call (C_law_ratio.pe hr_ (by decide) rfl) (ea_cons (ev_mul ((((h.2 hc11).2 hc12).2 hc13).1 hb15).2.1 (ev_ix rfl (ev_v 0 rfl (pv 0)) ev_int (.val _) (.tup _)) (ev_ix rfl (ev_v 1 rfl (pv 1)) ev_int (.val _) (.tup _))) (ea_cons (ev_mul ((((h.2 hc11).2 hc12).2 hc13).1 hb15).2.2.1 (ev_ix rfl (ev_v 0 rfl (pv 0)) ev_int (.val _) (.tup _)) (ev_ix rfl (ev_v 1 rfl (pv 1)) ev_int (.val _) (.tup _))) ea_nil)) (.im (.im .nil)) (R_law_ratio_of (one.1 * other.2) (one.2 * other.1) ((((h.2 hc11).2 hc12).2 hc13).1 hb15).2.2.2 (rfl : (law_ratio (one.1 * other.2) (one.2 * other.1)) = (law_two_right_e8 one other)))) ea_nil)) (.im (.im .nil)) ⟨_, _, _, (ls_2 ls_int ls_int) (law_two_right_e7 one other) (law_two_right_e8 one other), rfl, rfl, rfl⟩))))))) (fun hc14 => (EvC.wkR (ec_last (es_ret ev_bl) rfl) (.n (.n .nil)))) (fun hc14 => (ec_nil (EvC.wkR (ec_last (es_ret (ev_and (ev_call ((C_law_same 0).pe hr_ (by decide) rfl) (ea_cons (ev_call (C_is_less.pe hr_ (by decide) rfl) (ea_cons (ev_v 0 rfl (pv 0)) (ea_cons (ev_v 1 rfl (pv 1)) ea_nil)) (.im (.im .nil)) (R_is_less_of one other ((((h.2 hc11).2 hc12).2 hc13).2 hc14).1.1 (rfl : (is_less one other) = (law_two_right_e9 one other)))) (ea_cons (ev_lt (ev_mul ((((h.2 hc11).2 hc12).2 hc13).2 hc14).1.2.1 (ev_ix rfl (ev_v 0 rfl (pv 0)) ev_int (.val _) (.tup _)) (ev_ix rfl (ev_v 1 rfl (pv 1)) ev_int (.val _) (.tup _))) (ev_mul ((((h.2 hc11).2 hc12).2 hc13).2 hc14).1.2.2 (ev_ix rfl (ev_v 1 rfl (pv 1)) ev_int (.val _) (.tup _)) (ev_ix rfl (ev_v 0 rfl (pv 0)) ev_int (.val _) (.tup _)))) ea_nil)) (.im (.im .nil)) ⟨_, _, _, ls_bl (law_two_right_e9 one other) (decide ((one.1 * other.2) < (other.1 * one.2))), rfl, rfl, rfl⟩) (fun hb17 => (ev_bo1 (ev_call ((C_law_same 0).pe hr_ (by decide) rfl) (ea_cons (ev_call (C_is_less.pe hr_ (by decide) rfl) (ea_cons (ev_v 0 rfl (pv 0)) (ea_cons (ev_v 0 rfl (pv 0)) ea_nil)) (.im (.im .nil)) (R_is_less_of one one (((((h.2 hc11).2 hc12).2 hc13).2 hc14).2 hb17) (rfl : (is_less one one) = (law_two_right_e10 one)))) (ea_cons ev_bl ea_nil)) (.im (.im .nil)) ⟨_, _, _, ls_bl (law_two_right_e10 one) false, rfl, rfl, rfl⟩))))) rfl) (.n (.n .nil))))))))))))))))
    exact ⟨_, EvC.ss main_, law_two_right_oo (law_two_right one other) one other⟩
/-! _law_three_right -/
abbrev s_law_three_right : Stmt := topS 17
theorem sc_law_three_right : FnScope ["one", "other", "third", "turned", "small", "left"] ["one", "other", "third"] (defScope s_law_three_right) := ⟨rfl, rfl, rfl, by decide +kernel, rfl, by decide +kernel, by decide +kernel⟩
def law_three_right_e1 (one : (Int × Int)) (other : (Int × Int)) : (Int × Int) := (plus_of one other)
def law_three_right_e2 (one : (Int × Int)) (other : (Int × Int)) : (Int × Int) := (plus_of other one)
def law_three_right_e3 (one : (Int × Int)) (other : (Int × Int)) : (Int × Int) := (times_of one other)
def law_three_right_e4 (one : (Int × Int)) (other : (Int × Int)) : (Int × Int) := (times_of other one)
def law_three_right_e5 (one : (Int × Int)) (other : (Int × Int)) : (Int × Int) := (minus_of (law_three_right_e1 one other) other)
def law_three_right_e6 (one : (Int × Int)) (other : (Int × Int)) : (Int × Int) := (divided_by (law_three_right_e3 one other) other)
def law_three_right_e7 (one : (Int × Int)) (other : (Int × Int)) : Bool := (is_less one other)
def law_three_right_e8 (one : (Int × Int)) (third : (Int × Int)) : (Int × Int) := (plus_of one third)
def law_three_right_e9 (other : (Int × Int)) (third : (Int × Int)) : (Int × Int) := (plus_of other third)
def law_three_right_e10 (one : (Int × Int)) (other : (Int × Int)) (third : (Int × Int)) : Bool := (is_less (law_three_right_e8 one third) (law_three_right_e9 other third))
def law_three_right_e11 (one : (Int × Int)) : (Int × Int) := (times_of one ((-(1 : Int)), (1 : Int)))
def law_three_right_e12 (other : (Int × Int)) : (Int × Int) := (times_of other ((-(1 : Int)), (1 : Int)))
def law_three_right_e13 (one : (Int × Int)) (other : (Int × Int)) : Bool := (is_less (law_three_right_e12 other) (law_three_right_e11 one))
def law_three_right_e14 (third : (Int × Int)) : (Int × Int) := (law_ratio (third.1 % (1000 : Int)) (7 : Int))
def law_three_right_e15 (one : (Int × Int)) (third : (Int × Int)) : (Int × Int) := (plus_of one (law_three_right_e14 third))
def law_three_right_e16 (one : (Int × Int)) (third : (Int × Int)) : (Int × Int) := (times_of (law_three_right_e14 third) (law_three_right_e15 one third))
def law_three_right_e17 (one : (Int × Int)) (third : (Int × Int)) : (Int × Int) := (times_of (law_three_right_e14 third) one)
def law_three_right_e18 (third : (Int × Int)) : (Int × Int) := (times_of (law_three_right_e14 third) (law_three_right_e14 third))
def law_three_right_e19 (one : (Int × Int)) (third : (Int × Int)) : (Int × Int) := (plus_of (law_three_right_e17 one third) (law_three_right_e18 third))
def law_three_right (one : (Int × Int)) (other : (Int × Int)) (third : (Int × Int)) : (Bool) := (if ((!(decide ((law_three_right_e1 one other) = (law_three_right_e2 one other)))) || (!(decide ((law_three_right_e3 one other) = (law_three_right_e4 one other))))) = true then false else (if ((!(decide ((law_three_right_e5 one other) = one))) || ((!decide (other.1 = (0 : Int))) && (!(decide ((law_three_right_e6 one other) = one))))) = true then false else (if ((law_three_right_e7 one other) && ((law_three_right_e10 one other third) != true)) = true then false else (if (!decide ((law_three_right_e7 one other) = (law_three_right_e13 one other))) = true then false else (decide ((law_three_right_e16 one third) = (law_three_right_e19 one third)))))))
def law_three_right_ok (one : (Int × Int)) (other : (Int × Int)) (third : (Int × Int)) : Prop := (((plus_of_ok one other ∧ plus_of_ok other one) ∧ ((!(decide ((law_three_right_e1 one other) = (law_three_right_e2 one other)))) = false → (times_of_ok one other ∧ times_of_ok other one))) ∧ (((!(decide ((law_three_right_e1 one other) = (law_three_right_e2 one other)))) || (!(decide ((law_three_right_e3 one other) = (law_three_right_e4 one other))))) = false → (((plus_of_ok one other ∧ minus_of_ok (law_three_right_e1 one other) other) ∧ ((!(decide ((law_three_right_e5 one other) = one))) = false → ((!decide (other.1 = (0 : Int))) = true → (times_of_ok one other ∧ divided_by_ok (law_three_right_e3 one other) other)))) ∧ (((!(decide ((law_three_right_e5 one other) = one))) || ((!decide (other.1 = (0 : Int))) && (!(decide ((law_three_right_e6 one other) = one))))) = false → ((is_less_ok one other ∧ ((law_three_right_e7 one other) = true → (plus_of_ok one third ∧ plus_of_ok other third ∧ is_less_ok (law_three_right_e8 one third) (law_three_right_e9 other third)))) ∧ (((law_three_right_e7 one other) && ((law_three_right_e10 one other third) != true)) = false → (times_of_ok one ((-(1 : Int)), (1 : Int)) ∧ ((is_less_ok one other ∧ (times_of_ok other ((-(1 : Int)), (1 : Int)) ∧ is_less_ok (law_three_right_e12 other) (law_three_right_e11 one))) ∧ ((!decide ((law_three_right_e7 one other) = (law_three_right_e13 one other))) = false → (law_ratio_ok (third.1 % (1000 : Int)) (7 : Int) ∧ ((plus_of_ok one (law_three_right_e14 third) ∧ times_of_ok (law_three_right_e14 third) (law_three_right_e15 one third)) ∧ (times_of_ok (law_three_right_e14 third) one ∧ times_of_ok (law_three_right_e14 third) (law_three_right_e14 third) ∧ plus_of_ok (law_three_right_e17 one third) (law_three_right_e18 third)))))))))))))
def law_three_right_o (t : (Bool)) : Out := .rt (.im (Val.bl t)) [.no, .no, .no, .no, .no, .no]
theorem law_three_right_oo (t : (Bool)) (one : (Int × Int)) (other : (Int × Int)) (third : (Int × Int)) : OutOk [.im ((enc2 Val.int Val.int) one), .im ((enc2 Val.int Val.int) other), .im ((enc2 Val.int Val.int) third)] (.im (Val.bl t)) [.im ((enc2 Val.int Val.int) one), .im ((enc2 Val.int Val.int) other), .im ((enc2 Val.int Val.int) third)] (law_three_right_o t) := by
  exact ⟨rfl, OE.ok (.im (.im (.im .nil)))⟩
def R_law_three_right : Rel := fun args_ r_ outs_ => ∃ (one : (Int × Int)) (other : (Int × Int)) (third : (Int × Int)), law_three_right_ok one other third ∧ args_ = [.im ((enc2 Val.int Val.int) one), .im ((enc2 Val.int Val.int) other), .im ((enc2 Val.int Val.int) third)] ∧ r_ = .im (Val.bl (law_three_right one other third)) ∧ outs_ = [.im ((enc2 Val.int Val.int) one), .im ((enc2 Val.int Val.int) other), .im ((enc2 Val.int Val.int) third)]
theorem R_law_three_right_of (one : (Int × Int)) (other : (Int × Int)) (third : (Int × Int)) {v_ : (Bool)} (h : law_three_right_ok one other third) (e : law_three_right one other third = v_) : R_law_three_right [.im ((enc2 Val.int Val.int) one), .im ((enc2 Val.int Val.int) other), .im ((enc2 Val.int Val.int) third)] (.im (Val.bl v_)) [.im ((enc2 Val.int Val.int) one), .im ((enc2 Val.int Val.int) other), .im ((enc2 Val.int Val.int) third)] := by subst e; exact ⟨one, other, third, h, rfl, rfl, rfl⟩
set_option maxHeartbeats 2000000 in
theorem ok_law_three_right (D : DefAt K mg "_law_three_right" s_law_three_right ["one", "other", "third"]) (m_int : mg "int" = none) (C_plus_of : CalOk P w K mg base "plus_of" ["one", "other"] 3 R_plus_of) (C_law_same : ∀ d, CalOk P w K mg base "_law_same" ["actual", "due"] (d + 1) (R_same d)) (C_times_of : CalOk P w K mg base "times_of" ["one", "other"] 3 R_times_of) (C_minus_of : CalOk P w K mg base "minus_of" ["one", "other"] 3 R_minus_of) (C_divided_by : CalOk P w K mg base "divided_by" ["one", "other"] 3 R_divided_by) (C_is_less : CalOk P w K mg base "is_less" ["one", "other"] 1 R_is_less) (C_law_ratio : CalOk P w K mg base "_law_ratio" ["n", "d"] 2 R_law_ratio) : CalOk P w K mg base "_law_three_right" ["one", "other", "third"] 4 R_law_three_right := by
  refine D.ok sc_law_three_right (by decide) (fun args r outs h => ?_) (fun f_ cdv_ A_ outer_ sh_ H_ E_ hr_ args r outs h => ?_)
  · obtain ⟨one, other, third, h, rfl, rfl, rfl⟩ := h; exact len_of rfl rfl
  · obtain ⟨one, other, third, h, rfl, rfl, rfl⟩ := h
    have nd_ := sc_law_three_right.nd
    have hu64_ := hu64 hr_; have hu65_ := hu65 hr_
    have main_ : EvC (cxOf CX0 P w K mg base ["one", "other", "third", "turned", "small", "left"] "_law_three_right" (defScope s_law_three_right) f_ cdv_ A_ outer_ sh_ H_ E_).nox [] [defBody s_law_three_right] [.im ((enc2 Val.int Val.int) one), .im ((enc2 Val.int Val.int) other), .im ((enc2 Val.int Val.int) third), .no, .no, .no] (law_three_right_o (law_three_right one other third)) := (show EvC _ _ _ _ (law_three_right_o ((if ((!(decide ((law_three_right_e1 one other) = (law_three_right_e2 one other)))) || (!(decide ((law_three_right_e3 one other) = (law_three_right_e4 one other))))) = true then false else (if ((!(decide ((law_three_right_e5 one other) = one))) || ((!decide (other.1 = (0 : Int))) && (!(decide ((law_three_right_e6 one other) = one))))) = true then false else (if ((law_three_right_e7 one other) && ((law_three_right_e10 one other third) != true)) = true then false else (if (!decide ((law_three_right_e7 one other) = (law_three_right_e13 one other))) = true then false else (decide ((law_three_right_e16 one third) = (law_three_right_e19 one third))))))))) from (ec_ifV law_three_right_o (t1 := false) (t0 := (if ((!(decide ((law_three_right_e5 one other) = one))) || ((!decide (other.1 = (0 : Int))) && (!(decide ((law_three_right_e6 one other) = one))))) = true then false else (if ((law_three_right_e7 one other) && ((law_three_right_e10 one other third) != true)) = true then false else (if (!decide ((law_three_right_e7 one other) = (law_three_right_e13 one other))) = true then false else (decide ((law_three_right_e16 one third) = (law_three_right_e19 one third))))))) (EvW.t (ew_or (et_not (et_val (ev_call ((C_law_same 1).pe hr_ (by decide) rfl) (ea_cons (ev_call (C_plus_of.pe hr_ (by decide) rfl) (ea_cons (ev_v 0 rfl (pv 0)) (ea_cons (ev_v 1 rfl (pv 1)) ea_nil)) (.im (.im .nil)) (R_plus_of_of one other h.1.1.1 (rfl : (plus_of one other) = (law_three_right_e1 one other)))) (ea_cons (ev_call (C_plus_of.pe hr_ (by decide) rfl) (ea_cons (ev_v 1 rfl (pv 1)) (ea_cons (ev_v 0 rfl (pv 0)) ea_nil)) (.im (.im .nil)) (R_plus_of_of other one h.1.1.2 (rfl : (plus_of other one) = (law_three_right_e2 one other)))) ea_nil)) (.im (.im .nil)) ⟨_, _, _, (ls_2 ls_int ls_int) (law_three_right_e1 one other) (law_three_right_e2 one other), rfl, rfl, rfl⟩))) (fun hb21 => (ew_or1 (et_not (et_val (ev_call ((C_law_same 1).pe hr_ (by decide) rfl) (ea_cons (ev_call (C_times_of.pe hr_ (by decide) rfl) (ea_cons (ev_v 0 rfl (pv 0)) (ea_cons (ev_v 1 rfl (pv 1)) ea_nil)) (.im (.im .nil)) (R_times_of_of one other (h.1.2 hb21).1 (rfl : (times_of one other) = (law_three_right_e3 one other)))) (ea_cons (ev_call (C_times_of.pe hr_ (by decide) rfl) (ea_cons (ev_v 1 rfl (pv 1)) (ea_cons (ev_v 0 rfl (pv 0)) ea_nil)) (.im (.im .nil)) (R_times_of_of other one (h.1.2 hb21).2 (rfl : (times_of other one) = (law_three_right_e4 one other)))) ea_nil)) (.im (.im .nil)) ⟨_, _, _, (ls_2 ls_int ls_int) (law_three_right_e3 one other) (law_three_right_e4 one other), rfl, rfl, rfl⟩))))))) (fun hc20 => (EvC.wkR (ec_last (es_ret ev_bl) rfl) (.n (.n (.n (.n (.n (.n .nil)))))))) (fun hc20 => (ec_nil (ec_ifV law_three_right_o (t1 := false) (t0 := (if ((law_three_right_e7 one other) && ((law_three_right_e10 one other third) != true)) = true then false else (if (!decide ((law_three_right_e7 one other) = (law_three_right_e13 one other))) = true then false else (decide ((law_three_right_e16 one third) = (law_three_right_e19 one third)))))) (EvW.t (ew_or (et_not (et_val (ev_call ((C_law_same 1).pe hr_ (by decide) rfl) (ea_cons (ev_call (C_minus_of.pe hr_ (by decide) rfl) (ea_cons (ev_call (C_plus_of.pe hr_ (by decide) rfl) (ea_cons (ev_v 0 rfl (pv 0)) (ea_cons (ev_v 1 rfl (pv 1)) ea_nil)) (.im (.im .nil)) (R_plus_of_of one other (h.2 hc20).1.1.1 (rfl : (plus_of one other) = (law_three_right_e1 one other)))) (ea_cons (ev_v 1 rfl (pv 1)) ea_nil)) (.im (.im .nil)) (R_minus_of_of (law_three_right_e1 one other) other (h.2 hc20).1.1.2 (rfl : (minus_of (law_three_right_e1 one other) other) = (law_three_right_e5 one other)))) (ea_cons (ev_v 0 rfl (pv 0)) ea_nil)) (.im (.im .nil)) ⟨_, _, _, (ls_2 ls_int ls_int) (law_three_right_e5 one other) one, rfl, rfl, rfl⟩))) (fun hb24 => (ew_or1 (EvW.t (ew_and (et_neT lw_int (by decide) hu64_ (ev_ix rfl (ev_v 1 rfl (pv 1)) ev_int (.val _) (.tup _)) ev_int (.val _) (.val _)) (fun hb26 => (ew_and1 (et_not (et_val (ev_call ((C_law_same 1).pe hr_ (by decide) rfl) (ea_cons (ev_call (C_divided_by.pe hr_ (by decide) rfl) (ea_cons (ev_call (C_times_of.pe hr_ (by decide) rfl) (ea_cons (ev_v 0 rfl (pv 0)) (ea_cons (ev_v 1 rfl (pv 1)) ea_nil)) (.im (.im .nil)) (R_times_of_of one other (((h.2 hc20).1.2 hb24) hb26).1 (rfl : (times_of one other) = (law_three_right_e3 one other)))) (ea_cons (ev_v 1 rfl (pv 1)) ea_nil)) (.im (.im .nil)) (R_divided_by_of (law_three_right_e3 one other) other (((h.2 hc20).1.2 hb24) hb26).2 (rfl : (divided_by (law_three_right_e3 one other) other) = (law_three_right_e6 one other)))) (ea_cons (ev_v 0 rfl (pv 0)) ea_nil)) (.im (.im .nil)) ⟨_, _, _, (ls_2 ls_int ls_int) (law_three_right_e6 one other) one, rfl, rfl, rfl⟩))))))))))) (fun hc23 => (EvC.wkR (ec_last (es_ret ev_bl) rfl) (.n (.n (.n (.n (.n (.n .nil)))))))) (fun hc23 => (ec_nil (ec_ifV law_three_right_o (t1 := false) (t0 := (if (!decide ((law_three_right_e7 one other) = (law_three_right_e13 one other))) = true then false else (decide ((law_three_right_e16 one third) = (law_three_right_e19 one third))))) (EvW.t (ew_and (et_val (ev_call (C_is_less.pe hr_ (by decide) rfl) (ea_cons (ev_v 0 rfl (pv 0)) (ea_cons (ev_v 1 rfl (pv 1)) ea_nil)) (.im (.im .nil)) (R_is_less_of one other ((h.2 hc20).2 hc23).1.1 (rfl : (is_less one other) = (law_three_right_e7 one other))))) (fun hb29 => (ew_and1 (et_notB (ev_call (C_is_less.pe hr_ (by decide) rfl) (ea_cons (ev_call (C_plus_of.pe hr_ (by decide) rfl) (ea_cons (ev_v 0 rfl (pv 0)) (ea_cons (ev_v 2 rfl (pv 2)) ea_nil)) (.im (.im .nil)) (R_plus_of_of one third (((h.2 hc20).2 hc23).1.2 hb29).1 (rfl : (plus_of one third) = (law_three_right_e8 one third)))) (ea_cons (ev_call (C_plus_of.pe hr_ (by decide) rfl) (ea_cons (ev_v 1 rfl (pv 1)) (ea_cons (ev_v 2 rfl (pv 2)) ea_nil)) (.im (.im .nil)) (R_plus_of_of other third (((h.2 hc20).2 hc23).1.2 hb29).2.1 (rfl : (plus_of other third) = (law_three_right_e9 other third)))) ea_nil)) (.im (.im .nil)) (R_is_less_of (law_three_right_e8 one third) (law_three_right_e9 other third) (((h.2 hc20).2 hc23).1.2 hb29).2.2 (rfl : (is_less (law_three_right_e8 one third) (law_three_right_e9 other third)) = (law_three_right_e10 one other third)))) ev_bl))))) (fun hc28 => (EvC.wkR (ec_last (es_ret ev_bl) rfl) (.n (.n (.n (.n (.n (.n .nil)))))))) (fun hc28 => (ec_nil (ec_cons (EvS.to (env2 := [.im ((enc2 Val.int Val.int) one), .im ((enc2 Val.int Val.int) other), .im ((enc2 Val.int Val.int) third), .im ((enc2 Val.int Val.int) (law_three_right_e11 one)), .no, .no]) (es_setV (ps_set (i := 3) nd_ rfl (by first | exact .inl rfl | exact .inr rfl) (pe_wp _)) (ev_call (C_times_of.pe hr_ (by decide) rfl) (ea_cons (ev_v 0 rfl (pv 0)) (ea_cons (ev_tup (xs := [Val.int (-(1 : Int)), Val.int (1 : Int)]) (Nat.le_of_ble_eq_true rfl) (ea_cons (ev_neg ev_int) (ea_cons ev_int ea_nil))) ea_nil)) (.im (.im .nil)) (R_times_of_of one ((-(1 : Int)), (1 : Int)) (((h.2 hc20).2 hc23).2 hc28).1 (rfl : (times_of one ((-(1 : Int)), (1 : Int))) = (law_three_right_e11 one)))) (Nat.le_of_ble_eq_true rfl) (nm rfl)) rfl) (ec_ifV law_three_right_o (t1 := false) (t0 := (decide ((law_three_right_e16 one third) = (law_three_right_e19 one third)))) (et_neT lw_bl (by decide) hu64_ (ev_call (C_is_less.pe hr_ (by decide) rfl) (ea_cons (ev_v 0 rfl (pv 0)) (ea_cons (ev_v 1 rfl (pv 1)) ea_nil)) (.im (.im .nil)) (R_is_less_of one other (((h.2 hc20).2 hc23).2 hc28).2.1.1 (rfl : (is_less one other) = (law_three_right_e7 one other)))) (ev_call (C_is_less.pe hr_ (by decide) rfl) (ea_cons (ev_call (C_times_of.pe hr_ (by decide) rfl) (ea_cons (ev_v 1 rfl (pv 1)) (ea_cons (ev_tup (xs := [Val.int (-(1 : Int)), Val.int (1 : Int)]) (Nat.le_of_ble_eq_true rfl) (ea_cons (ev_neg ev_int) (ea_cons ev_int ea_nil))) ea_nil)) (.im (.im .nil)) (R_times_of_of other ((-(1 : Int)), (1 : Int)) (((h.2 hc20).2 hc23).2 hc28).2.1.2.1 (rfl : (times_of other ((-(1 : Int)), (1 : Int))) = (law_three_right_e12 other)))) (ea_cons (ev_v 3 rfl (pv 3)) ea_nil)) (.im (.im .nil)) (R_is_less_of (law_three_right_e12 other) (law_three_right_e11 one) (((h.2 hc20).2 hc23).2 hc28).2.1.2.2 (rfl : (is_less (law_three_right_e12 other) (law_three_right_e11 one)) = (law_three_right_e13 one other)))) (.val _) (.val _)) (fun hc31 => (EvC.wkR (ec_last (es_ret ev_bl) rfl) (.n (.n (.n (.n (.n (.n .nil)))))))) (fun hc31 => (ec_nil (ec_cons (EvS.to (env2 := [.im ((enc2 Val.int Val.int) one), .im ((enc2 Val.int Val.int) other), .im ((enc2 Val.int Val.int) third), .im ((enc2 Val.int Val.int) (law_three_right_e11 one)), .im ((enc2 Val.int Val.int) (law_three_right_e14 third)), .no]) (es_setV (ps_set (i := 4) nd_ rfl (by first | exact .inl rfl | exact .inr rfl) (pe_wp _)) (ev_call (C_law_ratio.pe hr_ (by decide) rfl) (ea_cons (ev_mod (by decide +kernel) (ev_int1 m_int (ev_ix rfl (ev_v 2 rfl (pv 2)) ev_int (.val _) (.tup _))) ev_int) (ea_cons ev_int ea_nil)) (.im (.im .nil)) (R_law_ratio_of (third.1 % (1000 : Int)) (7 : Int) ((((h.2 hc20).2 hc23).2 hc28).2.2 hc31).1 (rfl : (law_ratio (third.1 % (1000 : Int)) (7 : Int)) = (law_three_right_e14 third)))) (Nat.le_of_ble_eq_true rfl) (nm rfl)) rfl) (ec_cons (EvS.to (env2 := [.im ((enc2 Val.int Val.int) one), .im ((enc2 Val.int Val.int) other), .im ((enc2 Val.int Val.int) third), .im ((enc2 Val.int Val.int) (law_three_right_e11 one)), .im ((enc2 Val.int Val.int) (law_three_right_e14 third)), .im ((enc2 Val.int Val.int) (law_three_right_e16 one third))]) (es_setV (ps_set (i := 5) nd_ rfl (by first | exact .inl rfl | exact .inr rfl) (pe_wp _)) (ev_call (C_times_of.pe hr_ (by decide) rfl) (ea_cons (ev_v 4 rfl (pv 4)) (ea_cons (ev_call (C_plus_of.pe hr_ (by decide) rfl) (ea_cons (ev_v 0 rfl (pv 0)) (ea_cons (ev_v 4 rfl (pv 4)) ea_nil)) (.im (.im .nil)) (R_plus_of_of one (law_three_right_e14 third) ((((h.2 hc20).2 hc23).2 hc28).2.2 hc31).2.1.1 (rfl : (plus_of one (law_three_right_e14 third)) = (law_three_right_e15 one third)))) ea_nil)) (.im (.im .nil)) (R_times_of_of (law_three_right_e14 third) (law_three_right_e15 one third) ((((h.2 hc20).2 hc23).2 hc28).2.2 hc31).2.1.2 (rfl : (times_of (law_three_right_e14 third) (law_three_right_e15 one third)) = (law_three_right_e16 one third)))) (Nat.le_of_ble_eq_true rfl) (nm rfl)) rfl) (EvC.wkR (ec_last (es_ret (ev_call ((C_law_same 1).pe hr_ (by decide) rfl) (ea_cons (ev_v 5 rfl (pv 5)) (ea_cons (ev_call (C_plus_of.pe hr_ (by decide) rfl) (ea_cons (ev_call (C_times_of.pe hr_ (by decide) rfl) (ea_cons (ev_v 4 rfl (pv 4)) (ea_cons (ev_v 0 rfl (pv 0)) ea_nil)) (.im (.im .nil)) (R_times_of_of (law_three_right_e14 third) one ((((h.2 hc20).2 hc23).2 hc28).2.2 hc31).2.2.1 (rfl : (times_of (law_three_right_e14 third) one) = (law_three_right_e17 one third)))) (ea_cons (ev_call (C_times_of.pe hr_ (by decide) rfl) (ea_cons (ev_v 4 rfl (pv 4)) (ea_cons (ev_v 4 rfl (pv 4)) ea_nil)) (.im (.im .nil)) (R_times_of_of (law_three_right_e14 third) (law_three_right_e14 third) ((((h.2 hc20).2 hc23).2 hc28).2.2 hc31).2.2.2.1 (rfl : (times_of (law_three_right_e14 third) (law_three_right_e14 third)) = (law_three_right_e18 third)))) ea_nil)) (.im (.im .nil)) (R_plus_of_of (law_three_right_e17 one third) (law_three_right_e18 third) ((((h.2 hc20).2 hc23).2 hc28).2.2 hc31).2.2.2.2 (rfl : (plus_of (law_three_right_e17 one third) (law_three_right_e18 third)) = (law_three_right_e19 one third)))) ea_nil)) (.im (.im .nil)) ⟨_, _, _, (ls_2 ls_int ls_int) (law_three_right_e16 one third) (law_three_right_e19 one third), rfl, rfl, rfl⟩)) rfl) (.n (.n (.n (.n (.n (.n .nil)))))))))))))))))))))))
    exact ⟨_, EvC.ss main_, law_three_right_oo (law_three_right one other third) one other third⟩
/-! law -/
abbrev s_law_ : Stmt := topS 18
theorem sc_law_ : FnScope ["script", "draws", "k", "n", "d", "one", "other", "third"] ["script"] (defScope s_law_) := ⟨rfl, rfl, rfl, by decide +kernel, rfl, by decide +kernel, by decide +kernel⟩
def law__e1 (script : (List Int)) : (List Int) := (law_draws script (320 : Int))
def law__e4 (script : (List Int)) (s : ((List Int))) : Int × (List Int) := (law_size s script)
def law__e5 (script : (List Int)) (s : ((List Int))) : Int × (List Int) := (law_take (law__e4 script s).2 (2 : Int))
def law__e6 (script : (List Int)) (s : ((List Int))) : Int × (List Int) := (law_size (law__e5 script s).2 script)
def law__e7 (script : (List Int)) (s : ((List Int))) : Int × (List Int) := (law_take (law__e6 script s).2 (2 : Int))
def law__e8 (script : (List Int)) (s : ((List Int))) : (Int × Int) := (fraction (((law__e4 script s).1 % ((10 : Int) ^ (29 : Nat))) * ((1 : Int) - ((2 : Int) * (law__e5 script s).1))) (((1 : Int) + ((law__e6 script s).1 % ((10 : Int) ^ (29 : Nat)))) * ((1 : Int) - ((2 : Int) * (law__e7 script s).1))))
def law__e9 (script : (List Int)) (s : ((List Int))) : (Int × Int) := (law_ratio (((law__e4 script s).1 % ((10 : Int) ^ (29 : Nat))) * ((1 : Int) - ((2 : Int) * (law__e5 script s).1))) (((1 : Int) + ((law__e6 script s).1 % ((10 : Int) ^ (29 : Nat)))) * ((1 : Int) - ((2 : Int) * (law__e7 script s).1))))
def law__e10 (script : (List Int)) (s : ((List Int))) : (Int × Int) := (fraction ((((law__e4 script s).1 % ((10 : Int) ^ (29 : Nat))) * ((1 : Int) - ((2 : Int) * (law__e5 script s).1))) * (6 : Int)) (4 : Int))
def law__e11 (script : (List Int)) (s : ((List Int))) : (Int × Int) := (law_ratio ((((law__e4 script s).1 % ((10 : Int) ^ (29 : Nat))) * ((1 : Int) - ((2 : Int) * (law__e5 script s).1))) * (3 : Int)) (2 : Int))
def law__e12 (script : (List Int)) (s : ((List Int))) : (Int × Int) × (List Int) := (law_fraction (law__e7 script s).2 script)
def law__e13 (script : (List Int)) (s : ((List Int))) : (Int × Int) × (List Int) := (law_fraction (law__e12 script s).2 script)
def law__e14 (script : (List Int)) (s : ((List Int))) : (Int × Int) × (List Int) := (law_fraction (law__e13 script s).2 script)
def law__e15 (script : (List Int)) (s : ((List Int))) : Bool := (law_two_right (law__e12 script s).1 (law__e13 script s).1)
def law__e16 (script : (List Int)) (s : ((List Int))) : Bool := (law_two_right (law__e13 script s).1 (law__e14 script s).1)
def law__e17 (script : (List Int)) (s : ((List Int))) : Bool := (law_three_right (law__e12 script s).1 (law__e13 script s).1 (law__e14 script s).1)
def law__f3 (script : (List Int)) (s : (List Int)) (x : Int) : LO ((List Int)) (Bool) := (if ((!(decide ((law__e8 script s) = (law__e9 script s)))) || (!(decide ((law__e10 script s) = (law__e11 script s))))) = true then LO.rt false else (if ((!(law__e15 script s)) || ((!(law__e16 script s)) || (!(law__e17 script s)))) = true then LO.rt false else LO.nx (law__e14 script s).2))
def law__f3_ok (script : (List Int)) (s : (List Int)) (x : Int) : Prop := ((law_size_ok s script ∧ law_take_ok (law__e4 script s).2 (2 : Int) ∧ MulOk ((law__e4 script s).1 % ((10 : Int) ^ (29 : Nat))) ((1 : Int) - ((2 : Int) * (law__e5 script s).1))) ∧ ((law_size_ok (law__e5 script s).2 script ∧ law_take_ok (law__e6 script s).2 (2 : Int) ∧ MulOk ((1 : Int) + ((law__e6 script s).1 % ((10 : Int) ^ (29 : Nat)))) ((1 : Int) - ((2 : Int) * (law__e7 script s).1))) ∧ (((fraction_ok (((law__e4 script s).1 % ((10 : Int) ^ (29 : Nat))) * ((1 : Int) - ((2 : Int) * (law__e5 script s).1))) (((1 : Int) + ((law__e6 script s).1 % ((10 : Int) ^ (29 : Nat)))) * ((1 : Int) - ((2 : Int) * (law__e7 script s).1))) ∧ law_ratio_ok (((law__e4 script s).1 % ((10 : Int) ^ (29 : Nat))) * ((1 : Int) - ((2 : Int) * (law__e5 script s).1))) (((1 : Int) + ((law__e6 script s).1 % ((10 : Int) ^ (29 : Nat)))) * ((1 : Int) - ((2 : Int) * (law__e7 script s).1)))) ∧ ((!(decide ((law__e8 script s) = (law__e9 script s)))) = false → (fraction_ok ((((law__e4 script s).1 % ((10 : Int) ^ (29 : Nat))) * ((1 : Int) - ((2 : Int) * (law__e5 script s).1))) * (6 : Int)) (4 : Int) ∧ law_ratio_ok ((((law__e4 script s).1 % ((10 : Int) ^ (29 : Nat))) * ((1 : Int) - ((2 : Int) * (law__e5 script s).1))) * (3 : Int)) (2 : Int)))) ∧ (((!(decide ((law__e8 script s) = (law__e9 script s)))) || (!(decide ((law__e10 script s) = (law__e11 script s))))) = false → (law_fraction_ok (law__e7 script s).2 script ∧ (law_fraction_ok (law__e12 script s).2 script ∧ (law_fraction_ok (law__e13 script s).2 script ∧ (law_two_right_ok (law__e12 script s).1 (law__e13 script s).1 ∧ ((!(law__e15 script s)) = false → law_two_right_ok (law__e13 script s).1 (law__e14 script s).1) ∧ ((!(law__e15 script s)) = false → ((!(law__e16 script s)) = false → law_three_right_ok (law__e12 script s).1 (law__e13 script s).1 (law__e14 script s).1))))))))))
def law__e25  : (Int × Int) := (fraction (-(6 : Int)) (-(4 : Int)))
def law__e26  : (Int × Int) := (fraction (6 : Int) (-(4 : Int)))
def law__e27  : (Int × Int) := (fraction (0 : Int) (-(7 : Int)))
def law__e28  : (Int × Int) := (plus_of ((1 : Int), (6 : Int)) ((1 : Int), (3 : Int)))
def law__e29  : (Int × Int) := (divided_by ((1 : Int), (2 : Int)) ((-(3 : Int)), (4 : Int)))
def law__e30  : (Int × Int) := (minus_of ((1 : Int), (2 : Int)) ((1 : Int), (2 : Int)))
def law__e31  : Bool := (is_less ((-(1 : Int)), (2 : Int)) ((-(1 : Int)), (3 : Int)))
def law__e32  : (Int × Int) := (times_of ((2 : Int), (3 : Int)) ((3 : Int), (2 : Int)))
def law_ (script : (List Int)) : (Bool) := (afterL (loopL (law__f3 script) (law__e1 script) (irange 0 (4 : Int))) (fun so2 => (if ((!(decide (law__e25 = ((3 : Int), (2 : Int))))) || ((!(decide (law__e26 = ((-(3 : Int)), (2 : Int))))) || ((!(decide (law__e27 = ((0 : Int), (1 : Int))))) || (!(decide (law__e28 = ((1 : Int), (2 : Int)))))))) = true then false else (if (!(decide (law__e29 = ((-(2 : Int)), (3 : Int))))) = true then false else ((decide (law__e30 = ((0 : Int), (1 : Int)))) && ((decide (law__e31 = true)) && (decide (law__e32 = ((1 : Int), (1 : Int))))))))) (fun r33 => r33))
def law__ok (script : (List Int)) : Prop := (law_draws_ok script (320 : Int) ∧ (((-(2 ^ 62) ≤ (4 : Int) ∧ (4 : Int) < 2 ^ 62) ∧ loopOk (law__f3 script) (law__f3_ok script) (law__e1 script) (irange 0 (4 : Int))) ∧ (∀ so2, (loopL (law__f3 script) (law__e1 script) (irange 0 (4 : Int))) = .inl so2 → ((fraction_ok (-(6 : Int)) (-(4 : Int)) ∧ ((!(decide (law__e25 = ((3 : Int), (2 : Int))))) = false → fraction_ok (6 : Int) (-(4 : Int))) ∧ ((!(decide (law__e25 = ((3 : Int), (2 : Int))))) = false → ((!(decide (law__e26 = ((-(3 : Int)), (2 : Int))))) = false → fraction_ok (0 : Int) (-(7 : Int)))) ∧ ((!(decide (law__e25 = ((3 : Int), (2 : Int))))) = false → ((!(decide (law__e26 = ((-(3 : Int)), (2 : Int))))) = false → ((!(decide (law__e27 = ((0 : Int), (1 : Int))))) = false → plus_of_ok ((1 : Int), (6 : Int)) ((1 : Int), (3 : Int)))))) ∧ (((!(decide (law__e25 = ((3 : Int), (2 : Int))))) || ((!(decide (law__e26 = ((-(3 : Int)), (2 : Int))))) || ((!(decide (law__e27 = ((0 : Int), (1 : Int))))) || (!(decide (law__e28 = ((1 : Int), (2 : Int)))))))) = false → (divided_by_ok ((1 : Int), (2 : Int)) ((-(3 : Int)), (4 : Int)) ∧ ((!(decide (law__e29 = ((-(2 : Int)), (3 : Int))))) = false → (minus_of_ok ((1 : Int), (2 : Int)) ((1 : Int), (2 : Int)) ∧ ((decide (law__e30 = ((0 : Int), (1 : Int)))) = true → is_less_ok ((-(1 : Int)), (2 : Int)) ((-(1 : Int)), (3 : Int))) ∧ ((decide (law__e30 = ((0 : Int), (1 : Int)))) = true → ((decide (law__e31 = true)) = true → times_of_ok ((2 : Int), (3 : Int)) ((3 : Int), (2 : Int))))))))))))
def law__o (t : (Bool)) : Out := .rt (.im (Val.bl t)) [.no, .no, .no, .no, .no, .no, .no, .no]
theorem law__oo (t : (Bool)) (script : (List Int)) : OutOk [.im ((encL Val.int) script)] (.im (Val.bl t)) [.im ((encL Val.int) script)] (law__o t) := by
  exact ⟨rfl, OE.ok (.im .nil)⟩
def R_law_ : Rel := fun args_ r_ outs_ => ∃ (script : (List Int)), law__ok script ∧ args_ = [.im ((encL Val.int) script)] ∧ r_ = .im (Val.bl (law_ script)) ∧ outs_ = [.im ((encL Val.int) script)]
theorem R_law__of (script : (List Int)) {v_ : (Bool)} (h : law__ok script) (e : law_ script = v_) : R_law_ [.im ((encL Val.int) script)] (.im (Val.bl v_)) [.im ((encL Val.int) script)] := by subst e; exact ⟨script, h, rfl, rfl, rfl⟩
set_option maxHeartbeats 2000000 in
theorem ok_law_ {f : Addr} {fd : FuncData} (D : Fun K "law" "law" s_law_ f fd) (m_range : mg "range" = none) (C_law_draws : CalOk P w K mg base "_law_draws" ["script", "many"] 1 R_law_draws) (C_law_size : CalOk P w K mg base "_law_size" ["draws", "script"] 2 R_law_size) (C_law_take : CalOk P w K mg base "_law_take" ["draws", "many"] 1 R_law_take) (C_fraction : CalOk P w K mg base "fraction" ["n", "d"] 2 R_fraction) (C_law_ratio : CalOk P w K mg base "_law_ratio" ["n", "d"] 2 R_law_ratio) (C_law_same : ∀ d, CalOk P w K mg base "_law_same" ["actual", "due"] (d + 1) (R_same d)) (C_law_fraction : CalOk P w K mg base "_law_fraction" ["draws", "script"] 3 R_law_fraction) (C_law_two_right : CalOk P w K mg base "_law_two_right" ["one", "other"] 4 R_law_two_right) (C_law_three_right : CalOk P w K mg base "_law_three_right" ["one", "other", "third"] 4 R_law_three_right) (C_plus_of : CalOk P w K mg base "plus_of" ["one", "other"] 3 R_plus_of) (C_divided_by : CalOk P w K mg base "divided_by" ["one", "other"] 3 R_divided_by) (C_minus_of : CalOk P w K mg base "minus_of" ["one", "other"] 3 R_minus_of) (C_is_less : CalOk P w K mg base "is_less" ["one", "other"] 1 R_is_less) (C_times_of : CalOk P w K mg base "times_of" ["one", "other"] 3 R_times_of) : FnOk P w K mg base CX0 5 f fd ["script"] (SpOf K R_law_) := by
  refine def_ok D sc_law_ (by decide) (fun args r outs h => ?_) (fun cdv_ A_ outer_ sh_ H_ E_ hr_ args r outs h => ?_)
  · obtain ⟨script, h, rfl, rfl, rfl⟩ := h; exact len_of rfl rfl
  · obtain ⟨script, h, rfl, rfl, rfl⟩ := h
    have nd_ := sc_law_.nd
    have hu64_ := hu64 hr_; have hu65_ := hu65 hr_
    have law__f3_b : ∀ (script : (List Int)) (s : (List Int)) (x : Int), law__f3_ok script s x → ∃ envt, EvG (cxOf CX0 P w K mg base ["script", "draws", "k", "n", "d", "one", "other", "third"] "law" (defScope s_law_) f cdv_ A_ outer_ sh_ H_ E_).nox [] (forTg (stAt (defBody s_law_) 1)) (Val.int x) [.im ((encL Val.int) script), .ow ((encL Val.int) s), .no, .no, .no, .no, .no, .no] envt ∧ EvSs (cxOf CX0 P w K mg base ["script", "draws", "k", "n", "d", "one", "other", "third"] "law" (defScope s_law_) f cdv_ A_ outer_ sh_ H_ E_).nox [] (loopBody (stAt (defBody s_law_) 1)) envt (outLO (fun so2 : (List Int) => [.im ((encL Val.int) script), .ow ((encL Val.int) so2), .no, .no, .no, .no, .no, .no]) law__o ((law__f3 script) s x)) := fun script s x h => ⟨_, (eg_name 2 (pg_name nd_ rfl (by first | exact .inl rfl | exact .inr rfl)) (Nat.le_of_ble_eq_true rfl) (nm rfl)), EvC.ss (ec_cons (EvS.to (env2 := [.im ((encL Val.int) script), .ow ((encL Val.int) (law__e5 script s).2), .im (Val.int x), .im (Val.int (((law__e4 script s).1 % ((10 : Int) ^ (29 : Nat))) * ((1 : Int) - ((2 : Int) * (law__e5 script s).1)))), .no, .no, .no, .no]) (es_setV (ps_set (i := 3) nd_ rfl (by first | exact .inl rfl | exact .inr rfl) (pe_wp _)) (ev_mul h.1.2.2 (ev_mod (by decide +kernel) (ev_call (C_law_size.pe hr_ (by decide) rfl) (ea_cons (ev_o 1 rfl (pv 1)) (ea_cons (ev_v 0 rfl (pv 0)) ea_nil)) (.mu rfl (by simp) (.im .nil)) (R_law_size_of s script h.1.1 (rfl : (law_size s script) = (law__e4 script s)))) (ev_pow (k := 29) ⟨by decide, by decide⟩ ev_int ev_int)) (ev_sub ev_int (ev_mul (.inl (.inl ⟨by decide +kernel, by decide +kernel⟩)) ev_int (ev_call (C_law_take.pe hr_ (by decide) rfl) (ea_cons (ev_o 1 rfl (pv 1)) (ea_cons ev_int ea_nil)) (.mu rfl (by simp) (.im .nil)) (R_law_take_of (law__e4 script s).2 (2 : Int) h.1.2.1 (rfl : (law_take (law__e4 script s).2 (2 : Int)) = (law__e5 script s))))))) (Nat.le_of_ble_eq_true rfl) (nm rfl)) rfl) (ec_cons (EvS.to (env2 := [.im ((encL Val.int) script), .ow ((encL Val.int) (law__e7 script s).2), .im (Val.int x), .im (Val.int (((law__e4 script s).1 % ((10 : Int) ^ (29 : Nat))) * ((1 : Int) - ((2 : Int) * (law__e5 script s).1)))), .im (Val.int (((1 : Int) + ((law__e6 script s).1 % ((10 : Int) ^ (29 : Nat)))) * ((1 : Int) - ((2 : Int) * (law__e7 script s).1)))), .no, .no, .no]) (es_setV (ps_set (i := 4) nd_ rfl (by first | exact .inl rfl | exact .inr rfl) (pe_wp _)) (ev_mul h.2.1.2.2 (ev_add ev_int (ev_mod (by decide +kernel) (ev_call (C_law_size.pe hr_ (by decide) rfl) (ea_cons (ev_o 1 rfl (pv 1)) (ea_cons (ev_v 0 rfl (pv 0)) ea_nil)) (.mu rfl (by simp) (.im .nil)) (R_law_size_of (law__e5 script s).2 script h.2.1.1 (rfl : (law_size (law__e5 script s).2 script) = (law__e6 script s)))) (ev_pow (k := 29) ⟨by decide, by decide⟩ ev_int ev_int))) (ev_sub ev_int (ev_mul (.inl (.inl ⟨by decide +kernel, by decide +kernel⟩)) ev_int (ev_call (C_law_take.pe hr_ (by decide) rfl) (ea_cons (ev_o 1 rfl (pv 1)) (ea_cons ev_int ea_nil)) (.mu rfl (by simp) (.im .nil)) (R_law_take_of (law__e6 script s).2 (2 : Int) h.2.1.2.1 (rfl : (law_take (law__e6 script s).2 (2 : Int)) = (law__e7 script s))))))) (Nat.le_of_ble_eq_true rfl) (nm rfl)) rfl) (ec_ifV (outLO (fun so2 : (List Int) => [.im ((encL Val.int) script), .ow ((encL Val.int) so2), .no, .no, .no, .no, .no, .no]) law__o) (t1 := LO.rt false) (t0 := (if ((!(law__e15 script s)) || ((!(law__e16 script s)) || (!(law__e17 script s)))) = true then LO.rt false else LO.nx (law__e14 script s).2)) (EvW.t (ew_or (et_not (et_val (ev_call ((C_law_same 1).pe hr_ (by decide) rfl) (ea_cons (ev_call (C_fraction.pe hr_ (by decide) rfl) (ea_cons (ev_v 3 rfl (pv 3)) (ea_cons (ev_v 4 rfl (pv 4)) ea_nil)) (.im (.im .nil)) (R_fraction_of (((law__e4 script s).1 % ((10 : Int) ^ (29 : Nat))) * ((1 : Int) - ((2 : Int) * (law__e5 script s).1))) (((1 : Int) + ((law__e6 script s).1 % ((10 : Int) ^ (29 : Nat)))) * ((1 : Int) - ((2 : Int) * (law__e7 script s).1))) h.2.2.1.1.1 (rfl : (fraction (((law__e4 script s).1 % ((10 : Int) ^ (29 : Nat))) * ((1 : Int) - ((2 : Int) * (law__e5 script s).1))) (((1 : Int) + ((law__e6 script s).1 % ((10 : Int) ^ (29 : Nat)))) * ((1 : Int) - ((2 : Int) * (law__e7 script s).1)))) = (law__e8 script s)))) (ea_cons (ev_call (C_law_ratio.pe hr_ (by decide) rfl) (ea_cons (ev_v 3 rfl (pv 3)) (ea_cons (ev_v 4 rfl (pv 4)) ea_nil)) (.im (.im .nil)) (R_law_ratio_of (((law__e4 script s).1 % ((10 : Int) ^ (29 : Nat))) * ((1 : Int) - ((2 : Int) * (law__e5 script s).1))) (((1 : Int) + ((law__e6 script s).1 % ((10 : Int) ^ (29 : Nat)))) * ((1 : Int) - ((2 : Int) * (law__e7 script s).1))) h.2.2.1.1.2 (rfl : (law_ratio (((law__e4 script s).1 % ((10 : Int) ^ (29 : Nat))) * ((1 : Int) - ((2 : Int) * (law__e5 script s).1))) (((1 : Int) + ((law__e6 script s).1 % ((10 : Int) ^ (29 : Nat)))) * ((1 : Int) - ((2 : Int) * (law__e7 script s).1)))) = (law__e9 script s)))) ea_nil)) (.im (.im .nil)) ⟨_, _, _, (ls_2 ls_int ls_int) (law__e8 script s) (law__e9 script s), rfl, rfl, rfl⟩))) (fun hb19 => (ew_or1 (et_not (et_val (ev_call ((C_law_same 1).pe hr_ (by decide) rfl) (ea_cons (ev_call (C_fraction.pe hr_ (by decide) rfl) (ea_cons (ev_mul (.inl (.inr ⟨by decide +kernel, by decide +kernel⟩)) (ev_v 3 rfl (pv 3)) ev_int) (ea_cons ev_int ea_nil)) (.im (.im .nil)) (R_fraction_of ((((law__e4 script s).1 % ((10 : Int) ^ (29 : Nat))) * ((1 : Int) - ((2 : Int) * (law__e5 script s).1))) * (6 : Int)) (4 : Int) (h.2.2.1.2 hb19).1 (rfl : (fraction ((((law__e4 script s).1 % ((10 : Int) ^ (29 : Nat))) * ((1 : Int) - ((2 : Int) * (law__e5 script s).1))) * (6 : Int)) (4 : Int)) = (law__e10 script s)))) (ea_cons (ev_call (C_law_ratio.pe hr_ (by decide) rfl) (ea_cons (ev_mul (.inl (.inr ⟨by decide +kernel, by decide +kernel⟩)) (ev_v 3 rfl (pv 3)) ev_int) (ea_cons ev_int ea_nil)) (.im (.im .nil)) (R_law_ratio_of ((((law__e4 script s).1 % ((10 : Int) ^ (29 : Nat))) * ((1 : Int) - ((2 : Int) * (law__e5 script s).1))) * (3 : Int)) (2 : Int) (h.2.2.1.2 hb19).2 (rfl : (law_ratio ((((law__e4 script s).1 % ((10 : Int) ^ (29 : Nat))) * ((1 : Int) - ((2 : Int) * (law__e5 script s).1))) * (3 : Int)) (2 : Int)) = (law__e11 script s)))) ea_nil)) (.im (.im .nil)) ⟨_, _, _, (ls_2 ls_int ls_int) (law__e10 script s) (law__e11 script s), rfl, rfl, rfl⟩))))))) (fun hc18 => (EvC.wkR (ec_last (es_ret ev_bl) rfl) (.n (.n (.n (.n (.n (.n (.n (.n .nil)))))))))) (fun hc18 => (ec_nil (ec_cons (EvS.to (env2 := [.im ((encL Val.int) script), .ow ((encL Val.int) (law__e12 script s).2), .im (Val.int x), .im (Val.int (((law__e4 script s).1 % ((10 : Int) ^ (29 : Nat))) * ((1 : Int) - ((2 : Int) * (law__e5 script s).1)))), .im (Val.int (((1 : Int) + ((law__e6 script s).1 % ((10 : Int) ^ (29 : Nat)))) * ((1 : Int) - ((2 : Int) * (law__e7 script s).1)))), .im ((enc2 Val.int Val.int) (law__e12 script s).1), .no, .no]) (es_setV (ps_set (i := 5) nd_ rfl (by first | exact .inl rfl | exact .inr rfl) (pe_wp _)) (ev_call (C_law_fraction.pe hr_ (by decide) rfl) (ea_cons (ev_o 1 rfl (pv 1)) (ea_cons (ev_v 0 rfl (pv 0)) ea_nil)) (.mu rfl (by simp) (.im .nil)) (R_law_fraction_of (law__e7 script s).2 script (h.2.2.2 hc18).1 (rfl : (law_fraction (law__e7 script s).2 script) = (law__e12 script s)))) (Nat.le_of_ble_eq_true rfl) (nm rfl)) rfl) (ec_cons (EvS.to (env2 := [.im ((encL Val.int) script), .ow ((encL Val.int) (law__e13 script s).2), .im (Val.int x), .im (Val.int (((law__e4 script s).1 % ((10 : Int) ^ (29 : Nat))) * ((1 : Int) - ((2 : Int) * (law__e5 script s).1)))), .im (Val.int (((1 : Int) + ((law__e6 script s).1 % ((10 : Int) ^ (29 : Nat)))) * ((1 : Int) - ((2 : Int) * (law__e7 script s).1)))), .im ((enc2 Val.int Val.int) (law__e12 script s).1), .im ((enc2 Val.int Val.int) (law__e13 script s).1), .no]) (es_setV (ps_set (i := 6) nd_ rfl (by first | exact .inl rfl | exact .inr rfl) (pe_wp _)) (ev_call (C_law_fraction.pe hr_ (by decide) rfl) (ea_cons (ev_o 1 rfl (pv 1)) (ea_cons (ev_v 0 rfl (pv 0)) ea_nil)) (.mu rfl (by simp) (.im .nil)) (R_law_fraction_of (law__e12 script s).2 script (h.2.2.2 hc18).2.1 (rfl : (law_fraction (law__e12 script s).2 script) = (law__e13 script s)))) (Nat.le_of_ble_eq_true rfl) (nm rfl)) rfl) (ec_cons (EvS.to (env2 := [.im ((encL Val.int) script), .ow ((encL Val.int) (law__e14 script s).2), .im (Val.int x), .im (Val.int (((law__e4 script s).1 % ((10 : Int) ^ (29 : Nat))) * ((1 : Int) - ((2 : Int) * (law__e5 script s).1)))), .im (Val.int (((1 : Int) + ((law__e6 script s).1 % ((10 : Int) ^ (29 : Nat)))) * ((1 : Int) - ((2 : Int) * (law__e7 script s).1)))), .im ((enc2 Val.int Val.int) (law__e12 script s).1), .im ((enc2 Val.int Val.int) (law__e13 script s).1), .im ((enc2 Val.int Val.int) (law__e14 script s).1)]) (es_setV (ps_set (i := 7) nd_ rfl (by first | exact .inl rfl | exact .inr rfl) (pe_wp _)) (ev_call (C_law_fraction.pe hr_ (by decide) rfl) (ea_cons (ev_o 1 rfl (pv 1)) (ea_cons (ev_v 0 rfl (pv 0)) ea_nil)) (.mu rfl (by simp) (.im .nil)) (R_law_fraction_of (law__e13 script s).2 script (h.2.2.2 hc18).2.2.1 (rfl : (law_fraction (law__e13 script s).2 script) = (law__e14 script s)))) (Nat.le_of_ble_eq_true rfl) (nm rfl)) rfl) (ec_ifV (outLO (fun so2 : (List Int) => [.im ((encL Val.int) script), .ow ((encL Val.int) so2), .no, .no, .no, .no, .no, .no]) law__o) (t1 := LO.rt false) (t0 := LO.nx (law__e14 script s).2) (EvW.t (ew_or (et_not (et_val (ev_call (C_law_two_right.pe hr_ (by decide) rfl) (ea_cons (ev_v 5 rfl (pv 5)) (ea_cons (ev_v 6 rfl (pv 6)) ea_nil)) (.im (.im .nil)) (R_law_two_right_of (law__e12 script s).1 (law__e13 script s).1 (h.2.2.2 hc18).2.2.2.1 (rfl : (law_two_right (law__e12 script s).1 (law__e13 script s).1) = (law__e15 script s)))))) (fun hb22 => (ew_or (et_not (et_val (ev_call (C_law_two_right.pe hr_ (by decide) rfl) (ea_cons (ev_v 6 rfl (pv 6)) (ea_cons (ev_v 7 rfl (pv 7)) ea_nil)) (.im (.im .nil)) (R_law_two_right_of (law__e13 script s).1 (law__e14 script s).1 ((h.2.2.2 hc18).2.2.2.2.1 hb22) (rfl : (law_two_right (law__e13 script s).1 (law__e14 script s).1) = (law__e16 script s)))))) (fun hb23 => (ew_or1 (et_not (et_val (ev_call (C_law_three_right.pe hr_ (by decide) rfl) (ea_cons (ev_v 5 rfl (pv 5)) (ea_cons (ev_v 6 rfl (pv 6)) (ea_cons (ev_v 7 rfl (pv 7)) ea_nil))) (.im (.im (.im .nil))) (R_law_three_right_of (law__e12 script s).1 (law__e13 script s).1 (law__e14 script s).1 ((h.2.2.2 hc18).2.2.2.2.2 hb22 hb23) (rfl : (law_three_right (law__e12 script s).1 (law__e13 script s).1 (law__e14 script s).1) = (law__e17 script s)))))))))))) (fun hc21 => (EvC.wkR (ec_last (es_ret ev_bl) rfl) (.n (.n (.n (.n (.n (.n (.n (.n .nil)))))))))) (fun hc21 => (ec_nil (ec_nil (EvC.wkN ec_end (.s (.s (.n (.n (.n (.n (.n (.n .nil)))))))))))))))))))))⟩
    have main_ : EvC (cxOf CX0 P w K mg base ["script", "draws", "k", "n", "d", "one", "other", "third"] "law" (defScope s_law_) f cdv_ A_ outer_ sh_ H_ E_).nox [] [defBody s_law_] [.im ((encL Val.int) script), .no, .no, .no, .no, .no, .no, .no] (law__o (law_ script)) := (show EvC _ _ _ _ (law__o ((afterL (loopL (law__f3 script) (law__e1 script) (irange 0 (4 : Int))) (fun so2 => (if ((!(decide (law__e25 = ((3 : Int), (2 : Int))))) || ((!(decide (law__e26 = ((-(3 : Int)), (2 : Int))))) || ((!(decide (law__e27 = ((0 : Int), (1 : Int))))) || (!(decide (law__e28 = ((1 : Int), (2 : Int)))))))) = true then false else (if (!(decide (law__e29 = ((-(2 : Int)), (3 : Int))))) = true then false else ((decide (law__e30 = ((0 : Int), (1 : Int)))) && ((decide (law__e31 = true)) && (decide (law__e32 = ((1 : Int), (1 : Int))))))))) (fun r33 => r33)))) from (ec_cons (EvS.to (env2 := [.im ((encL Val.int) script), .ow ((encL Val.int) (law__e1 script)), .no, .no, .no, .no, .no, .no]) (es_setO (ps_set (i := 1) nd_ rfl (by first | exact .inl rfl | exact .inr rfl) (pe_wp _)) (en_call (C_law_draws.pe hr_ (by decide) rfl) (ea_cons (ev_v 0 rfl (pv 0)) (ea_cons ev_int ea_nil)) (.im (.im .nil)) (R_law_draws_of script (320 : Int) h.1 (rfl : (law_draws script (320 : Int)) = (law__e1 script)))) (Nat.le_of_ble_eq_true rfl) (nm rfl)) rfl) (ec_loop law__o (k := fun so2 => (if ((!(decide (law__e25 = ((3 : Int), (2 : Int))))) || ((!(decide (law__e26 = ((-(3 : Int)), (2 : Int))))) || ((!(decide (law__e27 = ((0 : Int), (1 : Int))))) || (!(decide (law__e28 = ((1 : Int), (2 : Int)))))))) = true then false else (if (!(decide (law__e29 = ((-(2 : Int)), (3 : Int))))) = true then false else ((decide (law__e30 = ((0 : Int), (1 : Int)))) && ((decide (law__e31 = true)) && (decide (law__e32 = ((1 : Int), (1 : Int))))))))) (r := (fun r33 => r33)) (es_forL1 (envS := (fun so2 : (List Int) => [.im ((encL Val.int) script), .ow ((encL Val.int) so2), .no, .no, .no, .no, .no, .no])) (outR := law__o) (fun _ => isRt) (law__f3 script) (law__f3_ok script) (4 : Int) (law__e1 script) rfl PassesOwn.never m_range (Ev.wk ev_int (.s (.s (.n (.n (.n (.n (.n (.n .nil))))))))) h.2.1.1 h.2.1.2 (fun st_ xt_ hx_ ho_ => law__f3_b script st_ xt_ ho_)) (fun so2 hs34 => EvC.ren (env1 := [.im ((encL Val.int) script), .ow ((encL Val.int) so2), .no, .no, .no, .no, .no, .no]) (ec_ifV law__o (t1 := false) (t0 := (if (!(decide (law__e29 = ((-(2 : Int)), (3 : Int))))) = true then false else ((decide (law__e30 = ((0 : Int), (1 : Int)))) && ((decide (law__e31 = true)) && (decide (law__e32 = ((1 : Int), (1 : Int)))))))) (EvW.t (ew_or (et_not (et_val (ev_call ((C_law_same 1).pe hr_ (by decide) rfl) (ea_cons (ev_call (C_fraction.pe hr_ (by decide) rfl) (ea_cons (ev_neg ev_int) (ea_cons (ev_neg ev_int) ea_nil)) (.im (.im .nil)) (R_fraction_of (-(6 : Int)) (-(4 : Int)) (h.2.2 so2 hs34).1.1 (rfl : (fraction (-(6 : Int)) (-(4 : Int))) = law__e25))) (ea_cons (ev_tup (xs := [Val.int (3 : Int), Val.int (2 : Int)]) (Nat.le_of_ble_eq_true rfl) (ea_cons ev_int (ea_cons ev_int ea_nil))) ea_nil)) (.im (.im .nil)) ⟨_, _, _, (ls_2 ls_int ls_int) law__e25 ((3 : Int), (2 : Int)), rfl, rfl, rfl⟩))) (fun hb36 => (ew_or (et_not (et_val (ev_call ((C_law_same 1).pe hr_ (by decide) rfl) (ea_cons (ev_call (C_fraction.pe hr_ (by decide) rfl) (ea_cons ev_int (ea_cons (ev_neg ev_int) ea_nil)) (.im (.im .nil)) (R_fraction_of (6 : Int) (-(4 : Int)) ((h.2.2 so2 hs34).1.2.1 hb36) (rfl : (fraction (6 : Int) (-(4 : Int))) = law__e26))) (ea_cons (ev_tup (xs := [Val.int (-(3 : Int)), Val.int (2 : Int)]) (Nat.le_of_ble_eq_true rfl) (ea_cons (ev_neg ev_int) (ea_cons ev_int ea_nil))) ea_nil)) (.im (.im .nil)) ⟨_, _, _, (ls_2 ls_int ls_int) law__e26 ((-(3 : Int)), (2 : Int)), rfl, rfl, rfl⟩))) (fun hb37 => (ew_or (et_not (et_val (ev_call ((C_law_same 1).pe hr_ (by decide) rfl) (ea_cons (ev_call (C_fraction.pe hr_ (by decide) rfl) (ea_cons ev_int (ea_cons (ev_neg ev_int) ea_nil)) (.im (.im .nil)) (R_fraction_of (0 : Int) (-(7 : Int)) ((h.2.2 so2 hs34).1.2.2.1 hb36 hb37) (rfl : (fraction (0 : Int) (-(7 : Int))) = law__e27))) (ea_cons (ev_tup (xs := [Val.int (0 : Int), Val.int (1 : Int)]) (Nat.le_of_ble_eq_true rfl) (ea_cons ev_int (ea_cons ev_int ea_nil))) ea_nil)) (.im (.im .nil)) ⟨_, _, _, (ls_2 ls_int ls_int) law__e27 ((0 : Int), (1 : Int)), rfl, rfl, rfl⟩))) (fun hb38 => (ew_or1 (et_not (et_val (ev_call ((C_law_same 1).pe hr_ (by decide) rfl) (ea_cons (ev_call (C_plus_of.pe hr_ (by decide) rfl) (ea_cons (ev_tup (xs := [Val.int (1 : Int), Val.int (6 : Int)]) (Nat.le_of_ble_eq_true rfl) (ea_cons ev_int (ea_cons ev_int ea_nil))) (ea_cons (ev_tup (xs := [Val.int (1 : Int), Val.int (3 : Int)]) (Nat.le_of_ble_eq_true rfl) (ea_cons ev_int (ea_cons ev_int ea_nil))) ea_nil)) (.im (.im .nil)) (R_plus_of_of ((1 : Int), (6 : Int)) ((1 : Int), (3 : Int)) ((h.2.2 so2 hs34).1.2.2.2 hb36 hb37 hb38) (rfl : (plus_of ((1 : Int), (6 : Int)) ((1 : Int), (3 : Int))) = law__e28))) (ea_cons (ev_tup (xs := [Val.int (1 : Int), Val.int (2 : Int)]) (Nat.le_of_ble_eq_true rfl) (ea_cons ev_int (ea_cons ev_int ea_nil))) ea_nil)) (.im (.im .nil)) ⟨_, _, _, (ls_2 ls_int ls_int) law__e28 ((1 : Int), (2 : Int)), rfl, rfl, rfl⟩))))))))))) (fun hc35 => (EvC.wkR (ec_last (es_ret ev_bl) rfl) (.n (.n (.n (.n (.n (.n (.n (.n .nil)))))))))) (fun hc35 => (ec_nil (ec_ifV law__o (t1 := false) (t0 := ((decide (law__e30 = ((0 : Int), (1 : Int)))) && ((decide (law__e31 = true)) && (decide (law__e32 = ((1 : Int), (1 : Int))))))) (et_not (et_val (ev_call ((C_law_same 1).pe hr_ (by decide) rfl) (ea_cons (ev_call (C_divided_by.pe hr_ (by decide) rfl) (ea_cons (ev_tup (xs := [Val.int (1 : Int), Val.int (2 : Int)]) (Nat.le_of_ble_eq_true rfl) (ea_cons ev_int (ea_cons ev_int ea_nil))) (ea_cons (ev_tup (xs := [Val.int (-(3 : Int)), Val.int (4 : Int)]) (Nat.le_of_ble_eq_true rfl) (ea_cons (ev_neg ev_int) (ea_cons ev_int ea_nil))) ea_nil)) (.im (.im .nil)) (R_divided_by_of ((1 : Int), (2 : Int)) ((-(3 : Int)), (4 : Int)) ((h.2.2 so2 hs34).2 hc35).1 (rfl : (divided_by ((1 : Int), (2 : Int)) ((-(3 : Int)), (4 : Int))) = law__e29))) (ea_cons (ev_tup (xs := [Val.int (-(2 : Int)), Val.int (3 : Int)]) (Nat.le_of_ble_eq_true rfl) (ea_cons (ev_neg ev_int) (ea_cons ev_int ea_nil))) ea_nil)) (.im (.im .nil)) ⟨_, _, _, (ls_2 ls_int ls_int) law__e29 ((-(2 : Int)), (3 : Int)), rfl, rfl, rfl⟩))) (fun hc40 => (EvC.wkR (ec_last (es_ret ev_bl) rfl) (.n (.n (.n (.n (.n (.n (.n (.n .nil)))))))))) (fun hc40 => (ec_nil (EvC.wkR (ec_last (es_ret (ev_and (ev_call ((C_law_same 1).pe hr_ (by decide) rfl) (ea_cons (ev_call (C_minus_of.pe hr_ (by decide) rfl) (ea_cons (ev_tup (xs := [Val.int (1 : Int), Val.int (2 : Int)]) (Nat.le_of_ble_eq_true rfl) (ea_cons ev_int (ea_cons ev_int ea_nil))) (ea_cons (ev_tup (xs := [Val.int (1 : Int), Val.int (2 : Int)]) (Nat.le_of_ble_eq_true rfl) (ea_cons ev_int (ea_cons ev_int ea_nil))) ea_nil)) (.im (.im .nil)) (R_minus_of_of ((1 : Int), (2 : Int)) ((1 : Int), (2 : Int)) (((h.2.2 so2 hs34).2 hc35).2 hc40).1 (rfl : (minus_of ((1 : Int), (2 : Int)) ((1 : Int), (2 : Int))) = law__e30))) (ea_cons (ev_tup (xs := [Val.int (0 : Int), Val.int (1 : Int)]) (Nat.le_of_ble_eq_true rfl) (ea_cons ev_int (ea_cons ev_int ea_nil))) ea_nil)) (.im (.im .nil)) ⟨_, _, _, (ls_2 ls_int ls_int) law__e30 ((0 : Int), (1 : Int)), rfl, rfl, rfl⟩) (fun hb41 => (ev_and (ev_call ((C_law_same 0).pe hr_ (by decide) rfl) (ea_cons (ev_call (C_is_less.pe hr_ (by decide) rfl) (ea_cons (ev_tup (xs := [Val.int (-(1 : Int)), Val.int (2 : Int)]) (Nat.le_of_ble_eq_true rfl) (ea_cons (ev_neg ev_int) (ea_cons ev_int ea_nil))) (ea_cons (ev_tup (xs := [Val.int (-(1 : Int)), Val.int (3 : Int)]) (Nat.le_of_ble_eq_true rfl) (ea_cons (ev_neg ev_int) (ea_cons ev_int ea_nil))) ea_nil)) (.im (.im .nil)) (R_is_less_of ((-(1 : Int)), (2 : Int)) ((-(1 : Int)), (3 : Int)) ((((h.2.2 so2 hs34).2 hc35).2 hc40).2.1 hb41) (rfl : (is_less ((-(1 : Int)), (2 : Int)) ((-(1 : Int)), (3 : Int))) = law__e31))) (ea_cons ev_bl ea_nil)) (.im (.im .nil)) ⟨_, _, _, ls_bl law__e31 true, rfl, rfl, rfl⟩) (fun hb42 => (ev_bo1 (ev_call ((C_law_same 1).pe hr_ (by decide) rfl) (ea_cons (ev_call (C_times_of.pe hr_ (by decide) rfl) (ea_cons (ev_tup (xs := [Val.int (2 : Int), Val.int (3 : Int)]) (Nat.le_of_ble_eq_true rfl) (ea_cons ev_int (ea_cons ev_int ea_nil))) (ea_cons (ev_tup (xs := [Val.int (3 : Int), Val.int (2 : Int)]) (Nat.le_of_ble_eq_true rfl) (ea_cons ev_int (ea_cons ev_int ea_nil))) ea_nil)) (.im (.im .nil)) (R_times_of_of ((2 : Int), (3 : Int)) ((3 : Int), (2 : Int)) ((((h.2.2 so2 hs34).2 hc35).2 hc40).2.2 hb41 hb42) (rfl : (times_of ((2 : Int), (3 : Int)) ((3 : Int), (2 : Int))) = law__e32))) (ea_cons (ev_tup (xs := [Val.int (1 : Int), Val.int (1 : Int)]) (Nat.le_of_ble_eq_true rfl) (ea_cons ev_int (ea_cons ev_int ea_nil))) ea_nil)) (.im (.im .nil)) ⟨_, _, _, (ls_2 ls_int ls_int) law__e32 ((1 : Int), (1 : Int)), rfl, rfl, rfl⟩))))))) rfl) (.n (.n (.n (.n (.n (.n (.n (.n .nil))))))))))))))) rfl) (fun _ => ⟨rfl, isRt⟩))))
    exact ⟨_, EvC.ss main_, law__oo (law_ script) script⟩
end
end K20

namespace K20
open PySem PySem.Spec PyProof.Rows L2 VL
/-! ### what all laws share: draws -/
theorem foldOk_by {α S : Type} {f : S → α → S} {ok : S → α → Prop} (n : Nat) (I : Nat → S → Prop) (h : ∀ i s x, i < n → I i s → ok s x ∧ I (i + 1) (f s x)) : ∀ (l : List α) (i : Nat) (s : S), I i s → i + l.length ≤ n → foldOk f ok s l
  | [], _, _, _, _ => trivial
  | x :: xs, i, s, hi, hn => by
    rw [List.length_cons] at hn
    have q := h i s x (by omega) hi
    exact ⟨q.1, foldOk_by n I h xs (i + 1) _ q.2 (by omega)⟩
theorem take_ok (d : List Int) {m : Int} (hm : 0 < m) : law_take_ok d m := fun h => ⟨by
  intro e
  subst e
  simp at h, hm⟩
theorem take_ge (d : List Int) {m : Int} (hm : 0 < m) : 0 ≤ (law_take d m).1 := by
  unfold law_take
  split
  · exact Int.le_refl 0
  · exact Int.emod_nonneg _ (by omega)
theorem take_lt (d : List Int) {m : Int} (hm : 0 < m) : (law_take d m).1 < m := by
  unfold law_take
  split
  · exact hm
  · exact Int.emod_lt_of_pos _ hm
theorem ixOk_mod {α : Type} {l : List α} (h : 0 < (l.length : Int)) (x : Int) : IxOk l (x % (l.length : Int)) := by
  have h1 := Int.emod_nonneg x (show (l.length : Int) ≠ 0 by omega)
  have h2 := Int.emod_lt_of_pos x h
  unfold IxOk
  omega
theorem mulOk_small {i j : Int} (h1 : 0 ≤ i) (h2 : i < 2147483647) : MulOk i j := .inl (.inl ⟨by omega, by omega⟩)
theorem setI_len {α : Type} (l : List α) (i : Int) (x : α) : (setI l i x).length = l.length := by
  unfold setI
  split
  · exact List.length_set
  · rfl
theorem draws_ok (script : List Int) {many : Int} (hm : 0 ≤ many) (hm2 : many ≤ 10000) (hs : script.length ≤ 63) : law_draws_ok script many := by
  refine ⟨fun _ => by rw [List.length_map]; unfold sizeLine; omega, ⟨by omega, by omega⟩, ?_⟩
  have hc : 0 < ((law_draws_e3 script).length : Int) := by
    unfold law_draws_e3
    split
    · rw [List.length_append]; simp
    · rename_i h
      rw [List.length_map] at h ⊢
      simp at h
      have : script.length ≠ 0 := fun z => h (List.length_eq_zero_iff.mp z)
      omega
  generalize law_draws_e3 script = cells at hc
  refine foldOk_by 10000 (fun i s => s.1.length = cells.length ∧ s.2.length = i) (fun i s x hi hI => ?_) _ 0 _ ⟨rfl, rfl⟩ (by rw [irange_len]; omega)
  obtain ⟨h1, h2⟩ := hI
  have a := ixOk_mod (l := cells) hc x
  have b : IxOk s.1 (x % (cells.length : Int)) := by
    unfold IxOk at a ⊢
    omega
  have z : s.2.length < sizeLine := by unfold sizeLine; omega
  refine ⟨⟨hc, ⟨a, fun _ => b⟩, fun _ => ⟨⟨b, z⟩, b, b⟩, fun _ => ⟨a, ?_, z⟩⟩, ?_⟩
  · exact mulOk_small (Int.emod_nonneg _ (by decide)) (Int.emod_lt_of_pos _ (by decide))
  · unfold law_draws_f5 law_draws_e7
    split
    · exact ⟨by rw [setI_len, h1], by simp [h2]⟩
    · exact ⟨h1, by simp [h2]⟩
/-! ### k20: gcds -/
theorem gcd_step (a b : Nat) : (Int.gcd (b : Int) ((a : Int) % (b : Int))) = Int.gcd (a : Int) (b : Int) := by
  have e : ((a : Int) % (b : Int)) = ((a % b : Nat) : Int) := by omega
  rw [e]
  show Nat.gcd b (a % b) = Nat.gcd a b
  rw [Nat.gcd_comm b, ← Nat.gcd_rec, Nat.gcd_comm]
theorem gcd_loop : ∀ (n : Nat) (a b : Nat), b < n → (whileS (fun s : Int × Int => decide ((0 : Int) < s.2)) (fun s => (s.2, s.1 % s.2)) n ((a : Int), (b : Int))).1 = (Int.gcd a b : Int)
  | 0, a, b, h => absurd h (Nat.not_lt_zero _)
  | n + 1, a, b, h => by
    unfold whileS
    by_cases hb : 0 < b
    · have hb' : (0 : Int) < (b : Int) := by omega
      rw [if_pos (by simpa using hb)]
      have e : ((a : Int) % (b : Int)) = ((a % b : Nat) : Int) := by omega
      show (whileS _ _ n ((b : Int), ((a : Int) % (b : Int)))).1 = _
      rw [e, gcd_loop n b (a % b) (by have := Nat.mod_lt a hb; omega), ← e, gcd_step]
    · have e : b = 0 := by omega
      subst e
      rw [if_neg (by simp)]
      show (a : Int) = _
      simp
theorem gcd_loopOk (n : Nat) (a b : Int) (hb : 0 ≤ b) (h : b.natAbs < n) : whileSOk (fun s : Int × Int => decide ((0 : Int) < s.2)) (fun s => (s.2, s.1 % s.2)) (fun _ => True) (fun s => 0 < s.2) n (a, b) :=
  whileSOk_by (fun s => 0 ≤ s.2) (fun s => s.2.natAbs) (fun s hs => ⟨trivial, fun hc => by
    have h0 : (0 : Int) < s.2 := by simpa using hc
    have h1 := Int.emod_nonneg s.1 (show s.2 ≠ 0 by omega)
    have h2 := Int.emod_lt_of_pos s.1 h0
    exact ⟨h0, h1, by show (s.1 % s.2).natAbs < s.2.natAbs; omega⟩⟩) n (a, b) hb h
theorem divisor_ok (n d : Int) : divisor_of_ok n d := gcd_loopOk _ _ _ (Int.natCast_nonneg _) (Nat.lt_succ_self _)
theorem divisor_eq (n d : Int) : divisor_of n d = (Int.gcd n d : Int) := by
  have q := gcd_loop (((d.natAbs : Int)).natAbs + 1) n.natAbs d.natAbs (by simp)
  exact q
theorem law_divisor_is (n d : Int) (hd : 0 ≤ d) : law_divisor_ok (n.natAbs : Int) d ∧ law_divisor (n.natAbs : Int) d = (Int.gcd n d : Int) := by
  refine ⟨gcd_loopOk _ _ _ hd (Nat.lt_succ_self _), ?_⟩
  have q := gcd_loop (d.natAbs + 1) n.natAbs d.natAbs (by simp)
  have e : ((d.natAbs : Nat) : Int) = d := by omega
  rw [e] at q
  have e2 : (Int.gcd (n.natAbs : Int) d : Int) = (Int.gcd n d : Int) := by
    rw [Int.gcd_eq_natAbs_gcd_natAbs, Int.gcd_eq_natAbs_gcd_natAbs]
    simp
  rw [e2] at q
  exact q
/-! ### least forms -/
structure Nf (q : Int × Int) : Prop where
  pos : 0 < q.2
  co : Int.gcd q.1 q.2 = 1
/-- q is n / d in its least form -/
structure Is (q : Int × Int) (n d : Int) : Prop where
  nf : Nf q
  eq : q.1 * d = n * q.2
  b1 : q.1.natAbs ≤ n.natAbs
  b2 : q.2.natAbs ≤ d.natAbs
theorem gcd_pos {n d : Int} (hd : d ≠ 0) : 0 < (Int.gcd n d : Int) := by
  have := Int.gcd_pos_of_ne_zero_right n hd
  omega
theorem is_pos {n d : Int} (hd : 0 < d) : Is (n / (Int.gcd n d : Int), d / (Int.gcd n d : Int)) n d := by
  have hg := gcd_pos (n := n) (d := d) (by omega)
  obtain ⟨a, ha⟩ := Int.gcd_dvd_left n d
  obtain ⟨b, hb⟩ := Int.gcd_dvd_right n d
  have hco := Int.gcd_ediv_gcd_ediv_gcd (i := n) (j := d) (by omega)
  generalize hgg : (Int.gcd n d : Int) = g at hg ha hb hco
  have e1 : n / g = a := by rw [ha]; exact Int.mul_ediv_cancel_left a (by omega)
  have e2 : d / g = b := by rw [hb]; exact Int.mul_ediv_cancel_left b (by omega)
  rw [e1, e2] at hco ⊢
  have hb0 : 0 < b := by
    rw [hb] at hd
    rw [Int.mul_comm] at hd
    exact Int.pos_of_mul_pos_left hd hg
  refine ⟨⟨hb0, hco⟩, ?_, ?_, ?_⟩
  · show a * d = n * b
    rw [ha, hb]; grind
  · show a.natAbs ≤ n.natAbs
    rw [ha, Int.natAbs_mul]
    exact Nat.le_mul_of_pos_left _ (by omega)
  · show b.natAbs ≤ d.natAbs
    rw [hb, Int.natAbs_mul]
    exact Nat.le_mul_of_pos_left _ (by omega)
theorem Is.neg {q : Int × Int} {n d : Int} (h : Is q (-n) (-d)) : Is q n d := ⟨h.nf, by have := h.eq; grind, by have := h.b1; omega, by have := h.b2; omega⟩
theorem ratio_is (n : Int) {d : Int} (hd : d ≠ 0) : Is (law_ratio n d) n d := by
  unfold law_ratio law_ratio_e2
  by_cases h : d < 0
  · rw [if_pos (by simpa using h)]
    show Is ((-n) / law_divisor ((-n).natAbs : Int) (-d), (-d) / law_divisor ((-n).natAbs : Int) (-d)) n d
    rw [(law_divisor_is (-n) (-d) (by omega)).2]
    exact (is_pos (by omega)).neg
  · rw [if_neg (by simpa using h)]
    show Is (n / law_divisor (n.natAbs : Int) d, d / law_divisor (n.natAbs : Int) d) n d
    rw [(law_divisor_is n d (by omega)).2]
    exact is_pos (by omega)
theorem log2_lt {n k : Nat} (h : n < 2 ^ k) (hk : 0 < k) : n.log2 < k := by
  by_cases h0 : n = 0
  · subst h0; simpa using hk
  · exact (Nat.log2_lt h0).mpr h
theorem gcd_le {n d : Int} (hd : d ≠ 0) : (Int.gcd n d) ≤ d.natAbs := Int.gcd_le_natAbs_right n hd
theorem divOk {n d : Int} (hd : d ≠ 0) (hb : d.natAbs < 2 ^ 9000) : DivOk (Int.gcd n d : Int) :=
  ⟨gcd_pos hd, log2_lt (Nat.lt_of_le_of_lt (by have := gcd_le (n := n) hd; simpa using this) hb) (by decide)⟩
theorem ratio_ok (n : Int) {d : Int} (hd : d ≠ 0) (hb : d.natAbs < 2 ^ 9000) : law_ratio_ok n d := by
  unfold law_ratio_ok law_ratio_e2
  by_cases h : d < 0
  · rw [if_pos (by simpa using h)]
    have q := law_divisor_is (-n) (-d) (by omega)
    have k : DivOk (law_divisor ((-n).natAbs : Int) (-d)) := by
      rw [q.2]; exact divOk (by omega) (by rw [Int.natAbs_neg]; exact hb)
    exact ⟨q.1, k, k⟩
  · rw [if_neg (by simpa using h)]
    have q := law_divisor_is n d (by omega)
    have k : DivOk (law_divisor (n.natAbs : Int) d) := by
      rw [q.2]; exact divOk (by omega) hb
    exact ⟨q.1, k, k⟩
theorem fdiv_neg {n g : Int} (hg : 0 < g) (h : g ∣ n) : Int.fdiv n (-g) = (-n) / g := by
  obtain ⟨a, rfl⟩ := h
  have e : g * a = (-g) * (-a) := by grind
  have e3 : -(g * a) = g * (-a) := by grind
  rw [e3, Int.mul_ediv_cancel_left _ (by omega), e]
  exact Int.mul_fdiv_cancel_left (-a) (by omega)
theorem fraction_eq (n : Int) {d : Int} (hd : d ≠ 0) : fraction n d = law_ratio n d := by
  have hg := gcd_pos (n := n) hd
  unfold fraction law_ratio fraction_e1 law_ratio_e2
  rw [divisor_eq]
  by_cases h : d < 0
  · rw [if_pos (by simpa using h), if_pos (by simpa using h)]
    show (Int.fdiv n (-(Int.gcd n d : Int)), Int.fdiv d (-(Int.gcd n d : Int))) = ((-n) / law_divisor ((-n).natAbs : Int) (-d), (-d) / law_divisor ((-n).natAbs : Int) (-d))
    rw [(law_divisor_is (-n) (-d) (by omega)).2, Int.neg_gcd, Int.gcd_neg, fdiv_neg hg (Int.gcd_dvd_left n d), fdiv_neg hg (Int.gcd_dvd_right n d)]
  · rw [if_neg (by simpa using h), if_neg (by simpa using h)]
    show (Int.fdiv n (Int.gcd n d : Int), Int.fdiv d (Int.gcd n d : Int)) = (n / law_divisor (n.natAbs : Int) d, d / law_divisor (n.natAbs : Int) d)
    rw [(law_divisor_is n d (by omega)).2, Int.fdiv_eq_ediv_of_nonneg _ (by omega), Int.fdiv_eq_ediv_of_nonneg _ (by omega)]
theorem fraction_is (n : Int) {d : Int} (hd : d ≠ 0) : Is (fraction n d) n d := fraction_eq n hd ▸ ratio_is n hd
theorem frac_ok (n : Int) {d : Int} (hd : d ≠ 0) (hb : d.natAbs < 2 ^ 9000) : fraction_ok n d := by
  have hg := gcd_pos (n := n) hd
  have k : FDivOk (if (decide (d < (0 : Int))) = true then (-(fraction_e1 n d)) else (fraction_e1 n d)) := by
    unfold fraction_e1
    rw [divisor_eq]
    have l := (divOk (n := n) hd hb).2
    split
    · exact ⟨by omega, by rw [Int.natAbs_neg]; exact l⟩
    · exact ⟨by omega, l⟩
  exact ⟨divisor_ok n d, k, k⟩
theorem Nf.uniq {p q : Int × Int} (hp : Nf p) (hq : Nf q) (h : p.1 * q.2 = q.1 * p.2) : p = q := by
  have key : ∀ {a b c e : Int}, Int.gcd a b = 1 → a * e = c * b → b ∣ e := fun {a b c e} g h => by
    have d1 : b ∣ a * e := ⟨c, by rw [h]; grind⟩
    have g' : Int.gcd b a = 1 := by rw [Int.gcd_comm]; exact g
    have := (Int.dvd_gcd_mul_iff_dvd_mul (k := b) (n := a) (m := e)).mpr d1
    rw [g'] at this
    simpa using this
  have d1 := key hp.co h
  have d2 := key hq.co h.symm
  have e2 : p.2 = q.2 := Int.dvd_antisymm (by have := hp.pos; omega) (by have := hq.pos; omega) d1 d2
  have e1 : p.1 = q.1 := by
    rw [e2] at h
    exact Int.eq_of_mul_eq_mul_right (by have := hq.pos; omega) h
  obtain ⟨a, b⟩ := p
  obtain ⟨c, d⟩ := q
  cases e1; cases e2; rfl
/-- two of the same ratio -/
theorem Is.uniq {p q : Int × Int} {n d m e : Int} (hp : Is p n d) (hq : Is q m e) (hd : d ≠ 0) (he : e ≠ 0) (h : n * e = m * d) : p = q := by
  refine hp.nf.uniq hq.nf ?_
  have h1 := hp.eq
  have h2 := hq.eq
  -- p1 d = n p2, q1 e = m q2, n e = m d
  have : (p.1 * q.2) * (d * e) = (q.1 * p.2) * (d * e) := by grind
  exact Int.eq_of_mul_eq_mul_right (Int.mul_ne_zero hd he) this
theorem Nf.self {p : Int × Int} (h : Nf p) : Is p p.1 p.2 := ⟨h, rfl, Nat.le_refl _, Nat.le_refl _⟩

/-! ### sizes -/
structure Bd (k : Nat) (q : Int × Int) : Prop where
  b1 : q.1.natAbs < 2 ^ k
  b2 : q.2.natAbs < 2 ^ k
theorem pow_le {a b : Nat} (h : a ≤ b) : 2 ^ a ≤ 2 ^ b := Nat.pow_le_pow_right (by decide) h
theorem Bd.mono {j k : Nat} {q : Int × Int} (h : Bd j q) (hk : j ≤ k) : Bd k q := ⟨Nat.lt_of_lt_of_le h.b1 (pow_le hk), Nat.lt_of_lt_of_le h.b2 (pow_le hk)⟩
theorem mul_lt {x y : Int} {a b : Nat} (hx : x.natAbs < 2 ^ a) (hy : y.natAbs < 2 ^ b) : (x * y).natAbs < 2 ^ (a + b) := by
  rw [Int.natAbs_mul, Nat.pow_add]
  exact Nat.mul_lt_mul'' hx hy
theorem mulOk {x y : Int} {a b : Nat} (hx : x.natAbs < 2 ^ a) (hy : y.natAbs < 2 ^ b) (ha : 0 < a) (hb : 0 < b) (h : a + b < 1000000) : MulOk x y := .inr (by
  have h1 := log2_lt hx ha
  have h2 := log2_lt hy hb
  show x.natAbs.log2 + y.natAbs.log2 < 1000000
  omega)
theorem add_lt {x y : Int} {a : Nat} (hx : x.natAbs < 2 ^ a) (hy : y.natAbs < 2 ^ a) : (x + y).natAbs < 2 ^ (a + 1) := by
  rw [Nat.pow_succ]; omega
theorem sub_lt {x y : Int} {a : Nat} (hx : x.natAbs < 2 ^ a) (hy : y.natAbs < 2 ^ a) : (x - y).natAbs < 2 ^ (a + 1) := by
  rw [Nat.pow_succ]; omega
theorem lt_up {x : Int} {a b : Nat} (hx : x.natAbs < 2 ^ a) (h : a ≤ b) : x.natAbs < 2 ^ b := Nat.lt_of_lt_of_le hx (pow_le h)
theorem Is.bd {q : Int × Int} {n d : Int} {k : Nat} (h : Is q n d) (h1 : n.natAbs < 2 ^ k) (h2 : d.natAbs < 2 ^ k) : Bd k q := ⟨Nat.lt_of_le_of_lt h.b1 h1, Nat.lt_of_le_of_lt h.b2 h2⟩
section
variable {p q : Int × Int} {k : Nat}
theorem plus_is (hp : Nf p) (hq : Nf q) : Is (plus_of p q) (p.1 * q.2 + q.1 * p.2) (p.2 * q.2) := fraction_is _ (Int.mul_ne_zero (by have := hp.pos; omega) (by have := hq.pos; omega))
theorem minus_is (hp : Nf p) (hq : Nf q) : Is (minus_of p q) (p.1 * q.2 - q.1 * p.2) (p.2 * q.2) := fraction_is _ (Int.mul_ne_zero (by have := hp.pos; omega) (by have := hq.pos; omega))
theorem times_is (hp : Nf p) (hq : Nf q) : Is (times_of p q) (p.1 * q.1) (p.2 * q.2) := fraction_is _ (Int.mul_ne_zero (by have := hp.pos; omega) (by have := hq.pos; omega))
theorem div_is (hp : Nf p) (h0 : q.1 ≠ 0) : Is (divided_by p q) (p.1 * q.2) (p.2 * q.1) := fraction_is _ (Int.mul_ne_zero (by have := hp.pos; omega) h0)
variable (hk : k ≤ 1000) (hk0 : 0 < k) (bp : Bd k p) (bq : Bd k q)
include hk bp bq
theorem plus_bd (hp : Nf p) (hq : Nf q) : Bd (k + k + 1) (plus_of p q) := (plus_is hp hq).bd (add_lt (mul_lt bp.b1 bq.b2) (mul_lt bq.b1 bp.b2)) (lt_up (mul_lt bp.b2 bq.b2) (by omega))
theorem minus_bd (hp : Nf p) (hq : Nf q) : Bd (k + k + 1) (minus_of p q) := (minus_is hp hq).bd (sub_lt (mul_lt bp.b1 bq.b2) (mul_lt bq.b1 bp.b2)) (lt_up (mul_lt bp.b2 bq.b2) (by omega))
theorem times_bd (hp : Nf p) (hq : Nf q) : Bd (k + k + 1) (times_of p q) := (times_is hp hq).bd (lt_up (mul_lt bp.b1 bq.b1) (by omega)) (lt_up (mul_lt bp.b2 bq.b2) (by omega))
include hk0
theorem less_ok : is_less_ok p q := ⟨mulOk bp.b1 bq.b2 hk0 hk0 (by omega), mulOk bq.b1 bp.b2 hk0 hk0 (by omega)⟩
theorem plus_ok2 (hp : Nf p) (hq : Nf q) : plus_of_ok p q ∧ (MulOk p.1 q.2 ∧ MulOk q.1 p.2) ∧ MulOk p.2 q.2 ∧ law_ratio_ok (p.1 * q.2 + q.1 * p.2) (p.2 * q.2) := by
  have m1 := mulOk bp.b1 bq.b2 hk0 hk0 (by omega)
  have m2 := mulOk bq.b1 bp.b2 hk0 hk0 (by omega)
  have m3 := mulOk bp.b2 bq.b2 hk0 hk0 (by omega)
  have nz : p.2 * q.2 ≠ 0 := Int.mul_ne_zero (by have := hp.pos; omega) (by have := hq.pos; omega)
  have l := lt_up (mul_lt bp.b2 bq.b2) (show k + k ≤ 9000 by omega)
  exact ⟨⟨⟨m1, m2⟩, m3, frac_ok _ nz l⟩, ⟨m1, m2⟩, m3, ratio_ok _ nz l⟩
theorem minus_ok2 (hp : Nf p) (hq : Nf q) : minus_of_ok p q ∧ (MulOk p.1 q.2 ∧ MulOk q.1 p.2) ∧ MulOk p.2 q.2 ∧ law_ratio_ok (p.1 * q.2 - q.1 * p.2) (p.2 * q.2) := by
  have m1 := mulOk bp.b1 bq.b2 hk0 hk0 (by omega)
  have m2 := mulOk bq.b1 bp.b2 hk0 hk0 (by omega)
  have m3 := mulOk bp.b2 bq.b2 hk0 hk0 (by omega)
  have nz : p.2 * q.2 ≠ 0 := Int.mul_ne_zero (by have := hp.pos; omega) (by have := hq.pos; omega)
  have l := lt_up (mul_lt bp.b2 bq.b2) (show k + k ≤ 9000 by omega)
  exact ⟨⟨⟨m1, m2⟩, m3, frac_ok _ nz l⟩, ⟨m1, m2⟩, m3, ratio_ok _ nz l⟩
theorem times_ok2 (hp : Nf p) (hq : Nf q) : times_of_ok p q ∧ MulOk p.1 q.1 ∧ MulOk p.2 q.2 ∧ law_ratio_ok (p.1 * q.1) (p.2 * q.2) := by
  have m1 := mulOk bp.b1 bq.b1 hk0 hk0 (by omega)
  have m3 := mulOk bp.b2 bq.b2 hk0 hk0 (by omega)
  have nz : p.2 * q.2 ≠ 0 := Int.mul_ne_zero (by have := hp.pos; omega) (by have := hq.pos; omega)
  have l := lt_up (mul_lt bp.b2 bq.b2) (show k + k ≤ 9000 by omega)
  exact ⟨⟨m1, m3, frac_ok _ nz l⟩, m1, m3, ratio_ok _ nz l⟩
theorem div_ok2 (hp : Nf p) (h0 : q.1 ≠ 0) : divided_by_ok p q ∧ MulOk p.1 q.2 ∧ MulOk p.2 q.1 ∧ law_ratio_ok (p.1 * q.2) (p.2 * q.1) := by
  have m1 := mulOk bp.b1 bq.b2 hk0 hk0 (by omega)
  have m3 := mulOk bp.b2 bq.b1 hk0 hk0 (by omega)
  have nz : p.2 * q.1 ≠ 0 := Int.mul_ne_zero (by have := hp.pos; omega) h0
  have l := lt_up (mul_lt bp.b2 bq.b1) (show k + k ≤ 9000 by omega)
  exact ⟨⟨m1, m3, frac_ok _ nz l⟩, m1, m3, ratio_ok _ nz l⟩
end
/-! ### two fractions -/
theorem two_right {p q : Int × Int} (hp : Nf p) (hq : Nf q) : law_two_right p q = true := by
  have nz : p.2 * q.2 ≠ 0 := Int.mul_ne_zero (by have := hp.pos; omega) (by have := hq.pos; omega)
  have h1 : law_two_right_e1 p q = law_two_right_e2 p q := fraction_eq _ nz
  have h2 : law_two_right_e3 p q = law_two_right_e4 p q := fraction_eq _ nz
  have h3 : law_two_right_e5 p q = law_two_right_e6 p q := fraction_eq _ nz
  have h4 : ¬ q.1 = 0 → law_two_right_e7 p q = law_two_right_e8 p q := fun h0 => fraction_eq _ (Int.mul_ne_zero (by have := hp.pos; omega) h0)
  have h5 : law_two_right_e9 p q = decide (p.1 * q.2 < q.1 * p.2) := rfl
  have h6 : law_two_right_e10 p = false := by
    show decide (p.1 * p.2 < p.1 * p.2) = false
    simp
  unfold law_two_right
  rw [h1, h2, h3, h5, h6]
  by_cases h0 : q.1 = 0
  · simp [h0]
  · rw [h4 h0]; simp
theorem two_ok {p q : Int × Int} (hp : Nf p) (hq : Nf q) (bp : Bd 70 p) (bq : Bd 70 q) : law_two_right_ok p q :=
  ⟨plus_ok2 (by decide) (by decide) bp bq hp hq, fun _ => ⟨minus_ok2 (by decide) (by decide) bp bq hp hq, fun _ => ⟨times_ok2 (by decide) (by decide) bp bq hp hq, fun _ => ⟨fun h0 => div_ok2 (by decide) (by decide) bp bq hp (by simpa using h0),
    fun _ => ⟨⟨less_ok (by decide) (by decide) bp bq, less_ok (by decide) (by decide) bp bq⟩, fun _ => less_ok (by decide) (by decide) bp bp⟩⟩⟩⟩⟩
/-! ### three fractions -/
theorem minus1 : Nf ((-(1 : Int)), (1 : Int)) := ⟨by decide, by decide⟩
theorem Nf.neg {p : Int × Int} (h : Nf p) : Nf (-p.1, p.2) := ⟨h.pos, by show Int.gcd (-p.1) p.2 = 1; rw [Int.neg_gcd]; exact h.co⟩
theorem times_neg {p : Int × Int} (h : Nf p) : times_of p ((-(1 : Int)), (1 : Int)) = (-p.1, p.2) := by
  refine (times_is h minus1).uniq h.neg.self (Int.mul_ne_zero (by have := h.pos; omega) (by decide)) (by have := h.pos; show p.2 ≠ 0; omega) ?_
  show p.1 * -1 * p.2 = -p.1 * (p.2 * 1)
  grind
theorem plus_comm {p q : Int × Int} (hp : Nf p) (hq : Nf q) : plus_of p q = plus_of q p := by
  have a := hp.pos
  have b := hq.pos
  exact (plus_is hp hq).uniq (plus_is hq hp) (Int.mul_ne_zero (by omega) (by omega)) (Int.mul_ne_zero (by omega) (by omega)) (by grind)
theorem times_comm {p q : Int × Int} (hp : Nf p) (hq : Nf q) : times_of p q = times_of q p := by
  have a := hp.pos
  have b := hq.pos
  exact (times_is hp hq).uniq (times_is hq hp) (Int.mul_ne_zero (by omega) (by omega)) (Int.mul_ne_zero (by omega) (by omega)) (by grind)
theorem plus_minus {p q : Int × Int} (hp : Nf p) (hq : Nf q) : minus_of (plus_of p q) q = p := by
  have a := hp.pos
  have b := hq.pos
  have i := plus_is hp hq
  have c := i.nf.pos
  refine (minus_is i.nf hq).uniq hp.self (Int.mul_ne_zero (by omega) (by omega)) (by omega) ?_
  have e := i.eq
  grind
theorem times_div {p q : Int × Int} (hp : Nf p) (hq : Nf q) (h0 : q.1 ≠ 0) : divided_by (times_of p q) q = p := by
  have a := hp.pos
  have b := hq.pos
  have i := times_is hp hq
  have c := i.nf.pos
  refine (div_is i.nf h0).uniq hp.self (Int.mul_ne_zero (by omega) h0) (by omega) ?_
  have e := i.eq
  grind
theorem less_plus {p q t : Int × Int} (hp : Nf p) (hq : Nf q) (ht : Nf t) (h : p.1 * q.2 < q.1 * p.2) : (plus_of p t).1 * (plus_of q t).2 < (plus_of q t).1 * (plus_of p t).2 := by
  have i := plus_is hp ht
  have j := plus_is hq ht
  have a := hp.pos
  have b := hq.pos
  have c := ht.pos
  have ip := i.nf.pos
  have jp := j.nf.pos
  have e := i.eq
  have f := j.eq
  generalize plus_of p t = u at *
  generalize plus_of q t = v at *
  have kpos : 0 < (p.2 * t.2) * (q.2 * t.2) := Int.mul_pos (Int.mul_pos a c) (Int.mul_pos b c)
  refine Int.lt_of_mul_lt_mul_right (a := (p.2 * t.2) * (q.2 * t.2)) ?_ (by omega)
  have e1 : u.1 * v.2 * ((p.2 * t.2) * (q.2 * t.2)) = (u.2 * v.2) * ((p.1 * t.2 + t.1 * p.2) * (q.2 * t.2)) := by grind
  have e2 : v.1 * u.2 * ((p.2 * t.2) * (q.2 * t.2)) = (u.2 * v.2) * ((q.1 * t.2 + t.1 * q.2) * (p.2 * t.2)) := by grind
  rw [e1, e2]
  refine Int.mul_lt_mul_of_pos_left ?_ (Int.mul_pos ip jp)
  have e3 : (q.1 * t.2 + t.1 * q.2) * (p.2 * t.2) - (p.1 * t.2 + t.1 * p.2) * (q.2 * t.2) = (t.2 * t.2) * (q.1 * p.2 - p.1 * q.2) := by grind
  have e4 : 0 < (t.2 * t.2) * (q.1 * p.2 - p.1 * q.2) := Int.mul_pos (Int.mul_pos c c) (by omega)
  omega
theorem spread {s p : Int × Int} (hs : Nf s) (hp : Nf p) : times_of s (plus_of p s) = plus_of (times_of s p) (times_of s s) := by
  have i := plus_is hp hs
  have u := times_is hs hp
  have v := times_is hs hs
  have a := hp.pos
  have b := hs.pos
  have ip := i.nf.pos
  have up := u.nf.pos
  have vp := v.nf.pos
  refine (times_is hs i.nf).uniq (plus_is u.nf v.nf) (Int.mul_ne_zero (by omega) (by omega)) (Int.mul_ne_zero (by omega) (by omega)) ?_
  have e1 := i.eq
  have e2 := u.eq
  have e3 := v.eq
  generalize plus_of p s = x at *
  generalize times_of s p = y at *
  generalize times_of s s = z at *
  refine Int.eq_of_mul_eq_mul_right (a := (p.2 * s.2) * (s.2 * s.2)) (Int.mul_ne_zero (Int.mul_ne_zero (by omega) (by omega)) (Int.mul_ne_zero (by omega) (by omega))) ?_
  have l : s.1 * x.1 * (y.2 * z.2) * ((p.2 * s.2) * (s.2 * s.2)) = s.1 * (y.2 * z.2) * (s.2 * s.2) * (x.1 * (p.2 * s.2)) := by grind
  have r : (y.1 * z.2 + z.1 * y.2) * (s.2 * x.2) * ((p.2 * s.2) * (s.2 * s.2)) = (s.2 * x.2) * ((y.1 * (s.2 * p.2)) * z.2 * (s.2 * s.2) + (z.1 * (s.2 * s.2)) * y.2 * (p.2 * s.2)) := by grind
  rw [l, r, e1, e2, e3]
  grind
theorem three_right {p q t : Int × Int} (hp : Nf p) (hq : Nf q) (ht : Nf t) : law_three_right p q t = true := by
  have h1 : law_three_right_e1 p q = law_three_right_e2 p q := plus_comm hp hq
  have h2 : law_three_right_e3 p q = law_three_right_e4 p q := times_comm hp hq
  have h3 : law_three_right_e5 p q = p := plus_minus hp hq
  have h4 : ¬ q.1 = 0 → law_three_right_e6 p q = p := times_div hp hq
  have h5 : law_three_right_e7 p q = true → law_three_right_e10 p q t = true := fun h => decide_eq_true (less_plus hp hq ht (of_decide_eq_true h))
  have h6 : law_three_right_e7 p q = law_three_right_e13 p q := by
    unfold law_three_right_e13 law_three_right_e12 law_three_right_e11
    rw [times_neg hp, times_neg hq]
    show decide (p.1 * q.2 < q.1 * p.2) = decide (-q.1 * p.2 < -p.1 * q.2)
    rw [Int.neg_mul, Int.neg_mul]
    by_cases h : p.1 * q.2 < q.1 * p.2
    · rw [decide_eq_true h, decide_eq_true (by omega)]
    · rw [decide_eq_false h, decide_eq_false (by omega)]
  have hs : Nf (law_three_right_e14 t) := (ratio_is _ (by decide)).nf
  have h7 : law_three_right_e16 p t = law_three_right_e19 p t := spread hs hp
  unfold law_three_right
  rw [h1, h2, h3, ← h6, h7]
  by_cases h0 : q.1 = 0
  · cases h : law_three_right_e7 p q with
    | false => simp [h0]
    | true => simp [h0, h5 h]
  · rw [h4 h0]
    cases h : law_three_right_e7 p q with
    | false => simp
    | true => simp [h5 h]

theorem three_ok {p q t : Int × Int} (hp : Nf p) (hq : Nf q) (ht : Nf t) (bp : Bd 70 p) (bq : Bd 70 q) (bt : Bd 70 t) : law_three_right_ok p q t := by
  have hs : Is (law_three_right_e14 t) (t.1 % 1000) 7 := ratio_is _ (by decide)
  have bs : Bd 70 (law_three_right_e14 t) := hs.bd (by
    have h1 := Int.emod_nonneg t.1 (show (1000 : Int) ≠ 0 by decide)
    have h2 := Int.emod_lt_of_pos t.1 (show (0 : Int) < 1000 by decide)
    omega) (by decide)
  have m1 : Bd 70 ((-(1 : Int)), (1 : Int)) := ⟨by decide, by decide⟩
  have pq : plus_of_ok p q := (plus_ok2 (by decide) (by decide) bp bq hp hq).1
  have tpq : times_of_ok p q := (times_ok2 (by decide) (by decide) bp bq hp hq).1
  have npq := (plus_is hp hq).nf
  have bpq := plus_bd (by decide) bp bq hp hq
  have ntq := (times_is hp hq).nf
  have btq := times_bd (by decide) bp bq hp hq
  have npt := (plus_is hp ht).nf
  have bpt := plus_bd (by decide) bp bt hp ht
  have nqt := (plus_is hq ht).nf
  have bqt := plus_bd (by decide) bq bt hq ht
  have nps := (plus_is hp hs.nf).nf
  have bps := plus_bd (by decide) bp bs hp hs.nf
  have nsp := (times_is hs.nf hp).nf
  have bsp := times_bd (by decide) bs bp hs.nf hp
  have nss := (times_is hs.nf hs.nf).nf
  have bss := times_bd (by decide) bs bs hs.nf hs.nf
  have nn1 := (times_is hp minus1).nf
  have bn1 := times_bd (by decide) bp m1 hp minus1
  have nn2 := (times_is hq minus1).nf
  have bn2 := times_bd (by decide) bq m1 hq minus1
  refine ⟨⟨⟨pq, (plus_ok2 (by decide) (by decide) bq bp hq hp).1⟩, fun _ => ⟨tpq, (times_ok2 (by decide) (by decide) bq bp hq hp).1⟩⟩, fun _ => ⟨⟨⟨pq, (minus_ok2 (k := 141) (by decide) (by decide) bpq (bq.mono (by decide)) npq hq).1⟩,
    fun _ h0 => ⟨tpq, (div_ok2 (k := 141) (by decide) (by decide) btq (bq.mono (by decide)) ntq (by simpa using h0)).1⟩⟩, fun _ => ⟨⟨less_ok (by decide) (by decide) bp bq, fun _ => ⟨(plus_ok2 (by decide) (by decide) bp bt hp ht).1, (plus_ok2 (by decide) (by decide) bq bt hq ht).1,
      less_ok (k := 141) (by decide) (by decide) bpt bqt⟩⟩, fun _ => ⟨(times_ok2 (by decide) (by decide) bp m1 hp minus1).1, ⟨less_ok (by decide) (by decide) bp bq, (times_ok2 (by decide) (by decide) bq m1 hq minus1).1, less_ok (k := 141) (by decide) (by decide) bn2 bn1⟩,
        fun _ => ⟨ratio_ok _ (by decide) (by decide), ⟨(plus_ok2 (by decide) (by decide) bp bs hp hs.nf).1, (times_ok2 (k := 141) (by decide) (by decide) (bs.mono (by decide)) bps hs.nf nps).1⟩,
          (times_ok2 (by decide) (by decide) bs bp hs.nf hp).1, (times_ok2 (by decide) (by decide) bs bs hs.nf hs.nf).1, (plus_ok2 (k := 141) (by decide) (by decide) bsp bss nsp nss).1⟩⟩⟩⟩⟩
/-! ### drawn fractions -/
theorem size_ok (d script : List Int) : law_size_ok d script := by
  refine ⟨take_ok _ (by decide), take_ok _ (by decide), fun _ => take_ok _ (by decide), fun h => ?_, fun _ => take_ok _ (by decide)⟩
  have h2 : (0 : Int) < (script.length : Int) := by
    simp at h
    omega
  refine ⟨take_ok _ h2, ?_⟩
  have a := take_ge (law_size_e5 d).1 h2
  have b := take_lt (law_size_e5 d).1 h2
  unfold IxOk law_size_e6
  omega
theorem sign_mul {x : Int} (d : List Int) {m : Int} (hx : 0 ≤ x) : MulOk x (1 - 2 * (law_take d 2).1) := .inl (.inr (by
  have a := take_ge d (show (0 : Int) < 2 by decide)
  have b := take_lt d (show (0 : Int) < 2 by decide)
  omega))
theorem mod_ge (x : Int) {m : Int} (h : 0 < m) : 0 ≤ x % m ∧ x % m < m := ⟨Int.emod_nonneg _ (by omega), Int.emod_lt_of_pos _ h⟩
theorem ix2 {a b i : Int} (h0 : 0 ≤ i) (h1 : i < 2) (P : Int → Prop) (ha : P a) (hb : P b) : IxOk [a, b] i ∧ P (ix [a, b] i 0) := by
  have : i = 0 ∨ i = 1 := by omega
  rcases this with rfl | rfl
  · exact ⟨by unfold IxOk; simp, ha⟩
  · exact ⟨by unfold IxOk; simp, hb⟩
theorem fraction_drawn (d script : List Int) : law_fraction_ok d script ∧ Nf (law_fraction d script).1 ∧ Bd 70 (law_fraction d script).1 := by
  have t1 := take_ge d (show (0 : Int) < 40 by decide)
  have t1' := take_lt d (show (0 : Int) < 40 by decide)
  have t3 := take_ge (law_fraction_e2 d script).2 (show (0 : Int) < 2 by decide)
  have t3' := take_lt (law_fraction_e2 d script).2 (show (0 : Int) < 2 by decide)
  have t4 := take_ge (law_fraction_e3 d script).2 (show (0 : Int) < 2 by decide)
  have t4' := take_lt (law_fraction_e3 d script).2 (show (0 : Int) < 2 by decide)
  have t6 := take_ge (law_fraction_e4 d script).2 (show (0 : Int) < 9 by decide)
  have t6' := take_lt (law_fraction_e4 d script).2 (show (0 : Int) < 9 by decide)
  have t8 := take_ge (law_fraction_e7 d script).2 (show (0 : Int) < 2 by decide)
  have t8' := take_lt (law_fraction_e7 d script).2 (show (0 : Int) < 2 by decide)
  have p19 : (10 : Int) ^ (19 : Nat) = 10000000000000000000 := by decide
  have s2 := mod_ge (law_fraction_e2 d script).1 (m := (10 : Int) ^ (19 : Nat)) (by rw [p19]; decide)
  have s7 := mod_ge (law_fraction_e7 d script).1 (m := (10 : Int) ^ (19 : Nat)) (by rw [p19]; decide)
  have n1 := ix2 (a := ((law_fraction_e1 d).1 - (18 : Int))) (b := (((law_fraction_e2 d script).1 % ((10 : Int) ^ (19 : Nat))) * ((1 : Int) - ((2 : Int) * (law_fraction_e3 d script).1)))) t4 t4' (fun z => z.natAbs < 2 ^ 70) (by
      show ((law_take d 40).1 - 18).natAbs < 2 ^ 70
      omega) (by
      show (((law_fraction_e2 d script).1 % ((10 : Int) ^ (19 : Nat))) * ((1 : Int) - ((2 : Int) * (law_take (law_fraction_e2 d script).2 2).1))).natAbs < 2 ^ 70
      have : (law_take (law_fraction_e2 d script).2 2).1 = 0 ∨ (law_take (law_fraction_e2 d script).2 2).1 = 1 := by omega
      rcases this with e | e
      · rw [e]; rw [p19] at s2 ⊢; omega
      · rw [e]; rw [p19] at s2 ⊢; omega)
  have n2 := ix2 (a := (law_fraction_e6 d script).1) (b := ((law_fraction_e7 d script).1 % ((10 : Int) ^ (19 : Nat)))) t8 t8' (fun z => 0 ≤ z ∧ z < 10000000000000000000) ⟨t6, by show (law_take (law_fraction_e4 d script).2 9).1 < _; omega⟩ (by rw [p19] at s7 ⊢; exact s7)
  have dpos : (1 : Int) + (ix ([(law_fraction_e6 d script).1, ((law_fraction_e7 d script).1 % ((10 : Int) ^ (19 : Nat)))] : List Int) (law_fraction_e8 d script).1 (0 : Int)) ≠ 0 := by
    have := n2.2
    show (1 : Int) + ix _ (law_take (law_fraction_e7 d script).2 2).1 0 ≠ 0
    omega
  have db : ((1 : Int) + (ix ([(law_fraction_e6 d script).1, ((law_fraction_e7 d script).1 % ((10 : Int) ^ (19 : Nat)))] : List Int) (law_fraction_e8 d script).1 (0 : Int))).natAbs < 2 ^ 70 := by
    have := n2.2
    show ((1 : Int) + ix _ (law_take (law_fraction_e7 d script).2 2).1 0).natAbs < 2 ^ 70
    omega
  have r := ratio_is (law_fraction_e5 d script) dpos
  refine ⟨⟨⟨⟨take_ok _ (by decide), size_ok _ _, take_ok _ (by decide), sign_mul (m := 2) _ s2.1⟩, take_ok _ (by decide), n1.1⟩, ⟨⟨take_ok _ (by decide), size_ok _ _⟩, take_ok _ (by decide), n2.1⟩, ratio_ok _ dpos (lt_up db (by decide))⟩, r.nf, r.bd n1.2 db⟩
/-! ### the law -/
theorem loop_all {S : Type} (f : S → Int → LO S Bool) (ok : S → Int → Prop) (h : ∀ s x, ok s x ∧ ∃ s', f s x = .nx s') : ∀ (l : List Int) (s : S), loopOk f ok s l ∧ ∃ s', loopL f s l = .inl s'
  | [], s => ⟨trivial, s, rfl⟩
  | x :: xs, s => by
    obtain ⟨h1, s', e⟩ := h s x
    obtain ⟨h2, s'', e2⟩ := loop_all f ok h xs s'
    unfold loopOk loopL
    rw [e]
    exact ⟨⟨h1, h2⟩, s'', e2⟩
theorem turn (script s : List Int) (x : Int) : law__f3_ok script s x ∧ ∃ s', law__f3 script s x = .nx s' := by
  have t5 := take_ge (law__e4 script s).2 (show (0 : Int) < 2 by decide)
  have t5' := take_lt (law__e4 script s).2 (show (0 : Int) < 2 by decide)
  have t7 := take_ge (law__e6 script s).2 (show (0 : Int) < 2 by decide)
  have t7' := take_lt (law__e6 script s).2 (show (0 : Int) < 2 by decide)
  have p29 : (10 : Int) ^ (29 : Nat) = 100000000000000000000000000000 := by decide
  have s4 := mod_ge (law__e4 script s).1 (m := (10 : Int) ^ (29 : Nat)) (by rw [p29]; decide)
  have s6 := mod_ge (law__e6 script s).1 (m := (10 : Int) ^ (29 : Nat)) (by rw [p29]; decide)
  have d1 : (((1 : Int) + ((law__e6 script s).1 % ((10 : Int) ^ (29 : Nat)))) * ((1 : Int) - ((2 : Int) * (law__e7 script s).1))) ≠ 0 ∧ (((1 : Int) + ((law__e6 script s).1 % ((10 : Int) ^ (29 : Nat)))) * ((1 : Int) - ((2 : Int) * (law__e7 script s).1))).natAbs < 2 ^ 9000 := by
    show (((1 : Int) + ((law__e6 script s).1 % ((10 : Int) ^ (29 : Nat)))) * ((1 : Int) - ((2 : Int) * (law_take (law__e6 script s).2 2).1))) ≠ 0 ∧ (((1 : Int) + ((law__e6 script s).1 % ((10 : Int) ^ (29 : Nat)))) * ((1 : Int) - ((2 : Int) * (law_take (law__e6 script s).2 2).1))).natAbs < 2 ^ 9000
    have b : ∀ z : Int, z.natAbs < 2 ^ 100 → z.natAbs < 2 ^ 9000 := fun z h => lt_up h (by decide)
    have : (law_take (law__e6 script s).2 2).1 = 0 ∨ (law_take (law__e6 script s).2 2).1 = 1 := by omega
    rcases this with e | e
    · rw [e]; rw [p29] at s6 ⊢; exact ⟨by omega, b _ (by omega)⟩
    · rw [e]; rw [p29] at s6 ⊢; exact ⟨by omega, b _ (by omega)⟩
  have f1 := fraction_drawn (law__e7 script s).2 script
  have f2 := fraction_drawn (law__e12 script s).2 script
  have f3 := fraction_drawn (law__e13 script s).2 script
  have e1 : law__e8 script s = law__e9 script s := fraction_eq _ d1.1
  have e2 : law__e10 script s = law__e11 script s := by
    have a : law__e10 script s = law_ratio ((((law__e4 script s).1 % ((10 : Int) ^ (29 : Nat))) * ((1 : Int) - ((2 : Int) * (law__e5 script s).1))) * (6 : Int)) 4 := fraction_eq _ (by decide)
    rw [a]
    exact (ratio_is _ (by decide)).uniq (ratio_is _ (by decide)) (by decide) (by decide) (by omega)
  have e3 : law__e15 script s = true := two_right f1.2.1 f2.2.1
  have e4 : law__e16 script s = true := two_right f2.2.1 f3.2.1
  have e5 : law__e17 script s = true := three_right f1.2.1 f2.2.1 f3.2.1
  refine ⟨⟨⟨size_ok _ _, take_ok _ (by decide), sign_mul (m := 2) _ s4.1⟩, ⟨size_ok _ _, take_ok _ (by decide), sign_mul (m := 2) _ (by have := s6.1; omega)⟩, ⟨⟨frac_ok _ d1.1 d1.2, ratio_ok _ d1.1 d1.2⟩, fun _ => ⟨frac_ok _ (by decide) (lt_up (b := 9000) (a := 3) (by decide) (by decide)), ratio_ok _ (by decide) (lt_up (b := 9000) (a := 3) (by decide) (by decide))⟩⟩,
    fun _ => ⟨f1.1, f2.1, f3.1, two_ok f1.2.1 f2.2.1 f1.2.2 f2.2.2, fun _ => two_ok f2.2.1 f3.2.1 f2.2.2 f3.2.2, fun _ _ => three_ok f1.2.1 f2.2.1 f3.2.1 f1.2.2 f2.2.2 f3.2.2⟩⟩, (law__e14 script s).2, ?_⟩
  unfold law__f3
  rw [e1, e2, e3, e4, e5]
  simp
theorem small_ok (n d : Int) (hd : d ≠ 0) (h : d.natAbs < 2 ^ 10) : fraction_ok n d := frac_ok n hd (lt_up h (by decide))
theorem nf_of {a b : Int} (h : 0 < b) (g : Int.gcd a b = 1) : Nf (a, b) := ⟨h, g⟩
theorem law_true (script : List Int) (hs : script.length ≤ 63) : law__ok script ∧ law_ script = true := by
  obtain ⟨h1, s', e⟩ := loop_all (law__f3 script) (law__f3_ok script) (turn script) (irange 0 4) (law__e1 script)
  have z1 : law__e25 = ((3 : Int), (2 : Int)) := (fraction_is _ (by decide)).uniq (nf_of (a := 3) (b := 2) (by decide) (by decide)).self (by decide) (by decide) (by decide)
  have z2 : law__e26 = ((-(3 : Int)), (2 : Int)) := (fraction_is _ (by decide)).uniq (nf_of (a := -3) (b := 2) (by decide) (by decide)).self (by decide) (by decide) (by decide)
  have z3 : law__e27 = ((0 : Int), (1 : Int)) := (fraction_is _ (by decide)).uniq (nf_of (a := 0) (b := 1) (by decide) (by decide)).self (by decide) (by decide) (by decide)
  have z4 : law__e28 = ((1 : Int), (2 : Int)) := (fraction_is _ (by decide)).uniq (nf_of (a := 1) (b := 2) (by decide) (by decide)).self (by decide) (by decide) (by decide)
  have z5 : law__e29 = ((-(2 : Int)), (3 : Int)) := (fraction_is _ (by decide)).uniq (nf_of (a := -2) (b := 3) (by decide) (by decide)).self (by decide) (by decide) (by decide)
  have z6 : law__e30 = ((0 : Int), (1 : Int)) := (fraction_is _ (by decide)).uniq (nf_of (a := 0) (b := 1) (by decide) (by decide)).self (by decide) (by decide) (by decide)
  have z7 : law__e31 = true := by decide
  have z8 : law__e32 = ((1 : Int), (1 : Int)) := (fraction_is _ (by decide)).uniq (nf_of (a := 1) (b := 1) (by decide) (by decide)).self (by decide) (by decide) (by decide)
  have q := fun {a b : Int} (h1 : a.natAbs < 2 ^ 4) (h2 : b.natAbs < 2 ^ 4) => mulOk (x := a) (y := b) h1 h2 (by decide) (by decide) (by decide)
  refine ⟨⟨draws_ok _ (by decide) (by decide) hs, ⟨⟨by decide, by decide⟩, h1⟩, fun _ _ => ⟨⟨small_ok _ _ (by decide) (by decide), fun _ => small_ok _ _ (by decide) (by decide), fun _ _ => small_ok _ _ (by decide) (by decide),
    fun _ _ _ => ⟨⟨q (by decide) (by decide), q (by decide) (by decide)⟩, q (by decide) (by decide), small_ok _ _ (by decide) (by decide)⟩⟩, fun _ => ⟨⟨q (by decide) (by decide), q (by decide) (by decide), small_ok _ _ (by decide) (by decide)⟩,
      fun _ => ⟨⟨⟨q (by decide) (by decide), q (by decide) (by decide)⟩, q (by decide) (by decide), small_ok _ _ (by decide) (by decide)⟩, fun _ => ⟨q (by decide) (by decide), q (by decide) (by decide)⟩, fun _ _ => ⟨q (by decide) (by decide), q (by decide) (by decide), small_ok _ _ (by decide) (by decide)⟩⟩⟩⟩⟩, ?_⟩
  unfold law_
  rw [e]
  simp only [afterL]
  rw [z1, z2, z3, z4, z5, z6, z7, z8]
  decide
end K20

namespace K20
open PySem PySem.Spec PyProof.Rows L2 VL
theorem b_law_draws : ∀ (kV doc pm : Value) (an : Option Addr) (cdv ct : Value) (us : List Value), us.length = 2 → bindArgs (PySem.W.fnOf "_law_draws" "_law_draws" (defArgs s_law_draws) (defBody s_law_draws) (defScope s_law_draws) .none kV doc pm an cdv ct) ⟨us, []⟩ = pure ((["script", "many"] : List Str).zip us) := fun _ _ _ _ _ _ us hl => match us, hl with | [_, _], _ => rfl
theorem b_law_take : ∀ (kV doc pm : Value) (an : Option Addr) (cdv ct : Value) (us : List Value), us.length = 2 → bindArgs (PySem.W.fnOf "_law_take" "_law_take" (defArgs s_law_take) (defBody s_law_take) (defScope s_law_take) .none kV doc pm an cdv ct) ⟨us, []⟩ = pure ((["draws", "many"] : List Str).zip us) := fun _ _ _ _ _ _ us hl => match us, hl with | [_, _], _ => rfl
theorem b_law_size : ∀ (kV doc pm : Value) (an : Option Addr) (cdv ct : Value) (us : List Value), us.length = 2 → bindArgs (PySem.W.fnOf "_law_size" "_law_size" (defArgs s_law_size) (defBody s_law_size) (defScope s_law_size) .none kV doc pm an cdv ct) ⟨us, []⟩ = pure ((["draws", "script"] : List Str).zip us) := fun _ _ _ _ _ _ us hl => match us, hl with | [_, _], _ => rfl
theorem b_divisor_of : ∀ (kV doc pm : Value) (an : Option Addr) (cdv ct : Value) (us : List Value), us.length = 2 → bindArgs (PySem.W.fnOf "divisor_of" "divisor_of" (defArgs s_divisor_of) (defBody s_divisor_of) (defScope s_divisor_of) .none kV doc pm an cdv ct) ⟨us, []⟩ = pure ((["one", "other"] : List Str).zip us) := fun _ _ _ _ _ _ us hl => match us, hl with | [_, _], _ => rfl
theorem b_fraction : ∀ (kV doc pm : Value) (an : Option Addr) (cdv ct : Value) (us : List Value), us.length = 2 → bindArgs (PySem.W.fnOf "fraction" "fraction" (defArgs s_fraction) (defBody s_fraction) (defScope s_fraction) .none kV doc pm an cdv ct) ⟨us, []⟩ = pure ((["n", "d"] : List Str).zip us) := fun _ _ _ _ _ _ us hl => match us, hl with | [_, _], _ => rfl
theorem b_law_divisor : ∀ (kV doc pm : Value) (an : Option Addr) (cdv ct : Value) (us : List Value), us.length = 2 → bindArgs (PySem.W.fnOf "_law_divisor" "_law_divisor" (defArgs s_law_divisor) (defBody s_law_divisor) (defScope s_law_divisor) .none kV doc pm an cdv ct) ⟨us, []⟩ = pure ((["one", "other"] : List Str).zip us) := fun _ _ _ _ _ _ us hl => match us, hl with | [_, _], _ => rfl
theorem b_law_ratio : ∀ (kV doc pm : Value) (an : Option Addr) (cdv ct : Value) (us : List Value), us.length = 2 → bindArgs (PySem.W.fnOf "_law_ratio" "_law_ratio" (defArgs s_law_ratio) (defBody s_law_ratio) (defScope s_law_ratio) .none kV doc pm an cdv ct) ⟨us, []⟩ = pure ((["n", "d"] : List Str).zip us) := fun _ _ _ _ _ _ us hl => match us, hl with | [_, _], _ => rfl
theorem b_law_same : ∀ (kV doc pm : Value) (an : Option Addr) (cdv ct : Value) (us : List Value), us.length = 2 → bindArgs (PySem.W.fnOf "_law_same" "_law_same" (defArgs s_law_same) (defBody s_law_same) (defScope s_law_same) .none kV doc pm an cdv ct) ⟨us, []⟩ = pure ((["actual", "due"] : List Str).zip us) := fun _ _ _ _ _ _ us hl => match us, hl with | [_, _], _ => rfl
theorem b_law_fraction : ∀ (kV doc pm : Value) (an : Option Addr) (cdv ct : Value) (us : List Value), us.length = 2 → bindArgs (PySem.W.fnOf "_law_fraction" "_law_fraction" (defArgs s_law_fraction) (defBody s_law_fraction) (defScope s_law_fraction) .none kV doc pm an cdv ct) ⟨us, []⟩ = pure ((["draws", "script"] : List Str).zip us) := fun _ _ _ _ _ _ us hl => match us, hl with | [_, _], _ => rfl
theorem b_plus_of : ∀ (kV doc pm : Value) (an : Option Addr) (cdv ct : Value) (us : List Value), us.length = 2 → bindArgs (PySem.W.fnOf "plus_of" "plus_of" (defArgs s_plus_of) (defBody s_plus_of) (defScope s_plus_of) .none kV doc pm an cdv ct) ⟨us, []⟩ = pure ((["one", "other"] : List Str).zip us) := fun _ _ _ _ _ _ us hl => match us, hl with | [_, _], _ => rfl
theorem b_minus_of : ∀ (kV doc pm : Value) (an : Option Addr) (cdv ct : Value) (us : List Value), us.length = 2 → bindArgs (PySem.W.fnOf "minus_of" "minus_of" (defArgs s_minus_of) (defBody s_minus_of) (defScope s_minus_of) .none kV doc pm an cdv ct) ⟨us, []⟩ = pure ((["one", "other"] : List Str).zip us) := fun _ _ _ _ _ _ us hl => match us, hl with | [_, _], _ => rfl
theorem b_times_of : ∀ (kV doc pm : Value) (an : Option Addr) (cdv ct : Value) (us : List Value), us.length = 2 → bindArgs (PySem.W.fnOf "times_of" "times_of" (defArgs s_times_of) (defBody s_times_of) (defScope s_times_of) .none kV doc pm an cdv ct) ⟨us, []⟩ = pure ((["one", "other"] : List Str).zip us) := fun _ _ _ _ _ _ us hl => match us, hl with | [_, _], _ => rfl
theorem b_divided_by : ∀ (kV doc pm : Value) (an : Option Addr) (cdv ct : Value) (us : List Value), us.length = 2 → bindArgs (PySem.W.fnOf "divided_by" "divided_by" (defArgs s_divided_by) (defBody s_divided_by) (defScope s_divided_by) .none kV doc pm an cdv ct) ⟨us, []⟩ = pure ((["one", "other"] : List Str).zip us) := fun _ _ _ _ _ _ us hl => match us, hl with | [_, _], _ => rfl
theorem b_is_less : ∀ (kV doc pm : Value) (an : Option Addr) (cdv ct : Value) (us : List Value), us.length = 2 → bindArgs (PySem.W.fnOf "is_less" "is_less" (defArgs s_is_less) (defBody s_is_less) (defScope s_is_less) .none kV doc pm an cdv ct) ⟨us, []⟩ = pure ((["one", "other"] : List Str).zip us) := fun _ _ _ _ _ _ us hl => match us, hl with | [_, _], _ => rfl
theorem b_law_two_right : ∀ (kV doc pm : Value) (an : Option Addr) (cdv ct : Value) (us : List Value), us.length = 2 → bindArgs (PySem.W.fnOf "_law_two_right" "_law_two_right" (defArgs s_law_two_right) (defBody s_law_two_right) (defScope s_law_two_right) .none kV doc pm an cdv ct) ⟨us, []⟩ = pure ((["one", "other"] : List Str).zip us) := fun _ _ _ _ _ _ us hl => match us, hl with | [_, _], _ => rfl
theorem b_law_three_right : ∀ (kV doc pm : Value) (an : Option Addr) (cdv ct : Value) (us : List Value), us.length = 3 → bindArgs (PySem.W.fnOf "_law_three_right" "_law_three_right" (defArgs s_law_three_right) (defBody s_law_three_right) (defScope s_law_three_right) .none kV doc pm an cdv ct) ⟨us, []⟩ = pure ((["one", "other", "third"] : List Str).zip us) := fun _ _ _ _ _ _ us hl => match us, hl with | [_, _, _], _ => rfl
theorem all_mk {l : PySem.W.OpenLaw} {w : World} {K : PySem.W.Frag} {h : Heap} {mg : Str → Option Value} {fa f : Addr} {od an : Option Addr} {sl : Array (Option Value)} {oc kV dc pm cd ct : Value} (X : K.In h) (G : h.Ns mainGlobals mg) (hfa : mg "law" = some (.ref fa)) (D_law_draws : DefAt K mg "_law_draws" s_law_draws ["script", "many"]) (D_law_take : DefAt K mg "_law_take" s_law_take ["draws", "many"]) (D_law_size : DefAt K mg "_law_size" s_law_size ["draws", "script"]) (D_divisor_of : DefAt K mg "divisor_of" s_divisor_of ["one", "other"]) (D_fraction : DefAt K mg "fraction" s_fraction ["n", "d"]) (D_law_divisor : DefAt K mg "_law_divisor" s_law_divisor ["one", "other"]) (D_law_ratio : DefAt K mg "_law_ratio" s_law_ratio ["n", "d"]) (D_law_same : DefAt K mg "_law_same" s_law_same ["actual", "due"]) (D_law_fraction : DefAt K mg "_law_fraction" s_law_fraction ["draws", "script"]) (D_plus_of : DefAt K mg "plus_of" s_plus_of ["one", "other"]) (D_minus_of : DefAt K mg "minus_of" s_minus_of ["one", "other"]) (D_times_of : DefAt K mg "times_of" s_times_of ["one", "other"]) (D_divided_by : DefAt K mg "divided_by" s_divided_by ["one", "other"]) (D_is_less : DefAt K mg "is_less" s_is_less ["one", "other"]) (D_law_two_right : DefAt K mg "_law_two_right" s_law_two_right ["one", "other"]) (D_law_three_right : DefAt K mg "_law_three_right" s_law_three_right ["one", "other", "third"]) (m_int : mg "int" = none) (m_len : mg "len" = none) (m_list : mg "list" = none) (m_range : mg "range" = none) (m_abs : mg "abs" = none) (m_isinstance : mg "isinstance" = none) (m_bool : mg "bool" = none) (m_str : mg "str" = none) (m_tuple : mg "tuple" = none)
    (a : PySem.W.nsIn K mainGlobals "law" = some (some (.ref f))) (lk : K.lookup f = some ⟨oc, od, .func (PySem.W.fnOf "law" "law" (defArgs s_law_) (defBody s_law_) (defScope s_law_) .none kV dc pm an cd ct), sl⟩) (c : PySem.W.codeIn K cd "law" = true) (kp : PySem.W.keepIn K (.ref f) = true) :
    ∃ fd : FuncData, (∀ (s : Shared) (v : Value), BindsTo s fd ⟨[v], []⟩ [("script", v)]) ∧ ∀ base : Heap, K.In base → base.Ns mainGlobals mg → FnOk l.prog w K mg base CX0 5 fa fd ["script"] (SpOf K (RLaw 63)) := by
  have e := hfa.symm.trans (PySem.W.mg_of X G a)
  cases e
  have F := fun_mk (st := s_law_) lk c kp
  refine ⟨PySem.W.fnOf "law" "law" (defArgs s_law_) (defBody s_law_) (defScope s_law_) .none kV dc pm an cd ct, fun s v => .of_eq rfl, fun base _ _ => ?_⟩
  have C_law_draws := ok_law_draws (P := l.prog) (w := w) (base := base) D_law_draws m_int m_len m_list m_range 
  have C_law_take := ok_law_take (P := l.prog) (w := w) (base := base) D_law_take m_len m_int 
  have C_law_size := ok_law_size (P := l.prog) (w := w) (base := base) D_law_size m_len m_int m_abs C_law_take
  have C_divisor_of := ok_divisor_of (P := l.prog) (w := w) (base := base) D_divisor_of m_abs 
  have C_fraction := ok_fraction (P := l.prog) (w := w) (base := base) D_fraction  C_divisor_of
  have C_law_divisor := ok_law_divisor (P := l.prog) (w := w) (base := base) D_law_divisor m_int 
  have C_law_ratio := ok_law_ratio (P := l.prog) (w := w) (base := base) D_law_ratio m_abs C_law_divisor
  have C_law_same := ok_law_same (P := l.prog) (w := w) (base := base) D_law_same m_isinstance m_bool m_int m_str m_tuple m_len m_range
  have C_law_fraction := ok_law_fraction (P := l.prog) (w := w) (base := base) D_law_fraction  C_law_take C_law_size C_law_ratio
  have C_plus_of := ok_plus_of (P := l.prog) (w := w) (base := base) D_plus_of  C_fraction
  have C_minus_of := ok_minus_of (P := l.prog) (w := w) (base := base) D_minus_of  C_fraction
  have C_times_of := ok_times_of (P := l.prog) (w := w) (base := base) D_times_of  C_fraction
  have C_divided_by := ok_divided_by (P := l.prog) (w := w) (base := base) D_divided_by  C_fraction
  have C_is_less := ok_is_less (P := l.prog) (w := w) (base := base) D_is_less  
  have C_law_two_right := ok_law_two_right (P := l.prog) (w := w) (base := base) D_law_two_right  C_plus_of C_law_ratio C_law_same C_minus_of C_times_of C_divided_by C_is_less
  have C_law_three_right := ok_law_three_right (P := l.prog) (w := w) (base := base) D_law_three_right m_int C_plus_of C_law_same C_times_of C_minus_of C_divided_by C_is_less C_law_ratio
  refine (ok_law_ (P := l.prog) (w := w) (base := base) F m_range C_law_draws C_law_size C_law_take C_fraction C_law_ratio C_law_same C_law_fraction C_law_two_right C_law_three_right C_plus_of C_divided_by C_minus_of C_is_less C_times_of).imp fun vs H Q E ⟨Z, args, r, outs, ⟨ns, hl, e1, e2, e3⟩, q⟩ => ⟨Z, args, r, outs, ⟨ns, (law_true ns hl).1, e1, by rw [e2, (law_true ns hl).2], by rw [e3, e1]; rfl⟩, q⟩
end K20
open PySem PySem.W PyProof.Rows
set_option maxHeartbeats 0 in
theorem PySem.Challenge.cw_boatsout_k20_fractions_in_least_form_holds : PySem.Challenge.rw_boatsout_k20_fractions_in_least_form.Holds := by
  w_on; o_law; k_head; (case hw => w_witness2)
  k_fill
  refine L2.walk_ofK (l := PySem.Challenge.rw_boatsout_k20_fractions_in_least_form) (n := 63) (k := 5) (x := "script") (CX := L2.CX0) (sp := fun K => VL.SpOf K (VL.RLaw 63)) rfl (by decide) rfl ⟨rfl, by decide, by decide⟩ (fun w h Y => PySem.W.kIn_of Y) ?F (fun _ _ _ _ hl hO hS => VL.law_sp (by decide) hl hO hS) (fun _ _ _ _ h => h)
  case F =>
    intro w mg fa h KX G hmg
    refine' K20.all_mk KX G hmg (VL.defAt KX G ?a0 ?l0 ?c0 ?k0 K20.b_law_draws) (VL.defAt KX G ?a1 ?l1 ?c1 ?k1 K20.b_law_take) (VL.defAt KX G ?a2 ?l2 ?c2 ?k2 K20.b_law_size) (VL.defAt KX G ?a3 ?l3 ?c3 ?k3 K20.b_divisor_of) (VL.defAt KX G ?a4 ?l4 ?c4 ?k4 K20.b_fraction) (VL.defAt KX G ?a5 ?l5 ?c5 ?k5 K20.b_law_divisor) (VL.defAt KX G ?a6 ?l6 ?c6 ?k6 K20.b_law_ratio) (VL.defAt KX G ?a7 ?l7 ?c7 ?k7 K20.b_law_same) (VL.defAt KX G ?a8 ?l8 ?c8 ?k8 K20.b_law_fraction) (VL.defAt KX G ?a9 ?l9 ?c9 ?k9 K20.b_plus_of) (VL.defAt KX G ?a10 ?l10 ?c10 ?k10 K20.b_minus_of) (VL.defAt KX G ?a11 ?l11 ?c11 ?k11 K20.b_times_of) (VL.defAt KX G ?a12 ?l12 ?c12 ?k12 K20.b_divided_by) (VL.defAt KX G ?a13 ?l13 ?c13 ?k13 K20.b_is_less) (VL.defAt KX G ?a14 ?l14 ?c14 ?k14 K20.b_law_two_right) (VL.defAt KX G ?a15 ?l15 ?c15 ?k15 K20.b_law_three_right) (PySem.W.mg_none_of KX G ?z0) (PySem.W.mg_none_of KX G ?z1) (PySem.W.mg_none_of KX G ?z2) (PySem.W.mg_none_of KX G ?z3) (PySem.W.mg_none_of KX G ?z4) (PySem.W.mg_none_of KX G ?z5) (PySem.W.mg_none_of KX G ?z6) (PySem.W.mg_none_of KX G ?z7) (PySem.W.mg_none_of KX G ?z8) ?a ?l ?c ?k
    (case a0 => k_is); (case l0 => k_is); (case c0 => k_is); (case k0 => k_is); (case a1 => k_is); (case l1 => k_is); (case c1 => k_is); (case k1 => k_is); (case a2 => k_is); (case l2 => k_is); (case c2 => k_is); (case k2 => k_is); (case a3 => k_is); (case l3 => k_is); (case c3 => k_is); (case k3 => k_is); (case a4 => k_is); (case l4 => k_is); (case c4 => k_is); (case k4 => k_is); (case a5 => k_is); (case l5 => k_is); (case c5 => k_is); (case k5 => k_is); (case a6 => k_is); (case l6 => k_is); (case c6 => k_is); (case k6 => k_is); (case a7 => k_is); (case l7 => k_is); (case c7 => k_is); (case k7 => k_is); (case a8 => k_is); (case l8 => k_is); (case c8 => k_is); (case k8 => k_is); (case a9 => k_is); (case l9 => k_is); (case c9 => k_is); (case k9 => k_is); (case a10 => k_is); (case l10 => k_is); (case c10 => k_is); (case k10 => k_is); (case a11 => k_is); (case l11 => k_is); (case c11 => k_is); (case k11 => k_is); (case a12 => k_is); (case l12 => k_is); (case c12 => k_is); (case k12 => k_is); (case a13 => k_is); (case l13 => k_is); (case c13 => k_is); (case k13 => k_is); (case a14 => k_is); (case l14 => k_is); (case c14 => k_is); (case k14 => k_is); (case a15 => k_is); (case l15 => k_is); (case c15 => k_is); (case k15 => k_is); (case z0 => k_is); (case z1 => k_is); (case z2 => k_is); (case z3 => k_is); (case z4 => k_is); (case z5 => k_is); (case z6 => k_is); (case z7 => k_is); (case z8 => k_is); (case a => k_is); (case l => k_is); (case c => k_is); (case k => k_is)
